import PyProof.Rows.All
import Wide.All
import OpenK.AllK
import Wide.FinOn
import HandS.ForMost
import HandS.IsInst
import HandS.Conv
import HandS.Flow
import HandS.Wide
import HandS.TupAny
import HandS.TupMul
import HandS.TupLe
import HandS.Style
import HandS.StrMore
import HandS.Codes
import HandS.Replace
import PyProof.Rows.StrPadFill
import PyProof.Rows.StrPadWhole
import HandS.Iter
import KE.GoesEnum
import HandS.TryOnly
import PySem.Challenge.RW_tidings_k73_spelling_sounds
set_option Elab.async false
set_option linter.all false
set_option maxRecDepth 100000
/-! Mp0: values, store, results, of a small evaluator; its relation to the layer's heap. -/
namespace Mp
open PySem PySem.Spec PyProof.Rows L2

/-- a value: texts as code points, tuples by value, lists by a number in the store; ltc: a list that nobody writes -/
inductive PV where
  | non | bl (b : Bool) | int (i : Int) | str (x : List Nat) | tup (xs : List PV) | ltc (xs : List PV) | ref (n : Nat)
inductive SO where
  | lst (xs : List PV)
abbrev Store := List SO
inductive Res (α : Type) where
  | ok (a : α) (S : Store) | exc (c : Nat) (a : PV) (S : Store) | bad
def Res.bind {α β : Type} (r : Res α) (f : α → Store → Res β) : Res β :=
  match r with | .ok a S => f a S | .exc c a S => .exc c a S | .bad => .bad
@[simp] theorem Res.bind_ok {α β : Type} (a : α) (S : Store) (f : α → Store → Res β) : (Res.ok a S).bind f = f a S := rfl
@[simp] theorem Res.bind_bad {α β : Type} (f : α → Store → Res β) : (Res.bad : Res α).bind f = .bad := rfl
@[simp] theorem Res.bind_exc {α β : Type} (c : Nat) (a : PV) (S : Store) (f : α → Store → Res β) : (Res.exc c a S : Res α).bind f = .exc c a S := rfl
abbrev Loc := List (Option PV)

/-! ### the relation -/
/-- a list that nobody writes: locked, or the module's -/
def imL (K : PySem.W.Frag) (H : Hp) (a : Addr) (vs : List V) : Prop := (∃ o, H a = some (.frz o (.lst vs))) ∨ SqL K (fun _ => none) a vs
theorem imL.sq {K : PySem.W.Frag} {H : Hp} {a : Addr} {vs : List V} (h : imL K H a vs) : SqL K H a vs := by
  rcases h with ⟨o, h⟩ | (h | ⟨o, h⟩) | h
  · exact .inl (.inr ⟨o, h⟩)
  · cases h
  · cases h
  · exact .inr h
mutual
def relV (K : PySem.W.Frag) (φ : List Addr) (H : Hp) : PV → V → Prop
  | .non, v => v = .non
  | .bl b, v => v = .bl b
  | .int i, v => v = .int i
  | .str x, v => v = .str ⟨x.toArray⟩
  | .tup xs, v => ∃ a vs, v = .ref a ∧ SqT K H a vs ∧ relVs K φ H xs vs
  | .ltc xs, v => ∃ a vs, v = .ref a ∧ imL K H a vs ∧ relVs K φ H xs vs
  | .ref n, v => ∃ a, v = .ref a ∧ φ[n]? = some a
def relVs (K : PySem.W.Frag) (φ : List Addr) (H : Hp) : List PV → List V → Prop
  | [], vs => vs = []
  | x :: xs, vs => ∃ v ws, vs = v :: ws ∧ relV K φ H x v ∧ relVs K φ H xs ws
end
def relO (K : PySem.W.Frag) (φ : List Addr) (H : Hp) (a : Addr) : SO → Prop
  | .lst xs => ∃ vs, H a = some (.lst vs) ∧ relVs K φ H xs vs
structure Rel (K : PySem.W.Frag) (φ : List Addr) (H : Hp) (S : Store) : Prop where
  len : φ.length = S.length
  nd : φ.Nodup
  obj : ∀ (n : Nat) (a : Addr) (o : SO), φ[n]? = some a → S[n]? = some o → relO K φ H a o
def RelL (K : PySem.W.Frag) (φ : List Addr) (H : Hp) (ρ : Loc) (σ : L2.St) : Prop :=
  ρ.length = σ.length ∧ ∀ (i : Nat) (x : PV), ρ[i]? = some (some x) → ∃ v, σ[i]? = some (some v) ∧ relV K φ H x v
/-- what was is; what is not in the store stands as it stood; what is new in the store was free -/
structure Ext (φ : List Addr) (H : Hp) (φ' : List Addr) (H' : Hp) : Prop where
  pre : φ <+: φ'
  keep : ∀ a o, H a = some o → a ∉ φ → H' a = some o
  new : ∀ a, a ∈ φ' → a ∉ φ → H a = none
theorem Ext.refl (φ : List Addr) (H : Hp) : Ext φ H φ H := ⟨List.prefix_refl _, fun _ _ h _ => h, fun _ h n => absurd h n⟩
theorem Ext.trans {φ φ1 φ2 : List Addr} {H H1 H2 : Hp} (a : Ext φ H φ1 H1) (b : Ext φ1 H1 φ2 H2) : Ext φ H φ2 H2 where
  pre := a.pre.trans b.pre
  keep := fun x o h n => by
    refine b.keep x o (a.keep x o h n) fun m => ?_
    have := a.new x m n
    rw [h] at this; cases this
  new := fun x m n => by
    by_cases h1 : x ∈ φ1
    · exact a.new x h1 n
    · cases q : H x with
      | none => rfl
      | some o =>
        have h2 := a.keep x o q n
        have h3 := b.new x m h1
        rw [h2] at h3; cases h3
section
variable {K : PySem.W.Frag} {φ φ' : List Addr} {H H' : Hp} {S S' : Store}
theorem Rel.get (R : Rel K φ H S) {n : Nat} {a : Addr} (h : φ[n]? = some a) : ∃ o, S[n]? = some o ∧ relO K φ H a o := by
  have hl : n < φ.length := (List.getElem?_eq_some_iff.mp h).1
  have hs : n < S.length := by rw [← R.len]; exact hl
  exact ⟨S[n], List.getElem?_eq_getElem hs, R.obj n a _ h (List.getElem?_eq_getElem hs)⟩
theorem Rel.at (R : Rel K φ H S) {n : Nat} {o : SO} (h : S[n]? = some o) : ∃ a, φ[n]? = some a ∧ relO K φ H a o := by
  have hs : n < S.length := (List.getElem?_eq_some_iff.mp h).1
  have hl : n < φ.length := by rw [R.len]; exact hs
  exact ⟨φ[n], List.getElem?_eq_getElem hl, R.obj n _ o (List.getElem?_eq_getElem hl) h⟩
theorem Rel.mem_lst (R : Rel K φ H S) {a : Addr} (h : a ∈ φ) : ∃ vs, H a = some (.lst vs) := by
  obtain ⟨n, hn⟩ := List.getElem?_of_mem h
  obtain ⟨o, _, r⟩ := R.get hn
  cases o with
  | lst xs => obtain ⟨vs, e, _⟩ := r; exact ⟨vs, e⟩
theorem sqT_ext (R : Rel K φ H S) (E : Ext φ H φ' H') {a : Addr} {vs : List V} (h : SqT K H a vs) : SqT K H' a vs := by
  rcases h with (h | ⟨o, h⟩) | h
  · exact .inl (.inl (E.keep a _ h fun m => by obtain ⟨ws, e⟩ := R.mem_lst m; rw [h] at e; cases e))
  · exact .inl (.inr ⟨o, E.keep a _ h fun m => by obtain ⟨ws, e⟩ := R.mem_lst m; rw [h] at e; cases e⟩)
  · exact .inr h
mutual
theorem relV_ext (R : Rel K φ H S) (E : Ext φ H φ' H') (R' : Rel K φ' H' S') : ∀ (x : PV) (v : V), relV K φ H x v → relV K φ' H' x v
  | .non, _, h => h
  | .bl _, _, h => h
  | .int _, _, h => h
  | .str _, _, h => h
  | .tup xs, _, h => by
    obtain ⟨a, vs, e, h1, h2⟩ := h
    exact ⟨a, vs, e, sqT_ext R E h1, relVs_ext R E R' xs vs h2⟩
  | .ltc xs, _, h => by
    obtain ⟨a, vs, e, h1, h2⟩ := h
    refine ⟨a, vs, e, ?_, relVs_ext R E R' xs vs h2⟩
    rcases h1 with ⟨o, h1⟩ | h1
    · exact .inl ⟨o, E.keep a _ h1 fun m => by obtain ⟨ws, e⟩ := R.mem_lst m; rw [h1] at e; cases e⟩
    · exact .inr h1
  | .ref n, _, h => by
    obtain ⟨a, e, h⟩ := h
    obtain ⟨t, rfl⟩ := E.pre
    exact ⟨a, e, by rw [List.getElem?_append_left (List.getElem?_eq_some_iff.mp h).1]; exact h⟩
theorem relVs_ext (R : Rel K φ H S) (E : Ext φ H φ' H') (R' : Rel K φ' H' S') : ∀ (xs : List PV) (vs : List V), relVs K φ H xs vs → relVs K φ' H' xs vs
  | [], _, h => h
  | x :: xs, _, h => by
    obtain ⟨v, ws, e, h1, h2⟩ := h
    exact ⟨v, ws, e, relV_ext R E R' x v h1, relVs_ext R E R' xs ws h2⟩
end
theorem RelL.ext {ρ : Loc} {σ : L2.St} (L : RelL K φ H ρ σ) (R : Rel K φ H S) (E : Ext φ H φ' H') (R' : Rel K φ' H' S') : RelL K φ' H' ρ σ :=
  ⟨L.1, fun i x h => let ⟨v, e, r⟩ := L.2 i x h; ⟨v, e, relV_ext R E R' x v r⟩⟩
theorem RelL.set {ρ : Loc} {σ : L2.St} (L : RelL K φ H ρ σ) (i : Nat) {x : PV} {v : V} (r : relV K φ H x v) : RelL K φ H (ρ.set i (some x)) (σ.set i (some v)) := by
  refine ⟨by rw [List.length_set, List.length_set]; exact L.1, fun j y h => ?_⟩
  by_cases hj : i = j
  · subst hj
    rw [List.getElem?_set] at h
    simp only [if_pos] at h
    split at h
    · rename_i hl
      cases h
      refine ⟨v, ?_, r⟩
      rw [List.getElem?_set_self (by rw [← L.1]; exact hl)]
    · cases h
  · rw [List.getElem?_set_ne hj] at h ⊢
    exact L.2 j y h
theorem RelL.mono {ρ ρ' : Loc} {σ : L2.St} (L : RelL K φ H ρ σ) (hl : ρ'.length = ρ.length) (h : ∀ (i : Nat) (x : PV), ρ'[i]? = some (some x) → ρ[i]? = some (some x)) : RelL K φ H ρ' σ :=
  ⟨hl.trans L.1, fun i x e => L.2 i x (h i x e)⟩
theorem relVs_len : ∀ {xs : List PV} {vs : List V}, relVs K φ H xs vs → xs.length = vs.length
  | [], _, h => by cases h; rfl
  | x :: xs, _, h => by
    obtain ⟨v, ws, rfl, _, h2⟩ := h
    simp [relVs_len h2]
theorem relVs_get : ∀ {xs : List PV} {vs : List V} {i : Nat} {x : PV}, relVs K φ H xs vs → xs[i]? = some x → ∃ v, vs[i]? = some v ∧ relV K φ H x v
  | [], _, _, _, _, e => by simp at e
  | x :: xs, _, 0, _, h, e => by
    obtain ⟨v, ws, rfl, h1, h2⟩ := h
    simp at e; subst e
    exact ⟨v, by simp, h1⟩
  | x :: xs, _, i + 1, _, h, e => by
    obtain ⟨v, ws, rfl, h1, h2⟩ := h
    obtain ⟨u, e2, r⟩ := relVs_get (i := i) h2 (by simpa using e)
    exact ⟨u, by simpa using e2, r⟩
theorem relVs_app : ∀ {xs ys : List PV} {vs ws : List V}, relVs K φ H xs vs → relVs K φ H ys ws → relVs K φ H (xs ++ ys) (vs ++ ws)
  | [], _, _, _, h, h' => by cases h; exact h'
  | x :: xs, _, _, _, h, h' => by
    obtain ⟨v, ws, rfl, h1, h2⟩ := h
    exact ⟨v, ws ++ _, rfl, h1, relVs_app h2 h'⟩
theorem relVs_set : ∀ {xs : List PV} {vs : List V} (i : Nat) {x : PV} {v : V}, relVs K φ H xs vs → relV K φ H x v → relVs K φ H (xs.set i x) (vs.set i v)
  | [], _, _, _, _, h, _ => by cases h; rfl
  | _ :: xs, _, 0, x, v, h, r => by
    obtain ⟨w, ws, rfl, h1, h2⟩ := h
    exact ⟨v, ws, rfl, r, h2⟩
  | _ :: xs, _, i + 1, x, v, h, r => by
    obtain ⟨w, ws, rfl, h1, h2⟩ := h
    exact ⟨w, _, rfl, h1, relVs_set i h2 r⟩
theorem relVs_take : ∀ {xs : List PV} {vs : List V} (n : Nat), relVs K φ H xs vs → relVs K φ H (xs.take n) (vs.take n)
  | _, _, 0, h => rfl
  | [], _, _ + 1, h => by cases h; rfl
  | x :: xs, _, n + 1, h => by
    obtain ⟨v, ws, rfl, h1, h2⟩ := h
    exact ⟨v, _, rfl, h1, relVs_take n h2⟩
theorem relVs_drop : ∀ {xs : List PV} {vs : List V} (n : Nat), relVs K φ H xs vs → relVs K φ H (xs.drop n) (vs.drop n)
  | _, _, 0, h => h
  | [], _, _ + 1, h => by cases h; rfl
  | x :: xs, _, n + 1, h => by
    obtain ⟨v, ws, rfl, h1, h2⟩ := h
    exact relVs_drop n h2
theorem relVs_rev : ∀ {xs : List PV} {vs : List V}, relVs K φ H xs vs → relVs K φ H xs.reverse vs.reverse
  | [], _, h => by cases h; rfl
  | x :: xs, _, h => by
    obtain ⟨v, ws, rfl, h1, h2⟩ := h
    rw [List.reverse_cons, List.reverse_cons]
    exact relVs_app (relVs_rev h2) ⟨v, [], rfl, h1, rfl⟩
/-- a fresh object laid that the store does not know -/
theorem Ext.laid {p : Addr} (hp : H p = none) (o : HO) : Ext φ H φ (upd H p o) :=
  ⟨List.prefix_refl _, fun a u h _ => by rw [upd_ne (ne_of_none h hp)]; exact h, fun _ m n => absurd m n⟩
theorem notin_of_none (R : Rel K φ H S) {p : Addr} (hp : H p = none) : p ∉ φ := fun m => by
  obtain ⟨vs, e⟩ := R.mem_lst m
  rw [hp] at e; cases e
/-- the relation behind an Ext, object by object -/
theorem Rel.keep (R : Rel K φ H S) {H' : Hp} (h : ∀ a, a ∈ φ → H' a = H a) (hv : ∀ xs vs, relVs K φ H xs vs → relVs K φ H' xs vs) : Rel K φ H' S :=
  ⟨R.len, R.nd, fun n a o e1 e2 => by
    have r := R.obj n a o e1 e2
    cases o with
    | lst xs =>
      obtain ⟨vs, e, r⟩ := r
      exact ⟨vs, by rw [h a (List.mem_of_getElem? e1)]; exact e, hv _ _ r⟩⟩
mutual
theorem relV_sub (hT : ∀ (a : Addr) (vs : List V), SqT K H a vs → SqT K H' a vs) (hL : ∀ (a : Addr) (vs : List V), imL K H a vs → imL K H' a vs) (hp : φ <+: φ') : ∀ (x : PV) (v : V), relV K φ H x v → relV K φ' H' x v
  | .non, _, h => h
  | .bl _, _, h => h
  | .int _, _, h => h
  | .str _, _, h => h
  | .tup xs, _, h => by
    obtain ⟨a, vs, e, h1, h2⟩ := h
    exact ⟨a, vs, e, hT _ _ h1, relVs_sub hT hL hp xs vs h2⟩
  | .ltc xs, _, h => by
    obtain ⟨a, vs, e, h1, h2⟩ := h
    exact ⟨a, vs, e, hL _ _ h1, relVs_sub hT hL hp xs vs h2⟩
  | .ref n, _, h => by
    obtain ⟨a, e, h⟩ := h
    obtain ⟨t, rfl⟩ := hp
    exact ⟨a, e, by rw [List.getElem?_append_left (List.getElem?_eq_some_iff.mp h).1]; exact h⟩
theorem relVs_sub (hT : ∀ (a : Addr) (vs : List V), SqT K H a vs → SqT K H' a vs) (hL : ∀ (a : Addr) (vs : List V), imL K H a vs → imL K H' a vs) (hp : φ <+: φ') : ∀ (xs : List PV) (vs : List V), relVs K φ H xs vs → relVs K φ' H' xs vs
  | [], _, h => h
  | x :: xs, _, h => by
    obtain ⟨v, ws, e, h1, h2⟩ := h
    exact ⟨v, ws, e, relV_sub hT hL hp x v h1, relVs_sub hT hL hp xs ws h2⟩
end
theorem imL_upd {p : Addr} {o : HO} (h : ∀ w u, H p ≠ some (.frz w u)) {a : Addr} {vs : List V} (q : imL K H a vs) : imL K (upd H p o) a vs := by
  rcases q with ⟨w, q⟩ | q
  · refine .inl ⟨w, ?_⟩
    rw [upd_ne (fun e => h w (.lst vs) (by rw [← e]; exact q))]
    exact q
  · exact .inr q
theorem sqT_upd {p : Addr} {o : HO} (h : ∀ w u, H p ≠ some (.frz w u)) (h2 : ∀ ws, H p ≠ some (.tup ws)) {a : Addr} {vs : List V} (q : SqT K H a vs) : SqT K (upd H p o) a vs := by
  rcases q with (q | ⟨w, q⟩) | q
  · refine .inl (.inl ?_)
    rw [upd_ne (fun e => h2 vs (by rw [← e]; exact q))]
    exact q
  · refine .inl (.inr ⟨w, ?_⟩)
    rw [upd_ne (fun e => h w (.tup vs) (by rw [← e]; exact q))]
    exact q
  · exact .inr q
theorem relVs_upd {p : Addr} {o : HO} (h : ∀ w u, H p ≠ some (.frz w u)) (h2 : ∀ ws, H p ≠ some (.tup ws)) {xs : List PV} {vs : List V} (q : relVs K φ H xs vs) : relVs K φ (upd H p o) xs vs :=
  relVs_sub (fun _ _ => sqT_upd h h2) (fun _ _ => imL_upd h) (List.prefix_refl _) xs vs q
theorem relV_upd {p : Addr} {o : HO} (h : ∀ w u, H p ≠ some (.frz w u)) (h2 : ∀ ws, H p ≠ some (.tup ws)) {x : PV} {v : V} (q : relV K φ H x v) : relV K φ (upd H p o) x v :=
  relV_sub (fun _ _ => sqT_upd h h2) (fun _ _ => imL_upd h) (List.prefix_refl _) x v q
/-- a fresh object outside of the store -/
theorem Rel.laid (R : Rel K φ H S) {p : Addr} (hp : H p = none) (o : HO) : Rel K φ (upd H p o) S :=
  R.keep (fun a m => upd_ne fun e => notin_of_none R hp (e ▸ m)) fun xs vs => relVs_upd (by rw [hp]; intro _ _ z; cases z) (by rw [hp]; intro _ z; cases z)
/-- a fresh list, known to the store -/
theorem Rel.push (R : Rel K φ H S) {p : Addr} (hp : H p = none) {xs : List PV} {vs : List V} (r : relVs K φ H xs vs) : Rel K (φ ++ [p]) (upd H p (.lst vs)) (S ++ [.lst xs]) := by
  have n1 : ∀ w u, H p ≠ some (.frz w u) := by rw [hp]; intro _ _ z; cases z
  have n2 : ∀ ws, H p ≠ some (.tup ws) := by rw [hp]; intro _ z; cases z
  have up : ∀ {xs vs}, relVs K φ H xs vs → relVs K (φ ++ [p]) (upd H p (.lst vs)) xs vs := fun {xs vs} q => relVs_sub (fun _ _ => sqT_upd n1 n2) (fun _ _ => imL_upd n1) (List.prefix_append _ _) xs vs q
  have up2 : ∀ {xs ws vs}, relVs K φ H xs ws → relVs K (φ ++ [p]) (upd H p (.lst vs)) xs ws := fun {xs ws vs} q => relVs_sub (fun _ _ => sqT_upd n1 n2) (fun _ _ => imL_upd n1) (List.prefix_append _ _) xs ws q
  refine ⟨by simp [R.len], ?_, fun n a o e1 e2 => ?_⟩
  · rw [List.nodup_append]
    refine ⟨R.nd, by simp, fun a ha b hb => ?_⟩
    simp at hb; subst hb
    exact fun e => notin_of_none R hp (e ▸ ha)
  · by_cases hn : n < φ.length
    · rw [List.getElem?_append_left hn] at e1
      rw [List.getElem?_append_left (by rw [← R.len]; exact hn)] at e2
      have r2 := R.obj n a o e1 e2
      cases o with
      | lst ys =>
        obtain ⟨ws, e, r2⟩ := r2
        exact ⟨ws, by rw [upd_ne (ne_of_none e hp)]; exact e, up2 r2⟩
    · rw [List.getElem?_append_right (by omega)] at e1
      rw [List.getElem?_append_right (by rw [← R.len]; omega), ← R.len] at e2
      have hz : n - φ.length = 0 := by
        have := (List.getElem?_eq_some_iff.mp e1).1
        simp at this; omega
      rw [hz] at e1 e2
      simp at e1 e2
      subst e1; subst e2
      exact ⟨vs, upd_same, up2 r⟩
theorem Ext.push (R : Rel K φ H S) {p : Addr} (hp : H p = none) (o : HO) : Ext φ H (φ ++ [p]) (upd H p o) :=
  ⟨List.prefix_append _ _, fun a u h _ => by rw [upd_ne (ne_of_none h hp)]; exact h, fun a m n => by
    rcases List.mem_append.mp m with m | m
    · exact absurd m n
    · simp at m; subst m; exact hp⟩
theorem nodup_get {α : Type} : ∀ {l : List α} {i j : Nat} {a : α}, l.Nodup → l[i]? = some a → l[j]? = some a → i = j
  | [], _, _, _, _, hi, _ => by simp at hi
  | x :: l, 0, 0, _, _, _, _ => rfl
  | x :: l, 0, j + 1, a, h, hi, hj => by
    simp at hi hj; subst hi
    exact absurd (List.mem_of_getElem? hj) (List.nodup_cons.mp h).1
  | x :: l, i + 1, 0, a, h, hi, hj => by
    simp at hi hj; subst hj
    exact absurd (List.mem_of_getElem? hi) (List.nodup_cons.mp h).1
  | x :: l, i + 1, j + 1, a, h, hi, hj => by
    rw [nodup_get (i := i) (j := j) (List.nodup_cons.mp h).2 (by simpa using hi) (by simpa using hj)]
/-- a list of the store written -/
theorem Rel.write (R : Rel K φ H S) {n : Nat} {p : Addr} (hn : φ[n]? = some p) {xs : List PV} {vs : List V} (r : relVs K φ H xs vs) : Rel K φ (upd H p (.lst vs)) (S.set n (.lst xs)) := by
  obtain ⟨ws0, e0⟩ := R.mem_lst (List.mem_of_getElem? hn)
  have n1 : ∀ w u, H p ≠ some (.frz w u) := by rw [e0]; intro _ _ z; cases z
  have n2 : ∀ ws, H p ≠ some (.tup ws) := by rw [e0]; intro _ z; cases z
  refine ⟨by simp [R.len], R.nd, fun m a o e1 e2 => ?_⟩
  by_cases hm : n = m
  · subst hm
    rw [hn] at e1; cases e1
    rw [List.getElem?_set] at e2
    simp only [if_pos] at e2
    split at e2
    · cases e2
      exact ⟨vs, upd_same, relVs_upd n1 n2 r⟩
    · cases e2
  · rw [List.getElem?_set_ne hm] at e2
    have r2 := R.obj m a o e1 e2
    cases o with
    | lst ys =>
      obtain ⟨ws, e, r2⟩ := r2
      exact ⟨ws, by rw [upd_ne (fun z => hm (nodup_get R.nd hn (by rw [← z]; exact e1)))]; exact e, relVs_upd n1 n2 r2⟩
theorem Ext.write (R : Rel K φ H S) {n : Nat} {p : Addr} (hn : φ[n]? = some p) (o : HO) : Ext φ H φ (upd H p o) :=
  ⟨List.prefix_refl _, fun a u h na => by rw [upd_ne (fun z => na (by rw [z]; exact List.mem_of_getElem? hn))]; exact h, fun _ m n => absurd m n⟩
end
end Mp

/-! Mp1: what is behind an evaluation; operators by values. -/
namespace Mp
open PySem PySem.Spec PyProof.Rows L2

def Post (K : PySem.W.Frag) (φ : List Addr) (H : Hp) (Q : VK) (x : PV) (S : Store) : Prop :=
  ∀ (φ' : List Addr) (v : V) (H' : Hp), Ext φ H φ' H' → Rel K φ' H' S → relV K φ' H' x v → Q v H'
theorem Post.ext {K : PySem.W.Frag} {φ φ' : List Addr} {H H' : Hp} {Q : VK} {x : PV} {S : Store} (P : Post K φ H Q x S) (E : Ext φ H φ' H') : Post K φ' H' Q x S :=
  fun φ2 v H2 E2 R r => P φ2 v H2 (E.trans E2) R r
/-- an expression's reading, by the evaluator -/
def tI (K : PySem.W.Frag) (f : Loc → Store → Res PV) : TE := fun σ H Q => ∃ φ ρ S r S', Rel K φ H S ∧ RelL K φ H ρ σ ∧ f ρ S = .ok r S' ∧ Post K φ H Q r S'
def PostA (K : PySem.W.Frag) (φ : List Addr) (H : Hp) (Q : List V → Hp → Prop) (xs : List PV) (S : Store) : Prop :=
  ∀ (φ' : List Addr) (vs : List V) (H' : Hp), Ext φ H φ' H' → Rel K φ' H' S → relVs K φ' H' xs vs → Q vs H'
def tIA (K : PySem.W.Frag) (f : Loc → Store → Res (List PV)) : TA := fun σ H Q => ∃ φ ρ S r S', Rel K φ H S ∧ RelL K φ H ρ σ ∧ f ρ S = .ok r S' ∧ PostA K φ H Q r S'
section
variable {K : PySem.W.Frag} {φ : List Addr} {H : Hp} {S S' : Store} {ρ : Loc} {σ : L2.St}
theorem bind_inv {α β : Type} {r : Res α} {f : α → Store → Res β} {b : β} {S' : Store} (h : r.bind f = .ok b S') : ∃ a S1, r = .ok a S1 ∧ f a S1 = .ok b S' := by
  cases r with
  | ok a S1 => exact ⟨a, S1, rfl, h⟩
  | exc c a S1 => cases h
  | bad => cases h
theorem tI_step {β : Type} {f : Loc → Store → Res PV} {g : PV → Store → Res β} {r : β} {S' : Store} {Q1 : VK} (R : Rel K φ H S) (L : RelL K φ H ρ σ) (h : (f ρ S).bind g = .ok r S')
    (k : ∀ x S1, f ρ S = .ok x S1 → g x S1 = .ok r S' → ∀ φ1 v1 H1, Ext φ H φ1 H1 → Rel K φ1 H1 S1 → RelL K φ1 H1 ρ σ → relV K φ1 H1 x v1 → Q1 v1 H1) : tI K f σ H Q1 := by
  obtain ⟨x, S1, e1, e2⟩ := bind_inv h
  exact ⟨φ, ρ, S, x, S1, R, L, e1, fun φ1 v1 H1 E1 R1 r1 => k x S1 e1 e2 φ1 v1 H1 E1 R1 (L.ext R E1 R1) r1⟩
theorem tIA_step {β : Type} {f : Loc → Store → Res (List PV)} {g : List PV → Store → Res β} {r : β} {S' : Store} {Q1 : List V → Hp → Prop} (R : Rel K φ H S) (L : RelL K φ H ρ σ) (h : (f ρ S).bind g = .ok r S')
    (k : ∀ x S1, f ρ S = .ok x S1 → g x S1 = .ok r S' → ∀ φ1 v1 H1, Ext φ H φ1 H1 → Rel K φ1 H1 S1 → RelL K φ1 H1 ρ σ → relVs K φ1 H1 x v1 → Q1 v1 H1) : tIA K f σ H Q1 := by
  obtain ⟨x, S1, e1, e2⟩ := bind_inv h
  exact ⟨φ, ρ, S, x, S1, R, L, e1, fun φ1 v1 H1 E1 R1 r1 => k x S1 e1 e2 φ1 v1 H1 E1 R1 (L.ext R E1 R1) r1⟩
end
theorem PE.imp {X : Cx} {e : Expr} {t t' : TE} (h : PE X e t) (i : ∀ σ H Q, t' σ H Q → t σ H Q) : PE X e t' := ⟨fun pins s σ H Q I q => h.run pins s σ H Q I (i _ _ _ q)⟩
theorem PA.imp {X : Cx} {e : List Expr} {t t' : TA} (h : PA X e t) (i : ∀ σ H Q, t' σ H Q → t σ H Q) : PA X e t' := ⟨fun pos pins s σ H Q I q => h.run pos pins s σ H Q I (i _ _ _ q)⟩
theorem PT.imp {X : Cx} {e : Expr} {t t' : TT} (h : PT X e t) (i : ∀ σ H Q, t' σ H Q → t σ H Q) : PT X e t' := ⟨fun pins s σ H Q I q => h.run pins s σ H Q I (i _ _ _ q)⟩
theorem OpR.imp {X : Cx} {f : Value → Value → Sem Value} {r r' : R2} (h : OpR X f r) (i : ∀ x y H Q, r' x y H Q → r x y H Q) : OpR X f r' :=
  fun pins s σ H x y v u Q I rx ry q => h pins s σ H x y v u Q I rx ry (i _ _ _ _ q)
/-- two values, by the evaluator's operation g -/
def rI2 (K : PySem.W.Frag) (g : PV → PV → Store → Res PV) : R2 := fun x y H Q => ∃ φ S px py r S', Rel K φ H S ∧ relV K φ H px x ∧ relV K φ H py y ∧ g px py S = .ok r S' ∧ Post K φ H Q r S'
theorem rI2.split {K : PySem.W.Frag} {g : PV → PV → Store → Res PV} {x y : V} {H : Hp} {Q : VK} (h : rI2 K g x y H Q) :
    ∃ φ S px py r S', Rel K φ H S ∧ relV K φ H px x ∧ relV K φ H py y ∧ g px py S = .ok r S' ∧ Post K φ H Q r S' := h
section
variable {K : PySem.W.Frag} {φ : List Addr} {H : Hp} {S S' : Store} {Q : VK}
/-- a value that lays nothing -/
theorem Post.pure {x : PV} {v : V} (P : Post K φ H Q x S) (R : Rel K φ H S) (r : relV K φ H x v) : Q v H := P φ v H (Ext.refl _ _) R r
theorem Post.newTup {xs : List PV} {vs : List V} (P : Post K φ H Q (.tup xs) S) (R : Rel K φ H S) (r : relVs K φ H xs vs) : ∀ p, H p = none → Q (.ref p) (upd H p (.tup vs)) := fun p hp =>
  P φ (.ref p) _ (Ext.laid hp _) (R.laid hp _) ⟨p, vs, rfl, SqT.of upd_same, relVs_upd (by rw [hp]; intro _ _ z; cases z) (by rw [hp]; intro _ z; cases z) r⟩
theorem Post.newLst {xs : List PV} {vs : List V} (P : Post K φ H Q (.ref S.length) (S ++ [.lst xs])) (R : Rel K φ H S) (r : relVs K φ H xs vs) : ∀ p, H p = none → Q (.ref p) (upd H p (.lst vs)) := fun p hp =>
  P (φ ++ [p]) (.ref p) _ (Ext.push R hp _) (R.push hp r) ⟨p, rfl, by rw [← R.len]; simp⟩
theorem Rel.lst (R : Rel K φ H S) {n : Nat} {xs : List PV} {v : V} (h : S[n]? = some (.lst xs)) (r : relV K φ H (.ref n) v) : ∃ a vs, v = .ref a ∧ φ[n]? = some a ∧ H a = some (.lst vs) ∧ relVs K φ H xs vs := by
  obtain ⟨a, rfl, e⟩ := r
  obtain ⟨vs, e1, r1⟩ := R.obj n a _ e h
  exact ⟨a, vs, rfl, e, e1, r1⟩
end
def lim : Nat := 16777216
theorem lim_eq : sizeLine = lim := sizeLine_eq
theorem str_len (a : List Nat) : (⟨a.toArray⟩ : Str).length = a.length := by show a.toArray.size = _; simp
theorem str_app (a b : List Nat) : (⟨a.toArray⟩ : Str) ++ (⟨b.toArray⟩ : Str) = ⟨(a ++ b).toArray⟩ := by
  show (⟨a.toArray ++ b.toArray⟩ : Str) = _
  simp

/-! ### + -/
def addV (x y : PV) (S : Store) : Res PV := match x, y with
  | .int i, .int j => .ok (.int (i + j)) S
  | .str a, .str b => if a.length + b.length ≤ lim then .ok (.str (a ++ b)) S else .bad
  | .tup a, .tup b => if a.length + b.length ≤ lim then .ok (.tup (a ++ b)) S else .bad
  | .ref a, .ref b => match S[a]?, S[b]? with
    | some (.lst xs), some (.lst ys) => if xs.length + ys.length ≤ lim then .ok (.ref S.length) (S ++ [.lst (xs ++ ys)]) else .bad
    | _, _ => .bad
  | _, _ => .bad
theorem op_addV {X : Cx} : OpR X (binaryOp .Add) (rI2 X.K addV) := by
  refine OpR.imp (OpR.or op_add (OpR.or op_add_str (OpR.or op_catA op_cat))) fun x y H Q h => ?_
  obtain ⟨φ, S, px, py, r, S', R, rx, ry, e, P⟩ := h
  unfold addV at e
  split at e
  · cases e
    cases rx; cases ry
    exact .inl ⟨_, _, rfl, rfl, P.pure R rfl⟩
  · split at e
    · rename_i hl
      cases e
      cases rx; cases ry
      refine .inr (.inl ⟨_, _, rfl, rfl, ?_, ?_⟩)
      · rw [str_len, str_len, lim_eq]; exact hl
      · rw [str_app]; exact P.pure R rfl
    · cases e
  · split at e
    · rename_i a b hl
      cases e
      obtain ⟨p, vs, rfl, h1, r1⟩ := rx
      obtain ⟨q, ws, rfl, h2, r2⟩ := ry
      have l1 := relVs_len r1
      have l2 := relVs_len r2
      refine .inr (.inr (.inl ⟨p, q, vs, ws, rfl, rfl, h1, h2, by rw [← l1, ← l2, lim_eq]; exact hl, fun e => ?_, fun n1 e => ?_, fun n1 n2 p hp => ?_⟩))
      · subst e
        cases a with
        | nil => exact P.pure R ⟨q, ws, rfl, h2, r2⟩
        | cons _ _ => simp at l1
      · subst e
        cases b with
        | nil => rw [List.append_nil] at P; exact P.pure R ⟨p, vs, rfl, h1, r1⟩
        | cons _ _ => simp at l2
      · exact P.newTup R (relVs_app r1 r2) p hp
    · cases e
  · split at e
    · rename_i h1 h2
      split at e
      · rename_i hl
        cases e
        obtain ⟨p, vs, rfl, _, g1, r1⟩ := R.lst h1 rx
        obtain ⟨q, ws, rfl, _, g2, r2⟩ := R.lst h2 ry
        exact .inr (.inr (.inr ⟨p, q, vs, ws, rfl, rfl, g1, g2, by rw [← relVs_len r1, ← relVs_len r2, lim_eq]; exact hl, P.newLst R (relVs_app r1 r2)⟩))
      · cases e
    · cases e
  · cases e

/-! ### other arithmetic of ints -/
def intOp (c : Int → Int → Bool) (g : Int → Int → Int) (x y : PV) (S : Store) : Res PV := match x, y with
  | .int i, .int j => if c i j = true then .ok (.int (g i j)) S else .bad
  | _, _ => .bad
theorem op_intV {X : Cx} {f : Value → Value → Sem Value} {C : Int → Int → Prop} {g : Int → Int → Int} {c : Int → Int → Bool} (h : OpR X f (rI C fun i j => .int (g i j))) (hc : ∀ i j, c i j = true → C i j) : OpR X f (rI2 X.K (intOp c g)) := by
  refine OpR.imp h fun x y H Q h => ?_
  obtain ⟨φ, S, px, py, r, S', R, rx, ry, e, P⟩ := h
  unfold intOp at e
  split at e
  · split at e
    · rename_i hcc
      cases e
      cases rx; cases ry
      exact ⟨_, _, rfl, rfl, hc _ _ hcc, P.pure R rfl⟩
    · cases e
  · cases e
theorem opr_toI {X : Cx} {f : Value → Value → Sem Value} {g : Int → Int → Int} (h : OpR X f (rI0 fun i j => .int (g i j))) : OpR X f (rI (fun _ _ => True) fun i j => .int (g i j)) :=
  OpR.imp h fun x y H Q ⟨i, j, e1, e2, _, q⟩ => ⟨i, j, e1, e2, q⟩
def cYes (_ _ : Int) : Bool := true
def cMul (i j : Int) : Bool := decide ((-18446744073709551616 < j ∧ j < 18446744073709551616) ∨ (-18446744073709551616 < i ∧ i < 18446744073709551616) ∨ i.natAbs.log2 + j.natAbs.log2 < 1000000)
def cDiv (_ j : Int) : Bool := decide (0 < j ∧ (j < 1073741824 ∨ j.natAbs.log2 < 9000))
def cMod (_ j : Int) : Bool := decide (0 < j)
def cPow (i j : Int) : Bool := decide (0 ≤ j ∧ j ≤ 1000000 ∧ i.natAbs < 18446744073709551616)
def cShr (_ j : Int) : Bool := decide (0 ≤ j)
def subV : PV → PV → Store → Res PV := intOp cYes fun i j => i - j
def fdivV : PV → PV → Store → Res PV := intOp cDiv fun i j => i / j
def modV : PV → PV → Store → Res PV := intOp cMod fun i j => i % j
def powV : PV → PV → Store → Res PV := intOp cPow fun i j => i ^ j.toNat
def shlV : PV → PV → Store → Res PV := intOp cPow fun i j => i * 2 ^ j.toNat
def shrV : PV → PV → Store → Res PV := intOp cShr fun i j => i / 2 ^ j.toNat
def andV : PV → PV → Store → Res PV := intOp cYes Builtin.bitAnd
def orV : PV → PV → Store → Res PV := intOp cYes Builtin.bitOr
def xorV : PV → PV → Store → Res PV := intOp cYes Builtin.bitXor
theorem op_mulAll {X : Cx} : OpR X (binaryOp .Mult) (rI (fun i j => cMul i j = true) fun i j => .int (i * j)) := by
  refine OpR.imp (OpR.or op_mul op_mulW) fun x y H Q ⟨i, j, e1, e2, h, q⟩ => ?_
  have h := of_decide_eq_true h
  rcases h with h | h | h
  · exact .inl ⟨i, j, e1, e2, .inr h, q⟩
  · exact .inl ⟨i, j, e1, e2, .inl h, q⟩
  · exact .inr ⟨i, j, e1, e2, h, q⟩
theorem op_divAll {X : Cx} : OpR X (binaryOp .FloorDiv) (rI (fun i j => cDiv i j = true) fun i j => .int (i / j)) := by
  refine OpR.imp (OpR.or op_fdiv op_fdivW) fun x y H Q ⟨i, j, e1, e2, h, q⟩ => ?_
  have h := of_decide_eq_true h
  rcases h with ⟨h0, h | h⟩
  · exact .inl ⟨i, j, e1, e2, ⟨h0, h⟩, q⟩
  · exact .inr ⟨i, j, e1, e2, ⟨h0, h⟩, q⟩
theorem op_subV {X : Cx} : OpR X (binaryOp .Sub) (rI2 X.K subV) := op_intV (opr_toI op_sub) fun _ _ _ => trivial
theorem op_fdivV {X : Cx} : OpR X (binaryOp .FloorDiv) (rI2 X.K fdivV) := op_intV op_divAll fun _ _ h => h
theorem op_modV {X : Cx} : OpR X (binaryOp .Mod) (rI2 X.K modV) := op_intV op_mod fun _ _ h => of_decide_eq_true h
theorem op_powV {X : Cx} : OpR X (binaryOp .Pow) (rI2 X.K powV) := op_intV op_pow fun i j h => by
  have h := of_decide_eq_true h
  exact ⟨h.1, h.2.1, by have := h.2.2; show i.natAbs < 2 ^ 64; omega⟩
theorem op_shlV {X : Cx} : OpR X (binaryOp .LShift) (rI2 X.K shlV) := op_intV op_shl fun i j h => by
  have h := of_decide_eq_true h
  exact ⟨h.1, h.2.1, by have := h.2.2; show i.natAbs < 2 ^ 64; omega⟩
theorem op_shrV {X : Cx} : OpR X (binaryOp .RShift) (rI2 X.K shrV) := op_intV op_shr fun _ _ h => of_decide_eq_true h
theorem op_andV {X : Cx} : OpR X (binaryOp .BitAnd) (rI2 X.K andV) := op_intV (opr_toI op_and) fun _ _ _ => trivial
theorem op_orV {X : Cx} : OpR X (binaryOp .BitOr) (rI2 X.K orV) := op_intV (opr_toI op_or) fun _ _ _ => trivial
theorem op_xorV {X : Cx} : OpR X (binaryOp .BitXor) (rI2 X.K xorV) := op_intV (opr_toI op_xor) fun _ _ _ => trivial
/-- the list, the tuple repeated -/
def mulV (x y : PV) (S : Store) : Res PV := match x, y with
  | .int i, .int j => if cMul i j = true then .ok (.int (i * j)) S else .bad
  | .ref a, .int k => match S[a]? with
    | some (.lst xs) => if 0 ≤ k ∧ k ≤ 1000000 ∧ xs.length * k.toNat ≤ lim then .ok (.ref S.length) (S ++ [.lst (List.replicate k.toNat xs).flatten]) else .bad
    | _ => .bad
  | .tup xs, .int k => if 2 ≤ k ∧ k ≤ 1000 ∧ xs.length ≤ 1000 ∧ 0 < xs.length then .ok (.tup (List.replicate k.toNat xs).flatten) S else .bad
  | _, _ => .bad
theorem relVs_rep {K : PySem.W.Frag} {φ : List Addr} {H : Hp} {xs : List PV} {vs : List V} (h : relVs K φ H xs vs) : ∀ k : Nat, relVs K φ H (List.replicate k xs).flatten (List.replicate k vs).flatten
  | 0 => rfl
  | k + 1 => by
    rw [List.replicate_succ, List.replicate_succ, List.flatten_cons, List.flatten_cons]
    exact relVs_app h (relVs_rep h k)
theorem op_mulV {X : Cx} : OpR X (binaryOp .Mult) (rI2 X.K mulV) := by
  refine OpR.imp (OpR.or op_mulAll (OpR.or op_rep op_repT)) fun x y H Q h => ?_
  obtain ⟨φ, S, px, py, r, S', R, rx, ry, e, P⟩ := h
  unfold mulV at e
  split at e
  · split at e
    · rename_i hcc
      cases e
      cases rx; cases ry
      exact .inl ⟨_, _, rfl, rfl, hcc, P.pure R rfl⟩
    · cases e
  · split at e
    · rename_i h1
      split at e
      · rename_i hl
        cases e
        obtain ⟨p, vs, rfl, _, g1, r1⟩ := R.lst h1 rx
        cases ry
        exact .inr (.inl ⟨p, _, vs, rfl, rfl, g1, by omega, by omega, by rw [← relVs_len r1, lim_eq]; exact hl.2.2, P.newLst R (relVs_rep r1 _)⟩)
      · cases e
    · cases e
  · split at e
    · rename_i hl
      cases e
      obtain ⟨p, vs, rfl, h1, r1⟩ := rx
      cases ry
      have l1 := relVs_len r1
      exact .inr (.inr ⟨p, _, vs, rfl, rfl, h1, fun z => by subst z; simp at l1; simp [l1] at hl, hl.1, hl.2.1, by omega, P.newTup R (relVs_rep r1 _)⟩)
    · cases e
  · cases e
def binV (op : Operator) : PV → PV → Store → Res PV := match op with
  | .Add => addV | .Sub => subV | .Mult => mulV | .FloorDiv => fdivV | .Mod => modV | .Pow => powV | .LShift => shlV | .RShift => shrV | .BitAnd => andV | .BitOr => orV | .BitXor => xorV
  | _ => fun _ _ _ => .bad
theorem op_binV {X : Cx} (op : Operator) : OpR X (binaryOp op) (rI2 X.K (binV op)) := by
  cases op with
  | Add => exact op_addV
  | Sub => exact op_subV
  | Mult => exact op_mulV
  | FloorDiv => exact op_fdivV
  | Mod => exact op_modV
  | Pow => exact op_powV
  | LShift => exact op_shlV
  | RShift => exact op_shrV
  | BitAnd => exact op_andV
  | BitOr => exact op_orV
  | BitXor => exact op_xorV
  | MatMult => exact fun pins s σ H x y v u Q I rx ry ⟨_, _, _, _, _, _, _, _, _, e, _⟩ => by cases e
  | Div => exact fun pins s σ H x y v u Q I rx ry ⟨_, _, _, _, _, _, _, _, _, e, _⟩ => by cases e
/-! ### op= -/
def iaddV (x y : PV) (S : Store) : Res PV := match x, y with
  | .int i, .int j => .ok (.int (i + j)) S
  | .str a, .str b => if a.length + b.length ≤ lim then .ok (.str (a ++ b)) S else .bad
  | _, _ => .bad
theorem op_iaddV {X : Cx} : OpR X (inplaceOp .Add) (rI2 X.K iaddV) := by
  refine OpR.imp (OpR.or iop_add iop_add_str) fun x y H Q h => ?_
  obtain ⟨φ, S, px, py, r, S', R, rx, ry, e, P⟩ := h
  unfold iaddV at e
  split at e
  · cases e
    cases rx; cases ry
    exact .inl ⟨_, _, rfl, rfl, P.pure R rfl⟩
  · split at e
    · rename_i hl
      cases e
      cases rx; cases ry
      refine .inr ⟨_, _, rfl, rfl, ?_, ?_⟩
      · rw [str_len, str_len, lim_eq]; exact hl
      · rw [str_app]; exact P.pure R rfl
    · cases e
  · cases e
def ibinV (op : Operator) : PV → PV → Store → Res PV := match op with
  | .Add => iaddV | .Sub => subV
  | _ => fun _ _ _ => .bad
theorem op_ibinV {X : Cx} (op : Operator) : OpR X (inplaceOp op) (rI2 X.K (ibinV op)) := by
  cases op with
  | Add => exact op_iaddV
  | Sub => exact op_intV (opr_toI iop_sub) fun _ _ _ => trivial
  | _ => exact fun pins s σ H x y v u Q I rx ry ⟨_, _, _, _, _, _, _, _, _, e, _⟩ => by cases e
end Mp

/-! Mp2: comparisons, truth, built-in functions, methods, by values. -/
namespace Mp
open PySem PySem.Spec PyProof.Rows L2

/-! ### data of any depth -/
mutual
def flat (g : Nat → Option PV) : PV → Option PV
  | .non => some .non
  | .bl b => some (.bl b)
  | .int i => some (.int i)
  | .str x => some (.str x)
  | .tup xs => (flats g xs).map .tup
  | .ltc xs => (flats g xs).map .ltc
  | .ref n => g n
def flats (g : Nat → Option PV) : List PV → Option (List PV)
  | [] => some []
  | x :: xs => (flat g x).bind fun y => (flats g xs).map fun ys => y :: ys
end
def flatR (S : Store) : Nat → Nat → Option PV
  | 0, _ => none
  | n + 1, k => match S[k]? with
    | some (.lst xs) => (flats (flatR S n) xs).map .ltc
    | _ => none
def flatS (S : Store) (x : PV) : Option PV := flat (flatR S 8) x
mutual
def dOf : PV → PyData
  | .non => .none
  | .bl b => .bool b
  | .int i => .int i
  | .str x => .str ⟨x.toArray⟩
  | .tup xs => .tuple (dOfs xs)
  | .ltc xs => .list (dOfs xs)
  | .ref _ => .none
def dOfs : List PV → List PyData
  | [] => []
  | x :: xs => dOf x :: dOfs xs
end
section
variable {K : PySem.W.Frag} {φ : List Addr} {H : Hp} {S : Store}
mutual
theorem dp_flat {g : Nat → Option PV} (hg : ∀ n y a, g n = some y → φ[n]? = some a → Dp K H (.ref a) (dOf y)) : ∀ (x : PV) (y : PV) (v : V), flat g x = some y → relV K φ H x v → Dp K H v (dOf y)
  | .non, _, _, e, r => by cases e; cases r; exact .non
  | .bl b, _, _, e, r => by cases e; cases r; exact .bl b
  | .int i, _, _, e, r => by cases e; cases r; exact .int i
  | .str x, _, _, e, r => by cases e; cases r; exact .str _
  | .tup xs, _, _, e, r => by
    obtain ⟨ys, e1, rfl⟩ := Option.map_eq_some_iff.mp e
    obtain ⟨a, vs, rfl, h1, h2⟩ := r
    exact .tup h1 (dp_flats hg xs ys vs e1 h2)
  | .ltc xs, _, _, e, r => by
    obtain ⟨ys, e1, rfl⟩ := Option.map_eq_some_iff.mp e
    obtain ⟨a, vs, rfl, h1, h2⟩ := r
    exact .lst h1.sq (dp_flats hg xs ys vs e1 h2)
  | .ref n, y, _, e, r => by
    obtain ⟨a, rfl, h⟩ := r
    exact hg n y a e h
theorem dp_flats {g : Nat → Option PV} (hg : ∀ n y a, g n = some y → φ[n]? = some a → Dp K H (.ref a) (dOf y)) : ∀ (xs : List PV) (ys : List PV) (vs : List V), flats g xs = some ys → relVs K φ H xs vs → DpAll K H vs (dOfs ys)
  | [], _, _, e, r => by cases e; cases r; exact .nil
  | x :: xs, _, _, e, r => by
    obtain ⟨y, e1, e2⟩ := Option.bind_eq_some_iff.mp e
    obtain ⟨ys, e3, rfl⟩ := Option.map_eq_some_iff.mp e2
    obtain ⟨v, ws, rfl, h1, h2⟩ := r
    exact .cons (dp_flat hg x y v e1 h1) (dp_flats hg xs ys ws e3 h2)
end
theorem dp_flatR (R : Rel K φ H S) : ∀ (m n : Nat) (y : PV) (a : Addr), flatR S m n = some y → φ[n]? = some a → Dp K H (.ref a) (dOf y)
  | 0, _, _, _, e, _ => by cases e
  | m + 1, n, y, a, e, h => by
    unfold flatR at e
    split at e
    · rename_i xs hs
      obtain ⟨ys, e1, rfl⟩ := Option.map_eq_some_iff.mp e
      obtain ⟨vs, h1, h2⟩ := R.obj n a _ h hs
      exact .lst (SqL.of h1) (dp_flats (dp_flatR R m) xs ys vs e1 h2)
    · cases e
theorem dp_flatS (R : Rel K φ H S) {x y : PV} {v : V} (e : flatS S x = some y) (r : relV K φ H x v) : Dp K H v (dOf y) := dp_flat (dp_flatR R 8) x y v e r
end
/-- == -/
def eqB (S : Store) (x y : PV) : Option Bool := match x, y with
  | .int i, .int j => some (decide (i = j))
  | .str a, .str b => some (decide (a = b))
  | .bl a, .bl b => some (decide (a = b))
  | .non, .non => some true
  | x, y => match flatS S x, flatS S y with
    | some a, some b => if SeqAt.shaped (dOf a) = true ∧ SeqAt.shaped (dOf b) = true then some (PyData.eqv (dOf a) (dOf b)) else none
    | _, _ => none
def toB (o : Option Bool) (f : Bool → Bool) (S : Store) : Res PV := match o with | some b => .ok (.bl (f b)) S | none => .bad
def eqV (x y : PV) (S : Store) : Res PV := toB (eqB S x y) (fun b => b) S
def neV (x y : PV) (S : Store) : Res PV := toB (eqB S x y) (fun b => !b) S
theorem eqB_cases {K : PySem.W.Frag} {φ : List Addr} {H : Hp} {S : Store} {x y : PV} {v w : V} {b : Bool} (R : Rel K φ H S) (rx : relV K φ H x v) (ry : relV K φ H y w) (h : eqB S x y = some b) :
    (scal v w = true ∧ b = decide (v = w)) ∨ (∃ d e, Dp K H v d ∧ Dp K H w e ∧ SeqAt.shaped d = true ∧ SeqAt.shaped e = true ∧ b = PyData.eqv d e) := by
  unfold eqB at h
  split at h
  · cases h; cases rx; cases ry; exact .inl ⟨rfl, by simp⟩
  · cases h; cases rx; cases ry; exact .inl ⟨rfl, by simp⟩
  · cases h; cases rx; cases ry; exact .inl ⟨rfl, by simp⟩
  · cases h; cases rx; cases ry; exact .inl ⟨rfl, by simp⟩
  · split at h
    · rename_i a b e1 e2
      split at h
      · rename_i hs
        cases h
        exact .inr ⟨_, _, dp_flatS R e1 rx, dp_flatS R e2 ry, hs.1, hs.2, rfl⟩
      · cases h
    · cases h
theorem toB_inv {o : Option Bool} {f : Bool → Bool} {S S' : Store} {r : PV} (h : toB o f S = .ok r S') : ∃ b, o = some b ∧ r = .bl (f b) ∧ S' = S := by
  cases o with
  | none => cases h
  | some b => cases h; exact ⟨b, rfl, rfl, rfl⟩
theorem op_eqP {X : Cx} (hu : X.A.units + 64 < cLine) : OpR X (compareOp .Eq) (rI2 X.K eqV) := by
  refine OpR.imp (OpR.or op_eq (op_eqD hu)) fun x y H Q h => ?_
  obtain ⟨φ, S, px, py, r, S', R, rx, ry, e, P⟩ := h
  obtain ⟨b, e1, rfl, rfl⟩ := toB_inv e
  rcases eqB_cases R rx ry e1 with ⟨h1, rfl⟩ | ⟨d, d', h1, h2, h3, h4, rfl⟩
  · exact .inl ⟨h1, P.pure R rfl⟩
  · exact .inr ⟨d, d', h1, h2, h3, h4, P.pure R rfl⟩
theorem op_neP {X : Cx} (hu : X.A.units + 64 < cLine) : OpR X (compareOp .NotEq) (rI2 X.K neV) := by
  refine OpR.imp (OpR.or op_ne (op_neD hu)) fun x y H Q h => ?_
  obtain ⟨φ, S, px, py, r, S', R, rx, ry, e, P⟩ := h
  obtain ⟨b, e1, rfl, rfl⟩ := toB_inv e
  rcases eqB_cases R rx ry e1 with ⟨h1, rfl⟩ | ⟨d, d', h1, h2, h3, h4, rfl⟩
  · exact .inl ⟨h1, P.pure R rfl⟩
  · exact .inr ⟨d, d', h1, h2, h3, h4, P.pure R rfl⟩
/-! ### order -/
/-- order of two lists of values: eq says which pairs are alike, f what a pair gives, gz what the lengths give -/
def ordL (eq f : PV → PV → Option Bool) (gz : Nat → Nat → Bool) : List PV → List PV → Option Bool
  | [], ys => some (gz 0 ys.length)
  | _ :: xs, [] => some (gz (xs.length + 1) 0)
  | x :: xs, y :: ys => match eq x y, ordL eq f gz xs ys with
    | some true, some r => some r
    | some false, some _ => f x y
    | _, _ => none
def ordD (eq : PV → PV → Option Bool) (gi : Int → Int → Bool) (gs : List Nat → List Nat → Bool) (gz : Nat → Nat → Bool) : Nat → PV → PV → Option Bool
  | 0, x, y => match x, y with
    | .int i, .int j => some (gi i j)
    | .str a, .str b => some (gs a b)
    | _, _ => none
  | n + 1, x, y => match x, y with
    | .int i, .int j => some (gi i j)
    | .str a, .str b => some (gs a b)
    | .tup xs, .tup ys => ordL eq (ordD eq gi gs gz n) gz xs ys
    | _, _ => none
theorem lexAt_shift (e r : Nat → Bool) (z : Bool) : ∀ (k i : Nat), Ob.lexAt (fun j => e (j + 1)) (fun j => r (j + 1)) z i k = Ob.lexAt e r z (i + 1) k
  | 0, _ => rfl
  | k + 1, i => by
    show (if e (i + 1) = true then _ else _) = (if e (i + 1) = true then _ else _)
    rw [lexAt_shift e r z k (i + 1)]
theorem ordL_spec {eq f : PV → PV → Option Bool} {gz : Nat → Nat → Bool} (hz : ∀ n m, gz (n + 1) (m + 1) = gz n m) : ∀ {xs ys : List PV} {b : Bool}, ordL eq f gz xs ys = some b →
    ∃ e r : Nat → Bool, (∀ (j : Nat) (x y : PV), xs[j]? = some x → ys[j]? = some y → eq x y = some (e j) ∧ (e j = false → f x y = some (r j))) ∧ Ob.lexAt e r (gz xs.length ys.length) 0 (min xs.length ys.length) = b
  | [], ys, b, h => by
    cases h
    exact ⟨fun _ => true, fun _ => true, fun j x y e => by simp at e, by rw [List.length_nil, Nat.zero_min]; rfl⟩
  | x :: xs, [], b, h => by
    cases h
    exact ⟨fun _ => true, fun _ => true, fun j x y _ e => by simp at e, by rw [List.length_nil, Nat.min_zero]; rfl⟩
  | x :: xs, y :: ys, b, h => by
    unfold ordL at h
    split at h
    · rename_i e1 e2
      cases h
      obtain ⟨e, r, h1, h2⟩ := ordL_spec hz e2
      refine ⟨fun j => match j with | 0 => true | j + 1 => e j, fun j => match j with | 0 => true | j + 1 => r j, fun j z w hz hw => ?_, ?_⟩
      · cases j with
        | zero => simp at hz hw; subst hz hw; exact ⟨e1, fun q => by cases q⟩
        | succ j => exact h1 j z w (by simpa using hz) (by simpa using hw)
      · rw [List.length_cons, List.length_cons, hz, Nat.succ_min_succ]
        show (if true = true then _ else _) = _
        rw [if_pos rfl, ← lexAt_shift]
        exact h2
    · rename_i r0 e1 e2
      obtain ⟨e, r, h1, h2⟩ := ordL_spec hz e2
      refine ⟨fun j => match j with | 0 => false | j + 1 => e j, fun j => match j with | 0 => b | j + 1 => r j, fun j z w hz hw => ?_, ?_⟩
      · cases j with
        | zero => simp at hz hw; subst hz hw; exact ⟨e1, fun _ => h⟩
        | succ j => exact h1 j z w (by simpa using hz) (by simpa using hw)
      · rw [List.length_cons, List.length_cons, hz, Nat.succ_min_succ]
        show (if false = true then _ else _) = _
        rw [if_neg (by simp)]
    · cases h
section
variable {X : Cx} {pins : List (Addr × Obj)} {σ : L2.St} {H : Hp} {s : Shared} {φ : List Addr} {S : Store}
theorem eqAt_eqB (I : Inv X pins σ H s) (R : Rel X.K φ H S) {A : Around} (hu : A.units + 64 < cLine) {x y : PV} {v w : V} {u u' : Value} {b : Bool} (h : eqB S x y = some b) (rx : relV X.K φ H x v) (ry : relV X.K φ H y w) (ru : RelV v u) (ru' : RelV w u') :
    SeqAt.EqAt A s u u' b := by
  unfold eqB at h
  split at h
  · rename_i i j
    cases h; cases rx; cases ry
    obtain ⟨t, rfl⟩ := ru
    obtain ⟨t', rfl⟩ := ru'
    rw [show decide (i = j) = (i == j) by by_cases q : i = j <;> simp [q]]
    exact SeqAt.EqAt.int_int _ _ _ _
  · rename_i i j
    cases h; cases rx; cases ry
    obtain ⟨t, rfl⟩ := ru
    obtain ⟨t', rfl⟩ := ru'
    rw [show decide (i = j) = ((⟨i.toArray⟩ : Str) == (⟨j.toArray⟩ : Str)) by by_cases q : i = j <;> simp [q]]
    exact SeqAt.EqAt.str_str _ _ _ _
  · rename_i i j
    cases h; cases rx; cases ry
    cases ru; cases ru'
    rw [show decide (i = j) = (i == j) by by_cases q : i = j <;> simp [q]]
    exact SeqAt.EqAt.bool_bool _ _
  · cases h; cases rx; cases ry
    cases ru; cases ru'
    exact SeqAt.EqAt.same _
  · split at h
    · rename_i a b e1 e2
      split at h
      · rename_i hs
        cases h
        obtain ⟨as, r1⟩ := Dp.reads I _ _ _ (dp_flatS R e1 rx) ru
        obtain ⟨bs, r2⟩ := Dp.reads I _ _ _ (dp_flatS R e2 ry) ru'
        exact SeqAt.eqAt_reads _ _ A s _ _ as bs r1 r2 (SeqAt.canLay_of_shaped hs.1) (SeqAt.canLay_of_shaped hs.2) (SeqAt.room_of_shaped hs.1 hu)
      · cases h
    · cases h
/-- what is known of an order's op -/
structure OrdOp (op : CmpOp) (gi : Int → Int → Bool) (gs : List Nat → List Nat → Bool) (gz : Nat → Nat → Bool) : Prop where
  z : ∀ n m, gz (n + 1) (m + 1) = gz n m
  i : ∀ (A : Around) (s : Shared) (a b : Int) (t u : Tok), Ob.RcOp op A s (.int a t) (.int b u) (gi a b)
  st : ∀ (A : Around) (s : Shared) (a b : List Nat) (t u : Tok), Ob.RcOp op A s (.str ⟨a.toArray⟩ t) (.str ⟨b.toArray⟩ u) (gs a b)
  t : ∀ {A : Around} {s : Shared} {l b : Addr} {items items2 : Array Value} {e r : Nat → Bool}, s.heap.IsTuple l items → s.heap.IsTuple b items2 → A.units < cLine →
    (∀ j (h1 : j < items.size) (h2 : j < items2.size), SeqAt.EqAt A.in1 s items[j] items2[j] (e j)) → (∀ j (h1 : j < items.size) (h2 : j < items2.size), e j = false → Ob.RcOp op A.in1 s items[j] items2[j] (r j)) →
    Ob.RcOp op A s (.ref l) (.ref b) (Ob.lexAt e r (gz items.size items2.size) 0 (min items.size items2.size))
theorem ordD_ok {op : CmpOp} {gi : Int → Int → Bool} {gs : List Nat → List Nat → Bool} {gz : Nat → Nat → Bool} (O : OrdOp op gi gs gz) (I : Inv X pins σ H s) (R : Rel X.K φ H S) :
    ∀ (n : Nat) (A : Around) (x y : PV) (v w : V) (u u' : Value) (b : Bool), ordD (eqB S) gi gs gz n x y = some b → A.units + n + 64 < cLine → relV X.K φ H x v → relV X.K φ H y w → RelV v u → RelV w u' → Ob.RcOp op A s u u' b := by
  intro n
  induction n with
  | zero =>
    intro A x y v w u u' b h hu rx ry ru ru'
    unfold ordD at h
    split at h
    · cases h; cases rx; cases ry; obtain ⟨t, rfl⟩ := ru; obtain ⟨t', rfl⟩ := ru'; exact O.i A s _ _ _ _
    · cases h; cases rx; cases ry; obtain ⟨t, rfl⟩ := ru; obtain ⟨t', rfl⟩ := ru'; exact O.st A s _ _ _ _
    · cases h
  | succ n ih =>
    intro A x y v w u u' b h hu rx ry ru ru'
    unfold ordD at h
    split at h
    · cases h; cases rx; cases ry; obtain ⟨t, rfl⟩ := ru; obtain ⟨t', rfl⟩ := ru'; exact O.i A s _ _ _ _
    · cases h; cases rx; cases ry; obtain ⟨t, rfl⟩ := ru; obtain ⟨t', rfl⟩ := ru'; exact O.st A s _ _ _ _
    · rename_i xs ys
      obtain ⟨e, r, h1, h2⟩ := ordL_spec O.z h
      obtain ⟨a, vs, rfl, ha, r1⟩ := rx
      obtain ⟨c, ws, rfl, hc, r2⟩ := ry
      cases ru; cases ru'
      obtain ⟨its, q1, p1, _⟩ := I.tuple ha
      obtain ⟨its2, q2, p2, _⟩ := I.tuple hc
      have l1 : its.toArray.size = xs.length := by rw [List.size_toArray, ← q1.length, relVs_len r1]
      have l2 : its2.toArray.size = ys.length := by rw [List.size_toArray, ← q2.length, relVs_len r2]
      have at1 : ∀ j (g1 : j < its.toArray.size) (g2 : j < its2.toArray.size), ∃ x y v w, xs[j]? = some x ∧ ys[j]? = some y ∧ relV X.K φ H x v ∧ relV X.K φ H y w ∧ RelV v its.toArray[j] ∧ RelV w its2.toArray[j] := fun j g1 g2 => by
        have k1 : j < xs.length := by omega
        have k2 : j < ys.length := by omega
        obtain ⟨v, e3, r3⟩ := relVs_get r1 (List.getElem?_eq_getElem k1)
        obtain ⟨w, e4, r4⟩ := relVs_get r2 (List.getElem?_eq_getElem k2)
        obtain ⟨u, e5, r5⟩ := q1.get e3
        obtain ⟨u', e6, r6⟩ := q2.get e4
        have g1' : j < its.length := by simpa using g1
        have g2' : j < its2.length := by simpa using g2
        rw [List.getElem?_eq_getElem g1'] at e5
        rw [List.getElem?_eq_getElem g2'] at e6
        cases e5; cases e6
        exact ⟨_, _, v, w, List.getElem?_eq_getElem k1, List.getElem?_eq_getElem k2, r3, r4, by simpa using r5, by simpa using r6⟩
      have T := O.t (A := A) (s := s) (e := e) (r := r) p1 p2 (by omega) (fun j g1 g2 => by
        obtain ⟨x, y, v, w, e3, e4, r3, r4, r5, r6⟩ := at1 j g1 g2
        exact eqAt_eqB I R (A := A.in1) (by show A.units + 1 + 64 < _; omega) (h1 j x y e3 e4).1 r3 r4 r5 r6) (fun j g1 g2 he => by
        obtain ⟨x, y, v, w, e3, e4, r3, r4, r5, r6⟩ := at1 j g1 g2
        exact ih A.in1 x y v w _ _ _ ((h1 j x y e3 e4).2 he) (by show A.units + 1 + n + 64 < _; omega) r3 r4 r5 r6)
      rw [l1, l2, h2] at T
      exact T
    · cases h
end
def ordV (gi : Int → Int → Bool) (gs : List Nat → List Nat → Bool) (gz : Nat → Nat → Bool) (x y : PV) (S : Store) : Res PV := match x, y with
  | .int i, .int j => .ok (.bl (gi i j)) S
  | .str a, .str b => .ok (.bl (gs a b)) S
  | x, y => match ordD (eqB S) gi gs gz 8 x y with | some b => .ok (.bl b) S | none => .bad
theorem op_ordV {X : Cx} (hu : X.A.units + 100 < cLine) {op : CmpOp} {gi : Int → Int → Bool} {gs : List Nat → List Nat → Bool} {gz : Nat → Nat → Bool} (O : OrdOp op gi gs gz) (hop : compareOp op = richCompare op) : OpR X (compareOp op) (rI2 X.K (ordV gi gs gz)) := by
  intro pins s σ H x y v u Q I ru ru' h
  obtain ⟨φ, S, px, py, r, S', R, rx, ry, e, P⟩ := h
  have key : ∃ b, ordD (eqB S) gi gs gz 8 px py = some b ∧ r = .bl b ∧ S' = S := by
    unfold ordV at e
    split at e
    · cases e; exact ⟨_, rfl, rfl, rfl⟩
    · cases e; exact ⟨_, rfl, rfl, rfl⟩
    · split at e
      · rename_i b eb; cases e; exact ⟨b, eb, rfl, rfl⟩
      · cases e
  obtain ⟨b, eb, rfl, rfl⟩ := key
  rw [hop]
  exact ordD_ok O I R 8 X.A px py x y _ _ b eb (by omega) rx ry ru ru' X.prog X.w X.xe (EP X pins σ Q) ⟨.bl _, H, I, rfl, P.pure R rfl⟩
theorem ordLt : OrdOp .Lt (fun i j => decide (i < j)) (fun a b => decide (a < b)) (fun n m => decide (n < m)) where
  z := fun n m => by simp
  i := fun A s a b t u => Ob.RcOp.lt_int a b t u
  st := fun A s a b t u prog w E Q h => lt_str (x := ⟨a.toArray⟩) (y := ⟨b.toArray⟩) h
  t := fun hl hb hu he hr => Ob.RcOp.tuples_lt hl hb hu he hr
theorem ordLe : OrdOp .LtE (fun i j => decide (i ≤ j)) (fun a b => !decide (b < a)) (fun n m => decide (n ≤ m)) where
  z := fun n m => by simp
  i := fun A s a b t u => Ob.RcOp.le_int a b t u
  st := fun A s a b t u prog w E Q h => PySem.P.le_str (x := ⟨a.toArray⟩) (y := ⟨b.toArray⟩) h
  t := fun hl hb hu he hr => Ob.RcOp.tuples_le hl hb hu he hr
theorem ordGt : OrdOp .Gt (fun i j => decide (j < i)) (fun a b => decide (b < a)) (fun n m => decide (m < n)) where
  z := fun n m => by simp
  i := fun A s a b t u => Ob.RcOp.gt_int a b t u
  st := fun A s a b t u prog w E Q h => PySem.P.gt_str (x := ⟨a.toArray⟩) (y := ⟨b.toArray⟩) h
  t := fun hl hb hu he hr => Ob.RcOp.tuples_gt hl hb hu he hr
theorem ordGe : OrdOp .GtE (fun i j => decide (j ≤ i)) (fun a b => !decide (a < b)) (fun n m => decide (m ≤ n)) where
  z := fun n m => by simp
  i := fun A s a b t u => Ob.RcOp.ge_int a b t u
  st := fun A s a b t u prog w E Q h => PySem.P.ge_str (x := ⟨a.toArray⟩) (y := ⟨b.toArray⟩) h
  t := fun hl hb hu he hr => Ob.RcOp.tuples_ge hl hb hu he hr
def ltV : PV → PV → Store → Res PV := ordV (fun i j => decide (i < j)) (fun a b => decide (a < b)) fun n m => decide (n < m)
def leV : PV → PV → Store → Res PV := ordV (fun i j => decide (i ≤ j)) (fun a b => !decide (b < a)) fun n m => decide (n ≤ m)
def gtV : PV → PV → Store → Res PV := ordV (fun i j => decide (j < i)) (fun a b => decide (b < a)) fun n m => decide (m < n)
def geV : PV → PV → Store → Res PV := ordV (fun i j => decide (j ≤ i)) (fun a b => !decide (a < b)) fun n m => decide (m ≤ n)
/-! ### is -/
def isV (neg : Bool) (x y : PV) (S : Store) : Res PV := match x, y with
  | .non, .non => .ok (.bl (!neg)) S
  | .bl a, .bl b => .ok (.bl (if neg then !decide (a = b) else decide (a = b))) S
  | .bl _, .non => .ok (.bl neg) S
  | .int _, .non => .ok (.bl neg) S
  | .str _, .non => .ok (.bl neg) S
  | .tup _, .non => .ok (.bl neg) S
  | .ltc _, .non => .ok (.bl neg) S
  | .ref _, .non => .ok (.bl neg) S
  | _, _ => .bad
theorem op_isV {X : Cx} : OpR X (compareOp .Is) (rI2 X.K (isV false)) := by
  refine OpR.imp (OpR.or op_isN op_is_bl) fun x y H Q h => ?_
  obtain ⟨φ, S, px, py, r, S', R, rx, ry, e, P⟩ := h
  unfold isV at e
  split at e <;> cases e <;> cases ry
  · cases rx; exact .inl ⟨rfl, P.pure R rfl⟩
  · cases rx; exact .inr ⟨_, _, rfl, rfl, P.pure R rfl⟩
  · cases rx; exact .inl ⟨rfl, P.pure R rfl⟩
  · cases rx; exact .inl ⟨rfl, P.pure R rfl⟩
  · cases rx; exact .inl ⟨rfl, P.pure R rfl⟩
  · obtain ⟨_, _, rfl, _⟩ := rx; exact .inl ⟨rfl, P.pure R rfl⟩
  · obtain ⟨_, _, rfl, _⟩ := rx; exact .inl ⟨rfl, P.pure R rfl⟩
  · obtain ⟨_, rfl, _⟩ := rx; exact .inl ⟨rfl, P.pure R rfl⟩
theorem op_isnotV {X : Cx} : OpR X (compareOp .IsNot) (rI2 X.K (isV true)) := by
  refine OpR.imp (OpR.or op_notN op_isnot_bl) fun x y H Q h => ?_
  obtain ⟨φ, S, px, py, r, S', R, rx, ry, e, P⟩ := h
  unfold isV at e
  split at e <;> cases e <;> cases ry
  · cases rx; exact .inl ⟨rfl, P.pure R rfl⟩
  · cases rx; exact .inr ⟨_, _, rfl, rfl, P.pure R rfl⟩
  · cases rx; exact .inl ⟨rfl, P.pure R rfl⟩
  · cases rx; exact .inl ⟨rfl, P.pure R rfl⟩
  · cases rx; exact .inl ⟨rfl, P.pure R rfl⟩
  · obtain ⟨_, _, rfl, _⟩ := rx; exact .inl ⟨rfl, P.pure R rfl⟩
  · obtain ⟨_, _, rfl, _⟩ := rx; exact .inl ⟨rfl, P.pure R rfl⟩
  · obtain ⟨_, rfl, _⟩ := rx; exact .inl ⟨rfl, P.pure R rfl⟩
/-! ### in -/
def scalar : PV → Bool
  | .non => true | .bl _ => true | .int _ => true | .str _ => true | _ => false
def seqv : PV → PV → Bool
  | .non, .non => true
  | .bl a, .bl b => a == b
  | .bl a, .int b => (if a then 1 else 0) == b
  | .int a, .bl b => a == (if b then 1 else 0)
  | .int a, .int b => a == b
  | .str a, .str b => a == b
  | _, _ => false
def itemsOf (S : Store) : PV → Option (List PV)
  | .tup xs => some xs
  | .ltc xs => some xs
  | .ref n => match S[n]? with | some (.lst xs) => some xs | _ => none
  | _ => none
def inV (neg : Bool) (x y : PV) (S : Store) : Res PV := match x, y with
  | .str [c], .str z => .ok (.bl (if neg then !decide (c ∈ z) else decide (c ∈ z))) S
  | x, y => match itemsOf S y with
    | some xs => if scalar x = true ∧ xs.all scalar = true then .ok (.bl (if neg then !(xs.any fun y => seqv y x) else xs.any fun y => seqv y x)) S else .bad
    | none => .bad
section
variable {K : PySem.W.Frag} {φ : List Addr} {H : Hp} {S : Store}
theorem items_rel (R : Rel K φ H S) {y : PV} {xs : List PV} {w : V} (h : itemsOf S y = some xs) (r : relV K φ H y w) : ∃ p vs, w = .ref p ∧ (SqL K H p vs ∨ SqT K H p vs) ∧ relVs K φ H xs vs := by
  cases y with
  | tup ys => cases h; obtain ⟨a, vs, rfl, h1, h2⟩ := r; exact ⟨a, vs, rfl, .inr h1, h2⟩
  | ltc ys => cases h; obtain ⟨a, vs, rfl, h1, h2⟩ := r; exact ⟨a, vs, rfl, .inl h1.sq, h2⟩
  | ref n =>
    simp only [itemsOf] at h
    split at h
    · rename_i xs' hs
      cases h
      obtain ⟨a, vs, rfl, _, h1, h2⟩ := R.lst hs r
      exact ⟨a, vs, rfl, .inl (SqL.of h1), h2⟩
    · cases h
  | _ => cases h
theorem flat_of {x : PV} {v : V} (h : scalar x = true) (r : relV K φ H x v) : flatV v = true := by
  cases x <;> first | (cases r; rfl) | cases h
theorem all_flat : ∀ {xs : List PV} {vs : List V}, xs.all scalar = true → relVs K φ H xs vs → vs.all flatV = true
  | [], _, _, r => by cases r; rfl
  | x :: xs, _, h, r => by
    obtain ⟨v, ws, rfl, h1, h2⟩ := r
    rw [List.all_cons, Bool.and_eq_true] at h
    rw [List.all_cons, flat_of h.1 h1, all_flat h.2 h2]; rfl
theorem seqv_of {x y : PV} {v w : V} (hx : scalar x = true) (hy : scalar y = true) (rx : relV K φ H x v) (ry : relV K φ H y w) : L2.eqV v w = seqv x y := by
  cases x <;> first | cases hx | skip
  all_goals (cases y <;> first | cases hy | skip)
  all_goals (cases rx; cases ry; first | rfl | skip)
  rename_i a b
  show ((⟨a.toArray⟩ : Str) == ⟨b.toArray⟩) = (a == b)
  rw [Bool.eq_iff_iff]; simp
theorem any_seqv {x : PV} {v : V} (hx : scalar x = true) (rx : relV K φ H x v) : ∀ {xs : List PV} {vs : List V}, xs.all scalar = true → relVs K φ H xs vs → L2.inV v vs = xs.any fun y => seqv y x
  | [], _, _, r => by cases r; rfl
  | y :: ys, _, h, r => by
    obtain ⟨w, ws, rfl, h1, h2⟩ := r
    rw [List.all_cons, Bool.and_eq_true] at h
    show (L2.eqV w v || L2.inV v ws) = _
    rw [seqv_of h.1 hx h1 rx, any_seqv hx rx h.2 h2]; rfl
theorem inV_cases (R : Rel K φ H S) {neg : Bool} {x y r : PV} {v w : V} {S' : Store} (rx : relV K φ H x v) (ry : relV K φ H y w) (h : inV neg x y S = .ok r S') : S' = S ∧
    ((∃ c z, v = .str ⟨#[c]⟩ ∧ w = .str z ∧ r = .bl (if neg then !decide (c ∈ z.cps.toList) else decide (c ∈ z.cps.toList))) ∨
     (∃ p xs, w = .ref p ∧ (SqL K H p xs ∨ SqT K H p xs) ∧ flatV v = true ∧ xs.all flatV = true ∧ r = .bl (if neg then !L2.inV v xs else L2.inV v xs))) := by
  unfold inV at h
  split at h
  · cases h; cases rx; cases ry
    exact ⟨rfl, .inl ⟨_, _, rfl, rfl, rfl⟩⟩
  · split at h
    · rename_i xs hs
      split at h
      · rename_i hc
        cases h
        obtain ⟨p, vs, rfl, h1, h2⟩ := items_rel R hs ry
        exact ⟨rfl, .inr ⟨p, vs, rfl, h1, flat_of hc.1 rx, all_flat hc.2 h2, by rw [any_seqv hc.1 rx hc.2 h2]⟩⟩
      · cases h
    · cases h
end
theorem op_inP {X : Cx} : OpR X (compareOp .In) (rI2 X.K (inV false)) := by
  refine OpR.imp (OpR.or op_in_sign op_in_seq) fun x y H Q h => ?_
  obtain ⟨φ, S, px, py, r, S', R, rx, ry, e, P⟩ := h
  obtain ⟨rfl, h | h⟩ := inV_cases R rx ry e
  · obtain ⟨c, z, rfl, rfl, rfl⟩ := h
    exact .inl ⟨c, z, rfl, rfl, P.pure R rfl⟩
  · obtain ⟨p, xs, rfl, h1, h2, h3, rfl⟩ := h
    exact .inr ⟨p, xs, rfl, h1, h2, h3, P.pure R rfl⟩
theorem op_notinP {X : Cx} : OpR X (compareOp .NotIn) (rI2 X.K (inV true)) := by
  refine OpR.imp (OpR.or op_notIn_sign op_notIn_seq) fun x y H Q h => ?_
  obtain ⟨φ, S, px, py, r, S', R, rx, ry, e, P⟩ := h
  obtain ⟨rfl, h | h⟩ := inV_cases R rx ry e
  · obtain ⟨c, z, rfl, rfl, rfl⟩ := h
    exact .inl ⟨c, z, rfl, rfl, P.pure R rfl⟩
  · obtain ⟨p, xs, rfl, h1, h2, h3, rfl⟩ := h
    exact .inr ⟨p, xs, rfl, h1, h2, h3, P.pure R rfl⟩
def cmpV (op : CmpOp) : PV → PV → Store → Res PV := match op with
  | .Eq => eqV | .NotEq => neV | .Lt => ltV | .LtE => leV | .Gt => gtV | .GtE => geV | .Is => isV false | .IsNot => isV true | .In => inV false | .NotIn => inV true
theorem op_cmpV {X : Cx} (hu : X.A.units + 100 < cLine) (op : CmpOp) : OpR X (compareOp op) (rI2 X.K (cmpV op)) := by
  cases op with
  | Eq => exact op_eqP (by omega)
  | NotEq => exact op_neP (by omega)
  | Lt => exact op_ordV hu ordLt rfl
  | LtE => exact op_ordV hu ordLe rfl
  | Gt => exact op_ordV hu ordGt rfl
  | GtE => exact op_ordV hu ordGe rfl
  | Is => exact op_isV
  | IsNot => exact op_isnotV
  | In => exact op_inP
  | NotIn => exact op_notinP
/-! ### truth -/
def truB (S : Store) : PV → Option Bool
  | .non => some false
  | .bl b => some b
  | .int i => some (i != 0)
  | .str x => if x.length ≤ lim then some ((x.length : Int) != 0) else none
  | .tup xs => some (!xs.isEmpty)
  | .ltc xs => some (!xs.isEmpty)
  | .ref n => match S[n]? with | some (.lst xs) => some (!xs.isEmpty) | _ => none
theorem emp_rel {K : PySem.W.Frag} {φ : List Addr} {H : Hp} {xs : List PV} {vs : List V} (h : relVs K φ H xs vs) : xs.isEmpty = vs.isEmpty := by
  cases xs with
  | nil => cases h; rfl
  | cons _ _ => obtain ⟨_, _, rfl, _⟩ := h; rfl
theorem tru_rel {K : PySem.W.Frag} {φ : List Addr} {H : Hp} {S : Store} (R : Rel K φ H S) {x : PV} {v : V} {b : Bool} (h : truB S x = some b) (r : relV K φ H x v) : TruV K v H b := by
  cases x with
  | non => cases h; cases r; rfl
  | bl b => cases h; cases r; rfl
  | int i => cases h; cases r; rfl
  | str z =>
    simp only [truB] at h
    split at h
    · rename_i hl
      cases h; cases r
      exact ⟨by rw [str_len, lim_eq]; exact hl, by rw [str_len]⟩
    · cases h
  | tup xs => cases h; obtain ⟨a, vs, rfl, h1, h2⟩ := r; exact .inr (.inl ⟨vs, h1, by rw [emp_rel h2]⟩)
  | ltc xs => cases h; obtain ⟨a, vs, rfl, h1, h2⟩ := r; exact .inl ⟨vs, h1.sq, by rw [emp_rel h2]⟩
  | ref n =>
    simp only [truB] at h
    split at h
    · rename_i xs hs
      cases h
      obtain ⟨a, vs, rfl, _, h1, h2⟩ := R.lst hs r
      exact .inl ⟨vs, SqL.of h1, by rw [emp_rel h2]⟩
    · cases h
/-! ### one-place -/
def negV (x : PV) (S : Store) : Res PV := match x with | .int i => .ok (.int (-i)) S | _ => .bad
def rIun (K : PySem.W.Frag) (g : PV → Store → Res PV) : V → Hp → VK → Prop := fun x H Q => ∃ φ S px r S', Rel K φ H S ∧ relV K φ H px x ∧ g px S = .ok r S' ∧ Post K φ H Q r S'
theorem un_negV {X : Cx} : UnR X (unaryOp .USub) (rIun X.K negV) := by
  intro pins s σ H x v Q I rx h
  obtain ⟨φ, S, px, r, S', R, rp, e, P⟩ := h
  unfold negV at e
  split at e
  · cases e; cases rp; exact un_neg pins s σ H _ v Q I rx ⟨_, rfl, P.pure R rfl⟩
  · cases e
/-! ### subscripts, slices -/
def ixV (x y : PV) (S : Store) : Res PV := match y with
  | .int i => match x with
    | .str z => if z.length ≤ lim then (match atI z i with | some c => .ok (.str [c]) S | none => .bad) else .bad
    | x => match itemsOf S x with
      | some xs => (match atI xs i with | some v => .ok v S | none => .bad)
      | none => .bad
  | _ => .bad
theorem atI_rel {K : PySem.W.Frag} {φ : List Addr} {H : Hp} {xs : List PV} {vs : List V} (h : relVs K φ H xs vs) {i : Int} {x : PV} (e : atI xs i = some x) : ∃ v, atI vs i = some v ∧ relV K φ H x v := by
  unfold atI at e ⊢
  rw [← relVs_len h]
  obtain ⟨j, e1, e2⟩ := Option.bind_eq_some_iff.mp e
  obtain ⟨v, e3, r⟩ := relVs_get h e2
  exact ⟨v, by rw [e1]; exact e3, r⟩
theorem ix_V {X : Cx} : IxR X (rI2 X.K ixV) := by
  intro value slice pins s σ H x y v u Q I rx ry h hsl
  obtain ⟨φ, S, px, py, r, S', R, r1, r2, e, P⟩ := h
  refine ix_seq value slice pins s σ H x y v u Q I rx ry ?_ hsl
  unfold ixV at e
  split at e
  · cases r2
    split at e
    · split at e
      · rename_i hl
        split at e
        · rename_i c hc
          cases e; cases r1
          exact .inr (.inr ⟨_, _, c, rfl, rfl, by rw [str_len, lim_eq]; exact hl, hc, P.pure R rfl⟩)
        · cases e
      · cases e
    · split at e
      · rename_i xs hs
        split at e
        · rename_i a ha
          cases e
          obtain ⟨p, vs, rfl, h1, h2⟩ := items_rel R hs r1
          obtain ⟨w, e3, r3⟩ := atI_rel h2 ha
          rcases h1 with h1 | h1
          · exact .inl ⟨p, vs, _, w, rfl, rfl, h1, e3, P.pure R r3⟩
          · exact .inr (.inl ⟨p, vs, _, w, rfl, rfl, h1, e3, P.pure R r3⟩)
        · cases e
      · cases e
  · cases e
def cut {α : Type} (xs : List α) (lo hi : Option Int) : List α := (xs.drop (HT.sIx xs.length 0 lo)).take (HT.sIx xs.length xs.length hi - HT.sIx xs.length 0 lo)
def slV (x : PV) (lo hi : Option Int) (S : Store) : Res PV := match x with
  | .str z => if z.length ≤ lim then .ok (.str (cut z lo hi)) S else .bad
  | .tup xs => .ok (.tup (cut xs lo hi)) S
  | .ltc xs => .ok (.ref S.length) (S ++ [.lst (cut xs lo hi)])
  | .ref n => match S[n]? with | some (.lst xs) => .ok (.ref S.length) (S ++ [.lst (cut xs lo hi)]) | _ => .bad
  | _ => .bad
theorem cut_rel {K : PySem.W.Frag} {φ : List Addr} {H : Hp} {xs : List PV} {vs : List V} (h : relVs K φ H xs vs) (lo hi : Option Int) : relVs K φ H (cut xs lo hi) (cutV vs lo hi) := by
  unfold cut cutV
  rw [relVs_len h]
  exact relVs_take _ (relVs_drop _ h)
def rISl (K : PySem.W.Frag) : V → Option Int → Option Int → Hp → VK → Prop := fun x lo hi H Q => ∃ φ S px r S', Rel K φ H S ∧ relV K φ H px x ∧ slV px lo hi S = .ok r S' ∧ Post K φ H Q r S'
theorem cut_all {α : Type} {xs : List α} {lo hi : Option Int} (h : HT.sIx xs.length 0 lo = 0 ∧ HT.sIx xs.length xs.length hi = xs.length) : cut xs lo hi = xs := by
  unfold cut; rw [h.1, h.2]; simp
theorem sl_V {X : Cx} : SlR X (rISl X.K) := by
  have base := SlR.or (sl_str (X := X)) (SlR.or (sl_list (X := X)) (sl_tupA (X := X)))
  intro pins s σ H x v vl vu lo hi sl Q I rx hs pl pu h
  refine base pins s σ H x v vl vu lo hi sl Q I rx hs pl pu ?_
  obtain ⟨φ, S, px, r, S', R, r1, e, P⟩ := h
  unfold slV at e
  split at e
  · split at e
    · rename_i hl
      cases e; cases r1
      refine .inl ⟨_, rfl, by rw [str_len, lim_eq]; exact hl, ?_⟩
      have : cutS ⟨List.toArray ‹_›⟩ lo hi = ⟨(cut ‹_› lo hi).toArray⟩ := by
        unfold cutS cut
        rw [str_len]
      rw [this]
      exact P.pure R rfl
    · cases e
  · cases e
    obtain ⟨a, vs, rfl, h1, h2⟩ := r1
    refine .inr (.inr ⟨a, vs, rfl, h1, fun hw => ?_, fun _ => P.newTup R (cut_rel h2 lo hi)⟩)
    rw [cut_all (by rw [relVs_len h2]; exact hw)] at P
    exact P.pure R ⟨a, vs, rfl, h1, h2⟩
  · cases e
    obtain ⟨a, vs, rfl, h1, h2⟩ := r1
    exact .inr (.inl ⟨a, vs, rfl, h1.sq, P.newLst R (cut_rel h2 lo hi)⟩)
  · split at e
    · rename_i xs hs
      cases e
      obtain ⟨a, vs, rfl, _, h1, h2⟩ := R.lst hs r1
      exact .inr (.inl ⟨a, vs, rfl, SqL.of h1, P.newLst R (cut_rel h2 lo hi)⟩)
    · cases e
  · cases e
end Mp

/-! Mp3: built-in functions and methods, by values. -/
namespace Mp
open PySem PySem.Spec PyProof.Rows L2

def rIA (K : PySem.W.Frag) (g : List PV → Store → Res PV) : List V → Hp → VK → Prop := fun vs H Q => ∃ φ S xs r S', Rel K φ H S ∧ relVs K φ H xs vs ∧ g xs S = .ok r S' ∧ Post K φ H Q r S'
theorem CallR.imp {X : Cx} {f : Value} {r r' : List V → Hp → VK → Prop} (h : CallR X f r) (i : ∀ xs H Q, r' xs H Q → r xs H Q) : CallR X f r' :=
  fun pins s σ H xs us Q I rs q => h pins s σ H xs us Q I rs (i _ _ _ q)
section
variable {K : PySem.W.Frag} {φ : List Addr} {H : Hp} {S : Store}
theorem rel1 {x : PV} {vs : List V} (h : relVs K φ H [x] vs) : ∃ v, vs = [v] ∧ relV K φ H x v := by
  obtain ⟨v, ws, rfl, h1, h2⟩ := h; cases h2; exact ⟨v, rfl, h1⟩
theorem rel2 {x y : PV} {vs : List V} (h : relVs K φ H [x, y] vs) : ∃ v w, vs = [v, w] ∧ relV K φ H x v ∧ relV K φ H y w := by
  obtain ⟨v, ws, rfl, h1, h2⟩ := h; obtain ⟨w, rfl, h3⟩ := rel1 h2; exact ⟨v, w, rfl, h1, h3⟩
def intsOf : List PV → Option (List Int)
  | [] => some []
  | .int i :: r => (intsOf r).map (i :: ·)
  | _ => none
theorem ints_rel : ∀ {xs : List PV} {ns : List Int} {vs : List V}, intsOf xs = some ns → relVs K φ H xs vs → vs = ns.map V.int
  | [], _, _, e, r => by cases e; cases r; rfl
  | x :: xs, _, _, e, r => by
    obtain ⟨v, ws, rfl, h1, h2⟩ := r
    cases x with
    | int i =>
      obtain ⟨ms, e1, rfl⟩ := Option.map_eq_some_iff.mp e
      cases h1
      rw [ints_rel e1 h2]; rfl
    | _ => cases e
def blsOf : List PV → Option (List Bool)
  | [] => some []
  | .bl i :: r => (blsOf r).map (i :: ·)
  | _ => none
theorem bls_rel : ∀ {xs : List PV} {ns : List Bool} {vs : List V}, blsOf xs = some ns → relVs K φ H xs vs → vs = ns.map V.bl
  | [], _, _, e, r => by cases e; cases r; rfl
  | x :: xs, _, _, e, r => by
    obtain ⟨v, ws, rfl, h1, h2⟩ := r
    cases x with
    | bl i =>
      obtain ⟨ms, e1, rfl⟩ := Option.map_eq_some_iff.mp e
      cases h1
      rw [bls_rel e1 h2]; rfl
    | _ => cases e
def strsOf : List PV → Option (List (List Nat))
  | [] => some []
  | .str i :: r => (strsOf r).map (i :: ·)
  | _ => none
theorem strs_rel : ∀ {xs : List PV} {ns : List (List Nat)} {vs : List V}, strsOf xs = some ns → relVs K φ H xs vs → vs = (ns.map fun a => (⟨a.toArray⟩ : Str)).map V.str
  | [], _, _, e, r => by cases e; cases r; rfl
  | x :: xs, _, _, e, r => by
    obtain ⟨v, ws, rfl, h1, h2⟩ := r
    cases x with
    | str i =>
      obtain ⟨ms, e1, rfl⟩ := Option.map_eq_some_iff.mp e
      cases h1
      rw [strs_rel e1 h2]; rfl
    | _ => cases e
/-- a list's items -/
def litems (S : Store) : PV → Option (List PV)
  | .ltc xs => some xs
  | .ref n => match S[n]? with | some (.lst xs) => some xs | _ => none
  | _ => none
theorem litems_rel (R : Rel K φ H S) {y : PV} {xs : List PV} {w : V} (h : litems S y = some xs) (r : relV K φ H y w) : ∃ p vs, w = .ref p ∧ SqL K H p vs ∧ relVs K φ H xs vs := by
  cases y with
  | ltc ys => cases h; obtain ⟨a, vs, rfl, h1, h2⟩ := r; exact ⟨a, vs, rfl, h1.sq, h2⟩
  | ref n =>
    simp only [litems] at h
    split at h
    · rename_i xs' hs
      cases h
      obtain ⟨a, vs, rfl, _, h1, h2⟩ := R.lst hs r
      exact ⟨a, vs, rfl, SqL.of h1, h2⟩
    · cases h
  | _ => cases h
end
/-! ### len, int, abs, ord, str -/
def lenF (xs : List PV) (S : Store) : Res PV := match xs with
  | [.str a] => if a.length ≤ lim then .ok (.int a.length) S else .bad
  | [x] => match itemsOf S x with | some ys => .ok (.int ys.length) S | none => .bad
  | _ => .bad
theorem call_lenF {X : Cx} : CallR X (.builtin "len") (rIA X.K lenF) := by
  refine CallR.imp call_len fun vs H Q h => ?_
  obtain ⟨φ, S, xs, r, S', R, rs, e, P⟩ := h
  unfold lenF at e
  split at e
  · split at e
    · rename_i hl
      cases e
      obtain ⟨v, rfl, r1⟩ := rel1 rs
      cases r1
      refine ⟨_, _, rfl, ⟨by rw [str_len, lim_eq]; exact hl, rfl⟩, ?_⟩
      rw [str_len]; exact P.pure R rfl
    · cases e
  · split at e
    · rename_i ys hs
      cases e
      obtain ⟨v, rfl, r1⟩ := rel1 rs
      obtain ⟨p, ws, rfl, h1, h2⟩ := items_rel R hs r1
      refine ⟨_, ws.length, rfl, ?_, ?_⟩
      · rcases h1 with h1 | h1
        · exact .inl ⟨ws, h1, rfl⟩
        · exact .inr ⟨ws, h1, rfl⟩
      · rw [← relVs_len h2]; exact P.pure R rfl
    · cases e
  · cases e
def intF (xs : List PV) (S : Store) : Res PV := match xs with
  | [.int i] => .ok (.int i) S
  | [.bl b] => .ok (.int (if b then 1 else 0)) S
  | _ => .bad
theorem call_intF {X : Cx} : CallR X (.type "int") (rIA X.K intF) := by
  refine CallR.imp call_int1 fun vs H Q h => ?_
  obtain ⟨φ, S, xs, r, S', R, rs, e, P⟩ := h
  unfold intF at e
  split at e
  · cases e; obtain ⟨v, rfl, r1⟩ := rel1 rs; cases r1; exact .inl ⟨_, rfl, P.pure R rfl⟩
  · cases e; obtain ⟨v, rfl, r1⟩ := rel1 rs; cases r1; exact .inr ⟨_, rfl, P.pure R rfl⟩
  · cases e
def absF (xs : List PV) (S : Store) : Res PV := match xs with
  | [.int i] => .ok (.int (if i < 0 then -i else i)) S
  | _ => .bad
theorem call_absF {X : Cx} : CallR X (.builtin "abs") (rIA X.K absF) := by
  refine CallR.imp call_abs fun vs H Q h => ?_
  obtain ⟨φ, S, xs, r, S', R, rs, e, P⟩ := h
  unfold absF at e
  split at e
  · cases e; obtain ⟨v, rfl, r1⟩ := rel1 rs; cases r1; exact ⟨_, rfl, P.pure R rfl⟩
  · cases e
def ordF (xs : List PV) (S : Store) : Res PV := match xs with
  | [.str [c]] => .ok (.int (c : Nat)) S
  | _ => .bad
theorem call_ordF {X : Cx} : CallR X (.builtin "ord") (rIA X.K ordF) := by
  refine CallR.imp call_ord fun vs H Q h => ?_
  obtain ⟨φ, S, xs, r, S', R, rs, e, P⟩ := h
  unfold ordF at e
  split at e
  · cases e; obtain ⟨v, rfl, r1⟩ := rel1 rs; cases r1; exact ⟨_, rfl, rfl, P.pure R rfl⟩
  · cases e
/-- str(n) -/
def natS (n : Nat) : List Nat := (Nat.toDigits 10 n).map Char.toNat
def strI : Int → List Nat
  | .ofNat n => natS n
  | .negSucc n => 45 :: natS (n + 1)
theorem strI_eq (i : Int) : (Str.ofString (toString i)) = ⟨(strI i).toArray⟩ := by
  rw [Str.ofString_eq_toList]
  congr 2
  cases i with
  | ofNat n =>
    show (Nat.repr n).toList.map Char.toNat = natS n
    unfold Nat.repr natS
    rw [String.toList_ofList]
  | negSucc n =>
    show ("-" ++ Nat.repr (n + 1)).toList.map Char.toNat = 45 :: natS (n + 1)
    unfold Nat.repr natS
    rw [String.toList_append, List.map_append]
    have e1 : ("-" : String).toList = ['-'] := rfl
    have e2 : (String.ofList (Nat.toDigits 10 (n + 1))).toList = Nat.toDigits 10 (n + 1) := String.toList_ofList
    rw [e1, e2]
    rfl
def strF (xs : List PV) (S : Store) : Res PV := match xs with
  | [.int i] => if i.natAbs.log2 < 1920 then .ok (.str (strI i)) S else .bad
  | _ => .bad
theorem call_strF {X : Cx} : CallR X (.type "str") (rIA X.K strF) := by
  refine CallR.imp call_str_int fun vs H Q h => ?_
  obtain ⟨φ, S, xs, r, S', R, rs, e, P⟩ := h
  unfold strF at e
  split at e
  · split at e
    · rename_i hl
      cases e; obtain ⟨v, rfl, r1⟩ := rel1 rs; cases r1
      refine ⟨_, rfl, hl, ?_⟩
      rw [strI_eq]; exact P.pure R rfl
    · cases e
  · cases e
/-! ### tuple, list -/
def tupleF (xs : List PV) (S : Store) : Res PV := match xs with
  | [x] => match itemsOf S x with | some ys => .ok (.tup ys) S | none => .bad
  | _ => .bad
theorem call_tupleF {X : Cx} : CallR X (.type "tuple") (rIA X.K tupleF) := by
  refine CallR.imp call_tuple_of fun vs H Q h => ?_
  obtain ⟨φ, S, xs, r, S', R, rs, e, P⟩ := h
  unfold tupleF at e
  split at e
  · split at e
    · rename_i ys hs
      cases e
      obtain ⟨v, rfl, r1⟩ := rel1 rs
      obtain ⟨p, ws, rfl, h1, h2⟩ := items_rel R hs r1
      refine ⟨p, ws, rfl, ?_⟩
      rcases h1 with h1 | h1
      · exact .inl ⟨h1, P.newTup R h2⟩
      · exact .inr ⟨h1, P.pure R ⟨p, ws, rfl, h1, h2⟩⟩
    · cases e
  · cases e
def listF (xs : List PV) (S : Store) : Res PV := match xs with
  | [x] => match itemsOf S x with | some ys => .ok (.ref S.length) (S ++ [.lst ys]) | none => .bad
  | _ => .bad
theorem call_listF {X : Cx} : CallR X (.type "list") (rIA X.K listF) := by
  refine CallR.imp call_list_of fun vs H Q h => ?_
  obtain ⟨φ, S, xs, r, S', R, rs, e, P⟩ := h
  unfold listF at e
  split at e
  · split at e
    · rename_i ys hs
      cases e
      obtain ⟨v, rfl, r1⟩ := rel1 rs
      obtain ⟨p, ws, rfl, h1, h2⟩ := items_rel R hs r1
      exact ⟨p, ws, rfl, h1, P.newLst R h2⟩
    · cases e
  · cases e
/-! ### sum, max, min, all, any -/
def sumF (xs : List PV) (S : Store) : Res PV := match xs with
  | [x] => match (litems S x).bind intsOf with | some ns => .ok (.int ns.sum) S | none => .bad
  | _ => .bad
theorem ints_arg {K : PySem.W.Frag} {φ : List Addr} {H : Hp} {S : Store} (R : Rel K φ H S) {x : PV} {v : V} {ns : List Int} (h : (litems S x).bind intsOf = some ns) (r : relV K φ H x v) : ∃ p, v = .ref p ∧ SqL K H p (ns.map V.int) := by
  obtain ⟨ys, e1, e2⟩ := Option.bind_eq_some_iff.mp h
  obtain ⟨p, ws, rfl, h1, h2⟩ := litems_rel R e1 r
  exact ⟨p, rfl, by rw [← ints_rel e2 h2]; exact h1⟩
theorem call_sumF {X : Cx} (hc : X.calm = true) : CallR X (.builtin "sum") (rIA X.K sumF) := by
  refine CallR.imp (cr_sum hc) fun vs H Q h => ?_
  obtain ⟨φ, S, xs, r, S', R, rs, e, P⟩ := h
  unfold sumF at e
  split at e
  · split at e
    · rename_i ns hs
      cases e
      obtain ⟨v, rfl, r1⟩ := rel1 rs
      obtain ⟨p, rfl, h1⟩ := ints_arg R hs r1
      exact ⟨p, ns, rfl, h1, P.pure R rfl⟩
    · cases e
  · cases e
def maxL : List Int → Int
  | [] => 0
  | [a] => a
  | a :: r => if maxL r < a then a else maxL r
def minL : List Int → Int
  | [] => 0
  | [a] => a
  | a :: r => if a < minL r then a else minL r
theorem maxL_eq : ∀ {l : List Int} {m : Int}, m ∈ l → (∀ y ∈ l, y ≤ m) → maxL l = m
  | [], _, h, _ => by cases h
  | [a], m, h, _ => by simp at h; exact h.symm
  | a :: b :: r, m, h, hm => by
    have hl : maxL (a :: b :: r) = if maxL (b :: r) < a then a else maxL (b :: r) := rfl
    have key : ∀ l : List Int, l ≠ [] → maxL l ∈ l ∧ ∀ y ∈ l, y ≤ maxL l := by
      intro l
      induction l with
      | nil => intro h; exact absurd rfl h
      | cons x r ih =>
        intro _
        cases r with
        | nil => exact ⟨by simp [maxL], fun y hy => by simp at hy; simp [maxL, hy]⟩
        | cons z r =>
          obtain ⟨h1, h2⟩ := ih (by simp)
          have hl : maxL (x :: z :: r) = if maxL (z :: r) < x then x else maxL (z :: r) := rfl
          rw [hl]
          split
          · refine ⟨by simp, fun y hy => ?_⟩
            rcases List.mem_cons.mp hy with rfl | hy
            · exact Int.le_refl _
            · have := h2 y hy; omega
          · refine ⟨List.mem_cons_of_mem _ h1, fun y hy => ?_⟩
            rcases List.mem_cons.mp hy with rfl | hy
            · omega
            · exact h2 y hy
    obtain ⟨h1, h2⟩ := key (a :: b :: r) (by simp)
    have h3 := h2 m h
    have h4 := hm _ h1
    omega
theorem minL_eq {l : List Int} {m : Int} (h : m ∈ l) (hm : ∀ y ∈ l, m ≤ y) : minL l = m := by
  have key : ∀ l : List Int, l ≠ [] → minL l ∈ l ∧ ∀ y ∈ l, minL l ≤ y := by
    intro l
    induction l with
    | nil => intro h; exact absurd rfl h
    | cons x r ih =>
      intro _
      cases r with
      | nil => exact ⟨by simp [minL], fun y hy => by simp at hy; simp [minL, hy]⟩
      | cons z r =>
        obtain ⟨h1, h2⟩ := ih (by simp)
        have hl : minL (x :: z :: r) = if x < minL (z :: r) then x else minL (z :: r) := rfl
        rw [hl]
        split
        · refine ⟨by simp, fun y hy => ?_⟩
          rcases List.mem_cons.mp hy with rfl | hy
          · exact Int.le_refl _
          · have := h2 y hy; omega
        · refine ⟨List.mem_cons_of_mem _ h1, fun y hy => ?_⟩
          rcases List.mem_cons.mp hy with rfl | hy
          · omega
          · exact h2 y hy
  obtain ⟨h1, h2⟩ := key l (fun e => by subst e; cases h)
  have h3 := h2 m h
  have h4 := hm _ h1
  omega
def maxF (xs : List PV) (S : Store) : Res PV := match xs with
  | [.int i, .int j] => .ok (.int (if j > i then j else i)) S
  | [x] => match (litems S x).bind intsOf with | some ns => if 0 < ns.length then .ok (.int (maxL ns)) S else .bad | none => .bad
  | _ => .bad
def minF (xs : List PV) (S : Store) : Res PV := match xs with
  | [.int i, .int j] => .ok (.int (if j < i then j else i)) S
  | [x] => match (litems S x).bind intsOf with | some ns => if 0 < ns.length then .ok (.int (minL ns)) S else .bad | none => .bad
  | _ => .bad
theorem call_maxF {X : Cx} (hc : X.calm = true) : CallR X (.builtin "max") (rIA X.K maxF) := by
  refine CallR.imp (CallR.or (call_max2 hc) (cr_max hc)) fun vs H Q h => ?_
  obtain ⟨φ, S, xs, r, S', R, rs, e, P⟩ := h
  unfold maxF at e
  split at e
  · cases e
    obtain ⟨v, w, rfl, r1, r2⟩ := rel2 rs
    cases r1; cases r2
    exact .inl ⟨_, _, rfl, P.pure R rfl⟩
  · split at e
    · rename_i ns hs
      split at e
      · rename_i hl
        cases e
        obtain ⟨v, rfl, r1⟩ := rel1 rs
        obtain ⟨p, rfl, h1⟩ := ints_arg R hs r1
        exact .inr ⟨p, ns, rfl, h1, hl, fun m h2 h3 => by rw [← maxL_eq h2 h3]; exact P.pure R rfl⟩
      · cases e
    · cases e
  · cases e
theorem call_minF {X : Cx} (hc : X.calm = true) : CallR X (.builtin "min") (rIA X.K minF) := by
  refine CallR.imp (CallR.or (call_min2 hc) (cr_min hc)) fun vs H Q h => ?_
  obtain ⟨φ, S, xs, r, S', R, rs, e, P⟩ := h
  unfold minF at e
  split at e
  · cases e
    obtain ⟨v, w, rfl, r1, r2⟩ := rel2 rs
    cases r1; cases r2
    exact .inl ⟨_, _, rfl, P.pure R rfl⟩
  · split at e
    · rename_i ns hs
      split at e
      · rename_i hl
        cases e
        obtain ⟨v, rfl, r1⟩ := rel1 rs
        obtain ⟨p, rfl, h1⟩ := ints_arg R hs r1
        exact .inr ⟨p, ns, rfl, h1, hl, fun m h2 h3 => by rw [← minL_eq h2 h3]; exact P.pure R rfl⟩
      · cases e
    · cases e
  · cases e
def boolsF (f : List Bool → Bool) (xs : List PV) (S : Store) : Res PV := match xs with
  | [x] => match (litems S x).bind blsOf with | some ns => .ok (.bl (f ns)) S | none => .bad
  | _ => .bad
theorem bls_arg {K : PySem.W.Frag} {φ : List Addr} {H : Hp} {S : Store} (R : Rel K φ H S) {x : PV} {v : V} {ns : List Bool} (h : (litems S x).bind blsOf = some ns) (r : relV K φ H x v) : ∃ p, v = .ref p ∧ SqL K H p (ns.map V.bl) := by
  obtain ⟨ys, e1, e2⟩ := Option.bind_eq_some_iff.mp h
  obtain ⟨p, ws, rfl, h1, h2⟩ := litems_rel R e1 r
  exact ⟨p, rfl, by rw [← bls_rel e2 h2]; exact h1⟩
def allF : List PV → Store → Res PV := boolsF fun bs => bs.all id
def anyF : List PV → Store → Res PV := boolsF fun bs => bs.any id
theorem call_allF {X : Cx} (hc : X.calm = true) : CallR X (.builtin "all") (rIA X.K allF) := by
  refine CallR.imp (cr_all hc) fun vs H Q h => ?_
  obtain ⟨φ, S, xs, r, S', R, rs, e, P⟩ := h
  unfold allF boolsF at e
  split at e
  · split at e
    · rename_i ns hs
      cases e
      obtain ⟨v, rfl, r1⟩ := rel1 rs
      obtain ⟨p, rfl, h1⟩ := bls_arg R hs r1
      exact ⟨p, ns, rfl, h1, P.pure R rfl⟩
    · cases e
  · cases e
theorem call_anyF {X : Cx} (hc : X.calm = true) : CallR X (.builtin "any") (rIA X.K anyF) := by
  refine CallR.imp (cr_any hc) fun vs H Q h => ?_
  obtain ⟨φ, S, xs, r, S', R, rs, e, P⟩ := h
  unfold anyF boolsF at e
  split at e
  · split at e
    · rename_i ns hs
      cases e
      obtain ⟨v, rfl, r1⟩ := rel1 rs
      obtain ⟨p, rfl, h1⟩ := bls_arg R hs r1
      exact ⟨p, ns, rfl, h1, P.pure R rfl⟩
    · cases e
  · cases e
/-! ### methods -/
def rIM (K : PySem.W.Frag) (g : PV → List PV → Store → Res PV) : V → List V → Hp → VK → Prop := fun x vs H Q => ∃ φ S px xs r S', Rel K φ H S ∧ relV K φ H px x ∧ relVs K φ H xs vs ∧ g px xs S = .ok r S' ∧ Post K φ H Q r S'
theorem MtR.imp {X : Cx} {id : String} {r r' : V → List V → Hp → VK → Prop} (h : MtR X id r) (i : ∀ x xs H Q, r' x xs H Q → r x xs H Q) : MtR X id r' :=
  fun pins s σ H x xs v us Q I rx rs q => h pins s σ H x xs v us Q I rx rs (i _ _ _ _ q)
section
variable {K : PySem.W.Frag} {φ : List Addr} {H : Hp} {S : Store} {Q : VK}
theorem Post.wrote {n : Nat} {a : Addr} {xs : List PV} {vs : List V} {r : PV} (P : Post K φ H Q r (S.set n (.lst xs))) (R : Rel K φ H S) (hn : φ[n]? = some a) (rv : relVs K φ H xs vs) {v : V} (hr : relV K φ (upd H a (.lst vs)) r v) : Q v (upd H a (.lst vs)) :=
  P φ v _ (Ext.write R hn _) (R.write hn rv) hr
theorem Rel.upL (R : Rel K φ H S) {n : Nat} {a : Addr} (hn : φ[n]? = some a) {o : HO} {x : PV} {v : V} (r : relV K φ H x v) : relV K φ (upd H a o) x v := by
  obtain ⟨ws, e⟩ := R.mem_lst (List.mem_of_getElem? hn)
  exact relV_upd (by rw [e]; intro _ _ z; cases z) (by rw [e]; intro _ z; cases z) r
end
def appendM (x : PV) (xs : List PV) (S : Store) : Res PV := match x, xs with
  | .ref n, [y] => match S[n]? with
    | some (.lst zs) => if zs.length < lim then .ok .non (S.set n (.lst (zs ++ [y]))) else .bad
    | _ => .bad
  | _, _ => .bad
theorem mt_appendM {X : Cx} : MtR X "list.append" (rIM X.K appendM) := by
  refine MtR.imp mt_append fun x vs H Q h => ?_
  obtain ⟨φ, S, px, xs, r, S', R, r1, rs, e, P⟩ := h
  unfold appendM at e
  split at e
  · split at e
    · rename_i zs hs
      split at e
      · rename_i hl
        cases e
        obtain ⟨a, ws, rfl, hn, h1, h2⟩ := R.lst hs r1
        obtain ⟨v, rfl, r2⟩ := rel1 rs
        refine ⟨a, ws, v, rfl, rfl, h1, by rw [← relVs_len h2, lim_eq]; exact hl, ?_⟩
        exact P.wrote R hn (relVs_app h2 ⟨v, [], rfl, r2, rfl⟩) rfl
      · cases e
    · cases e
  · cases e
def extendM (x : PV) (xs : List PV) (S : Store) : Res PV := match x, xs with
  | .ref n, [.ref m] => match S[n]?, S[m]? with
    | some (.lst zs), some (.lst ys) => if zs.length + ys.length ≤ lim then .ok .non (S.set n (.lst (zs ++ ys))) else .bad
    | _, _ => .bad
  | _, _ => .bad
theorem mt_extendM {X : Cx} : MtR X "list.extend" (rIM X.K extendM) := by
  refine MtR.imp mt_extend fun x vs H Q h => ?_
  obtain ⟨φ, S, px, xs, r, S', R, r1, rs, e, P⟩ := h
  unfold extendM at e
  split at e
  · split at e
    · rename_i zs ys hs hs2
      split at e
      · rename_i hl
        cases e
        obtain ⟨a, ws, rfl, hn, h1, h2⟩ := R.lst hs r1
        obtain ⟨v, rfl, r2⟩ := rel1 rs
        obtain ⟨b, us, rfl, _, h3, h4⟩ := R.lst hs2 r2
        refine ⟨a, b, ws, us, rfl, rfl, h1, h3, by rw [← relVs_len h2, ← relVs_len h4, lim_eq]; exact hl, ?_⟩
        exact P.wrote R hn (relVs_app h2 h4) rfl
      · cases e
    · cases e
  · cases e
theorem relVs_dropLast {K : PySem.W.Frag} {φ : List Addr} {H : Hp} {xs : List PV} {vs : List V} (h : relVs K φ H xs vs) : relVs K φ H xs.dropLast vs.dropLast := by
  rw [List.dropLast_eq_take, List.dropLast_eq_take, relVs_len h]
  exact relVs_take _ h
def popM (x : PV) (xs : List PV) (S : Store) : Res PV := match x, xs with
  | .ref n, [] => match S[n]? with
    | some (.lst zs) => match zs[zs.length - 1]? with
      | some y => .ok y (S.set n (.lst zs.dropLast))
      | none => .bad
    | _ => .bad
  | _, _ => .bad
theorem mt_popM {X : Cx} : MtR X "list.pop" (rIM X.K popM) := by
  refine MtR.imp mt_pop fun x vs H Q h => ?_
  obtain ⟨φ, S, px, xs, r, S', R, r1, rs, e, P⟩ := h
  unfold popM at e
  split at e
  · split at e
    · rename_i zs hs
      split at e
      · rename_i y hy
        cases e
        obtain ⟨a, ws, rfl, hn, h1, h2⟩ := R.lst hs r1
        cases rs
        obtain ⟨v, hv, r2⟩ := relVs_get h2 hy
        refine ⟨a, ws, v, rfl, rfl, h1, by rw [← relVs_len h2]; exact hv, ?_⟩
        exact P.wrote R hn (relVs_dropLast h2) (R.upL hn r2)
      · cases e
    · cases e
  · cases e
def findIx (x : PV) : List PV → Option Nat
  | [] => none
  | y :: r => if seqv y x = true then some 0 else (findIx x r).map (· + 1)
theorem findIx_spec {x : PV} : ∀ {xs : List PV} {j : Nat}, findIx x xs = some j → ∃ z, xs[j]? = some z ∧ seqv z x = true ∧ ∀ m z', m < j → xs[m]? = some z' → seqv z' x = false
  | [], _, h => by cases h
  | y :: r, j, h => by
    unfold findIx at h
    split at h
    · rename_i hy
      cases h
      exact ⟨y, by simp, hy, fun m _ hm => absurd hm (Nat.not_lt_zero _)⟩
    · rename_i hy
      obtain ⟨k, e, rfl⟩ := Option.map_eq_some_iff.mp h
      obtain ⟨z, h1, h2, h3⟩ := findIx_spec e
      refine ⟨z, by simpa using h1, h2, fun m z' hm hz => ?_⟩
      cases m with
      | zero => simp at hz; subst hz; simpa using hy
      | succ m => exact h3 m z' (by omega) (by simpa using hz)
def indexM (x : PV) (xs : List PV) (S : Store) : Res PV := match xs with
  | [y] => match litems S x with
    | some zs => if scalar y = true ∧ zs.all scalar = true then (match findIx y zs with | some j => .ok (.int (j : Nat)) S | none => .bad) else .bad
    | none => .bad
  | _ => .bad
theorem scal_at {xs : List PV} (h : xs.all scalar = true) {j : Nat} {z : PV} (e : xs[j]? = some z) : scalar z = true := List.all_eq_true.mp h z (List.mem_of_getElem? e)
theorem mt_indexM {X : Cx} : MtR X "list.index" (rIM X.K indexM) := by
  refine MtR.imp mt_index fun x vs H Q h => ?_
  obtain ⟨φ, S, px, xs, r, S', R, r1, rs, e, P⟩ := h
  unfold indexM at e
  split at e
  · split at e
    · rename_i zs hs
      split at e
      · rename_i hc
        split at e
        · rename_i j hj
          cases e
          obtain ⟨a, ws, rfl, h1, h2⟩ := litems_rel R hs r1
          obtain ⟨v, rfl, r2⟩ := rel1 rs
          obtain ⟨z, g1, g2, g3⟩ := findIx_spec hj
          obtain ⟨w, hw, r3⟩ := relVs_get h2 g1
          refine ⟨a, ws, v, j, w, rfl, rfl, h1, flat_of hc.1 r2, all_flat hc.2 h2, hw, by rw [seqv_of (scal_at hc.2 g1) hc.1 r3 r2]; exact g2, fun m z' hm hz => ?_, P.pure R rfl⟩
          have hm2 : m < zs.length := by
            have := (List.getElem?_eq_some_iff.mp hz).1
            rw [relVs_len h2]; exact this
          obtain ⟨w', hw', r4⟩ := relVs_get h2 (List.getElem?_eq_getElem hm2)
          rw [hz] at hw'; cases hw'
          rw [seqv_of (scal_at hc.2 (List.getElem?_eq_getElem hm2)) hc.1 r4 r2]
          exact g3 m _ hm (List.getElem?_eq_getElem hm2)
        · cases e
      · cases e
    · cases e
  · cases e
/-! texts -/
def joinS (sep : List Nat) (parts : List (List Nat)) : List Nat := (parts.drop 1).foldl (fun acc q => acc ++ sep ++ q) (parts.headD [])
theorem join_fold (sep : List Nat) : ∀ (ps : List (List Nat)) (acc : List Nat), ((ps.map fun a => (⟨a.toArray⟩ : Str)).foldl (fun (acc : Array Nat) p => acc ++ (⟨sep.toArray⟩ : Str).cps ++ p.cps) acc.toArray) = (ps.foldl (fun acc q => acc ++ sep ++ q) acc).toArray
  | [], _ => rfl
  | p :: ps, acc => by
    rw [List.map_cons, List.foldl_cons, List.foldl_cons, ← join_fold sep ps]
    simp
theorem join_eq (sep : List Nat) (ps : List (List Nat)) : Txt.join ⟨sep.toArray⟩ (ps.map fun a => (⟨a.toArray⟩ : Str)) = ⟨(joinS sep ps).toArray⟩ := by
  unfold Txt.join Builtin.Str.glued joinS
  congr 1
  cases ps with
  | nil => rfl
  | cons p ps => exact join_fold sep ps p
def joinM (x : PV) (xs : List PV) (S : Store) : Res PV := match x, xs with
  | .str sep, [y] => match (itemsOf S y).bind strsOf with
    | some ps => if (ps.map List.length).sum + ps.length * sep.length ≤ 16777216 then .ok (.str (joinS sep ps)) S else .bad
    | none => .bad
  | _, _ => .bad
theorem mt_joinM {X : Cx} : MtR X "str.join" (rIM X.K joinM) := by
  refine MtR.imp mt_join fun x vs H Q h => ?_
  obtain ⟨φ, S, px, xs, r, S', R, r1, rs, e, P⟩ := h
  unfold joinM at e
  split at e
  · split at e
    · rename_i ps hs
      split at e
      · rename_i hl
        cases e
        cases r1
        obtain ⟨v, rfl, r2⟩ := rel1 rs
        obtain ⟨ys, e1, e2⟩ := Option.bind_eq_some_iff.mp hs
        obtain ⟨p, ws, rfl, h1, h2⟩ := items_rel R e1 r2
        have := strs_rel e2 h2
        subst this
        refine ⟨_, p, _, rfl, rfl, h1, ?_, ?_⟩
        · rw [List.map_map, List.length_map, str_len]
          have : (ps.map ((fun x => Str.length x) ∘ fun a => (⟨a.toArray⟩ : Str))) = ps.map List.length := List.map_congr_left fun a _ => str_len a
          rw [this]; exact hl
        · rw [join_eq]; exact P.pure R rfl
      · cases e
    · cases e
  · cases e
def sindexM (x : PV) (xs : List PV) (S : Store) : Res PV := match x, xs with
  | .str a, [.str b] => match Builtin.Str.occurrences ⟨a.toArray⟩ ⟨b.toArray⟩ 0 (⟨a.toArray⟩ : Str).length 1 with
    | i :: _ => .ok (.int (i : Nat)) S
    | [] => .bad
  | _, _ => .bad
theorem mt_sindexM {X : Cx} : MtR X "str.index" (rIM X.K sindexM) := by
  refine MtR.imp mt_sindex fun x vs H Q h => ?_
  obtain ⟨φ, S, px, xs, r, S', R, r1, rs, e, P⟩ := h
  unfold sindexM at e
  split at e
  · split at e
    · rename_i i rest ho
      cases e
      cases r1
      obtain ⟨v, rfl, r2⟩ := rel1 rs
      cases r2
      exact ⟨_, _, i, rest, rfl, rfl, ho, P.pure R rfl⟩
    · cases e
  · cases e
/-- s.ljust(n, c), s.ljust(n) -/
def ljustM (x : PV) (xs : List PV) (S : Store) : Res PV := match x, xs with
  | .str a, [.int i, .str [c]] => if PadOk i = true then .ok (.str (a ++ List.replicate (i.toNat - a.length) c)) S else .bad
  | _, _ => .bad
theorem mt_ljustM {X : Cx} : MtR X "str.ljust" (rIM X.K ljustM) := by
  intro pins s σ H x vs v us Q I rx rs h
  obtain ⟨φ, S, px, xs, r, S', R, r1, r2, e, P⟩ := h
  unfold ljustM at e
  split at e
  · rename_i a i c
    split at e
    · rename_i hp
      cases e
      cases r1
      obtain ⟨v1, v2, rfl, q1, q2⟩ := rel2 r2
      cases q1
      cases q2
      obtain ⟨t, rfl⟩ := rx
      cases rs with
      | cons s1 rs =>
        cases rs with
        | cons s2 rs =>
          cases rs
          obtain ⟨t1, rfl⟩ := s1
          obtain ⟨t2, rfl⟩ := s2
          refine ljust_fill hp rfl fun t' k => ⟨.str (Txt.ljustF ⟨a.toArray⟩ i ((⟨[c].toArray⟩ : Str).cps.getD 0 0)), H, I.tok k, ⟨t', rfl⟩, ?_⟩
          have : Txt.ljustF ⟨a.toArray⟩ i ((⟨[c].toArray⟩ : Str).cps.getD 0 0) = ⟨(a ++ List.replicate (i.toNat - a.length) c).toArray⟩ := by
            have q := ljustF_list ⟨a.toArray⟩ i c
            rw [str_len] at q
            have q2 : (Txt.ljustF ⟨a.toArray⟩ i c).cps = (a ++ List.replicate (i.toNat - a.length) c).toArray := by
              rw [← Array.toArray_toList (xs := (Txt.ljustF ⟨a.toArray⟩ i c).cps), q]
            show Txt.ljustF ⟨a.toArray⟩ i c = _
            cases hz : Txt.ljustF ⟨a.toArray⟩ i c with
            | mk cps => rw [hz] at q2; exact congrArg Str.mk q2
          rw [this]
          exact P.pure R rfl
    · cases e
  · cases e
end Mp

/-! Mp4: the small language and what it does. -/
namespace Mp
open PySem PySem.Spec PyProof.Rows L2

/-- built-in functions, methods, types -/
inductive Bt where | len | int | abs | ord | str | tuple | list | sum | max | min | all | any
  deriving DecidableEq
inductive Mt where | append | extend | pop | index | sindex | join | ljust
  deriving DecidableEq
inductive Ty where | none | bool | int | str | tuple | list | dict
  deriving DecidableEq
/-- a pattern of names -/
inductive Pt where | name (i : Nat) | nil | cons (p ps : Pt) | tup (ps : Pt)
mutual
inductive E where
  | var (i : Nat) | cst (v : PV)
  | bin (op : Operator) (a b : E) | neg (a : E) | cmp (op : CmpOp) (a b : E) | chain (op op' : CmpOp) (a b c : E)
  | and (a b : E) | or (a b : E) | not (a : E) | ite (c a b : E)
  | tup (es : Es) | lst (es : Es) | ix (a b : E) | sl (a : E) (lo hi : Oe)
  | call (f : Nat) (es : Es) | bt (b : Bt) (es : Es) | mt (m : Mt) (o : E) (es : Es) | isi (a : E) (ts : List Ty)
  | lc (own : List Nat) (it : It) (tg : Pt) (c : Oe) (elt : E) | lrg (tp : Bool) (lo : Oe) (hi : E)
inductive Es where | nil | cons (e : E) (es : Es)
inductive Oe where | none | some (e : E)
/-- what is walked -/
inductive It where | e (a : E) | rng (es : Es) | enu (a : E)
end
/-- what is stored to -/
inductive Tg where | pat (p : Pt) | sub (o i : E)
mutual
inductive T where
  | pass | expr (e : E) | ret (e : E) | retN | asg (t : Tg) (e : E) | par (is : List Nat) (es : Es) | aug (i : Nat) (op : Operator) (e : E) | augS (op : Operator) (o i e : E)
  | ite (c : E) (a b : Ts) | whl (c : E) (b : Ts) | frr (it : It) (t : Tg) (b : Ts) | brk | cont | never
inductive Ts where | nil | cons (t : T) (ts : Ts)
end
/-- an iterator: its items, or a list as it stands at each turn -/
inductive Ir where | vals (xs : List PV) | live (n : Nat) | enu (r : Ir)
def Ir.get (S : Store) (i : Nat) : Ir → Option PV
  | .vals xs => xs[i]?
  | .live n => match S[n]? with | some (.lst xs) => xs[i]? | _ => none
  | .enu r => (r.get S i).map fun x => .tup [.int (i : Int), x]
def Ir.fin (S : Store) (i : Nat) : Ir → Bool
  | .vals xs => decide (xs.length ≤ i)
  | .live n => match S[n]? with | some (.lst xs) => decide (xs.length ≤ i) | _ => false
  | .enu r => r.fin S i
def Ir.len (S : Store) : Ir → Nat
  | .vals xs => xs.length
  | .live n => match S[n]? with | some (.lst xs) => xs.length | _ => 0
  | .enu r => r.len S
inductive Fl where | next (ρ : Loc) | brk (ρ : Loc) | cont (ρ : Loc) | ret (v : PV)
def getL (ρ : Loc) (i : Nat) (S : Store) : Res PV := match ρ[i]? with | some (some v) => .ok v S | _ => .bad
def tru (x : PV) (S : Store) : Res Bool := match truB S x with | some b => .ok b S | none => .bad
def btF : Bt → List PV → Store → Res PV
  | .len => lenF | .int => intF | .abs => absF | .ord => ordF | .str => strF | .tuple => tupleF | .list => listF | .sum => sumF | .max => maxF | .min => minF | .all => allF | .any => anyF
def mtF : Mt → PV → List PV → Store → Res PV
  | .append => appendM | .extend => extendM | .pop => popM | .index => indexM | .sindex => sindexM | .join => joinM | .ljust => ljustM
def tyOf (S : Store) : PV → Option Ty
  | .non => some .none | .bl _ => some .bool | .int _ => some .int | .str _ => some .str | .tup _ => some .tuple | .ltc _ => some .list
  | .ref n => match S[n]? with | some (.lst _) => some .list | _ => none
def isaT : Ty → Ty → Bool
  | .bool, .int => true
  | a, b => decide (a = b)
def isiF (ts : List Ty) (x : PV) (S : Store) : Res PV := match tyOf S x with | some t => .ok (.bl (ts.any (isaT t))) S | none => .bad
def partV (x : PV) (S : Store) : Res (Option Int) := match x with | .int i => .ok (some i) S | _ => .bad
def strIt (z : List Nat) : List PV := z.map fun c => .str [c]
def iterV (x : PV) (S : Store) : Res Ir := match x with
  | .tup xs => .ok (.vals xs) S
  | .ltc xs => .ok (.vals xs) S
  | .str z => .ok (.vals (strIt z)) S
  | .ref n => .ok (.live n) S
  | _ => .bad
def enuV (x : PV) (S : Store) : Res Ir := match x with
  | .tup xs => .ok (.enu (.vals xs)) S
  | .ltc xs => .ok (.enu (.vals xs)) S
  | .ref n => .ok (.enu (.live n)) S
  | _ => .bad
def rngL (lo : Int) (n : Nat) : List PV := (List.range n).map fun (k : Nat) => .int (lo + (k : Int))
def rngD (lo : Int) (n : Nat) : List PV := (List.range n).map fun (k : Nat) => .int (lo - (k : Int))
def big62 : Int := 4611686018427387904
def rngV (xs : List PV) (S : Store) : Res Ir := match xs with
  | [.int j] => if -big62 ≤ j ∧ j < big62 then .ok (.vals (rngL 0 j.toNat)) S else .bad
  | [.int i, .int j] => if -big62 ≤ i ∧ i < big62 ∧ -big62 ≤ j ∧ j < big62 then .ok (.vals (rngL i (j - i).toNat)) S else .bad
  | [.int i, .int j, .int c] => if c = -1 ∧ -big62 ≤ i ∧ i < big62 ∧ -big62 ≤ j ∧ j < big62 then .ok (.vals (rngD i (i - j).toNat)) S else .bad
  | _ => .bad
/-- list(range(..)), tuple(range(..)) -/
def lrgV (tp : Bool) (lo : Option Int) (y : PV) (S : Store) : Res PV := match y with
  | .int j => if -big62 ≤ lo.getD 0 ∧ lo.getD 0 < big62 ∧ -big62 ≤ j ∧ j < big62 ∧ (j - lo.getD 0).toNat ≤ lim then
      (if tp = true then .ok (.tup (rngL (lo.getD 0) (j - lo.getD 0).toNat)) S else .ok (.ref S.length) (S ++ [.lst (rngL (lo.getD 0) (j - lo.getD 0).toNat)])) else .bad
  | _ => .bad
/-- o[i] = v -/
def setV (o i v : PV) (S : Store) : Res Unit := match o, i with
  | .ref n, .int k => match S[n]? with
    | some (.lst xs) => match ixN xs.length k with | some j => .ok () (S.set n (.lst (xs.set j v))) | none => .bad
    | _ => .bad
  | _, _ => .bad
def wipeL (ρ : Loc) : List Nat → Loc
  | [] => ρ
  | v :: vs => (wipeL ρ vs).set v none
def setMany : Loc → List Nat → List PV → Option Loc
  | ρ, [], [] => some ρ
  | ρ, i :: is, v :: vs => setMany (ρ.set i (some v)) is vs
  | _, _, _ => none

/-- a pattern's slots; its binding -/
def Pt.slots : Pt → List Nat
  | .name i => [i]
  | .nil => []
  | .cons p ps => p.slots ++ ps.slots
  | .tup ps => ps.slots
mutual
def asP : Pt → PV → Loc → Option Loc
  | .name i, v, ρ => some (ρ.set i (some v))
  | .tup ps, v, ρ => match v with | .tup xs => asPs ps xs ρ | _ => none
  | _, _, _ => none
def asPs : Pt → List PV → Loc → Option Loc
  | .nil, xs, ρ => match xs with | [] => some ρ | _ => none
  | .cons p ps, xs, ρ => match xs with | [] => none | x :: r => (asP p x ρ).bind fun ρ1 => asPs ps r ρ1
  | _, _, _ => none
end
def asPR (p : Pt) (v : PV) (ρ : Loc) (S : Store) : Res Loc := match asP p v ρ with | some ρ1 => .ok ρ1 S | none => .bad
def mtTy : Mt → Ty
  | .append => .list | .extend => .list | .pop => .list | .index => .list | .sindex => .str | .join => .str | .ljust => .str

/-- the calls: a def by its number -/
abbrev Calls := Nat → List PV → Store → Res PV
section
variable (c : Calls)
/-- a comprehension's turns: k left, i the next -/
def lcN (it : Ir) (turn : PV → Store → Res (Option PV)) : Nat → Nat → List PV → Store → Res (List PV)
  | 0, _, _, _ => .bad
  | k + 1, i, acc, S => match it.get S i with
    | some x => (turn x S).bind fun r S1 => match r with
      | some y => if acc.length < lim then lcN it turn k (i + 1) (acc ++ [y]) S1 else .bad
      | none => lcN it turn k (i + 1) acc S1
    | none => if it.fin S i = true then .ok acc S else .bad
mutual
def evE : E → Loc → Store → Res PV
  | .var i, ρ, S => getL ρ i S
  | .cst v, _, S => .ok v S
  | .bin op a b, ρ, S => (evE a ρ S).bind fun x S1 => (evE b ρ S1).bind fun y S2 => binV op x y S2
  | .neg a, ρ, S => (evE a ρ S).bind fun x S1 => negV x S1
  | .cmp op a b, ρ, S => (evE a ρ S).bind fun x S1 => (evE b ρ S1).bind fun y S2 => cmpV op x y S2
  | .chain op op' a b d, ρ, S => (evE a ρ S).bind fun x S1 => (evE b ρ S1).bind fun y S2 => (cmpV op x y S2).bind fun z S3 => match z with
    | .bl true => (evE d ρ S3).bind fun w S4 => cmpV op' y w S4
    | .bl false => .ok (.bl false) S3
    | _ => .bad
  | .and a b, ρ, S => (evE a ρ S).bind fun x S1 => (tru x S1).bind fun t S2 => if t = true then evE b ρ S2 else .ok x S2
  | .or a b, ρ, S => (evE a ρ S).bind fun x S1 => (tru x S1).bind fun t S2 => if t = true then .ok x S2 else evE b ρ S2
  | .not a, ρ, S => (evE a ρ S).bind fun x S1 => (tru x S1).bind fun t S2 => .ok (.bl (!t)) S2
  | .ite d a b, ρ, S => (evE d ρ S).bind fun x S1 => (tru x S1).bind fun t S2 => if t = true then evE a ρ S2 else evE b ρ S2
  | .tup es, ρ, S => (evEs es ρ S).bind fun xs S1 => if xs.length ≤ lim then .ok (.tup xs) S1 else .bad
  | .lst es, ρ, S => (evEs es ρ S).bind fun xs S1 => if xs.length ≤ lim then .ok (.ref S1.length) (S1 ++ [.lst xs]) else .bad
  | .ix a b, ρ, S => (evE a ρ S).bind fun x S1 => (evE b ρ S1).bind fun y S2 => ixV x y S2
  | .sl a lo hi, ρ, S => (evE a ρ S).bind fun x S1 => (evO lo ρ S1).bind fun l S2 => (evO hi ρ S2).bind fun h S3 => slV x l h S3
  | .call f es, ρ, S => (evEs es ρ S).bind fun xs S1 => c f xs S1
  | .bt b es, ρ, S => (evEs es ρ S).bind fun xs S1 => btF b xs S1
  | .mt m o es, ρ, S => (evE o ρ S).bind fun x S1 => if tyOf S1 x = some (mtTy m) then (evEs es ρ S1).bind fun xs S2 => mtF m x xs S2 else .bad
  | .isi a ts, ρ, S => (evE a ρ S).bind fun x S1 => isiF ts x S1
  | .lc own it tg d elt, ρ, S => (evI it ρ S).bind fun r S1 =>
    (lcN r (fun x S2 => (asPR tg x (wipeL ρ own) S2).bind fun ρ1 S3 => (evC d ρ1 S3).bind fun t S4 => if t = true then (evE elt ρ1 S4).bind fun y S5 => .ok (some y) S5 else .ok none S4) (r.len S1 + 1) 0 [] S1).bind
      fun ys S6 => .ok (.ref S6.length) (S6 ++ [.lst ys])
  | .lrg tp lo hi, ρ, S => (evO lo ρ S).bind fun l S1 => (evE hi ρ S1).bind fun y S2 => lrgV tp l y S2
def evEs : Es → Loc → Store → Res (List PV)
  | .nil, _, S => .ok [] S
  | .cons e es, ρ, S => (evE e ρ S).bind fun x S1 => (evEs es ρ S1).bind fun xs S2 => .ok (x :: xs) S2
def evO : Oe → Loc → Store → Res (Option Int)
  | .none, _, S => .ok none S
  | .some e, ρ, S => (evE e ρ S).bind fun x S1 => partV x S1
/-- a clause's test -/
def evC : Oe → Loc → Store → Res Bool
  | .none, _, S => .ok true S
  | .some e, ρ, S => (evE e ρ S).bind fun x S1 => tru x S1
def evI : It → Loc → Store → Res Ir
  | .e a, ρ, S => (evE a ρ S).bind fun x S1 => iterV x S1
  | .rng es, ρ, S => (evEs es ρ S).bind fun xs S1 => rngV xs S1
  | .enu a, ρ, S => (evE a ρ S).bind fun x S1 => enuV x S1
end
def asG : Tg → PV → Loc → Store → Res Loc
  | .pat p, v, ρ, S => asPR p v ρ S
  | .sub o i, v, ρ, S => (evE c o ρ S).bind fun x S1 => (evE c i ρ S1).bind fun y S2 => (setV x y v S2).bind fun _ S3 => .ok ρ S3
/-- a while's turns -/
def whlN (test : Loc → Store → Res Bool) (body : Loc → Store → Res Fl) : Nat → Loc → Store → Res Fl
  | 0, _, _ => .bad
  | k + 1, ρ, S => (test ρ S).bind fun t S1 => if t = true then (body ρ S1).bind fun f S2 => match f with
      | .next ρ' => whlN test body k ρ' S2
      | .cont ρ' => whlN test body k ρ' S2
      | .brk ρ' => .ok (.next ρ') S2
      | .ret v => .ok (.ret v) S2
    else .ok (.next ρ) S1
/-- a for's turns -/
def forN (it : Ir) (body : PV → Loc → Store → Res Fl) : Nat → Nat → Loc → Store → Res Fl
  | 0, _, _, _ => .bad
  | k + 1, i, ρ, S => match it.get S i with
    | some x => (body x ρ S).bind fun f S2 => match f with
      | .next ρ' => forN it body k (i + 1) ρ' S2
      | .cont ρ' => forN it body k (i + 1) ρ' S2
      | .brk ρ' => .ok (.next ρ') S2
      | .ret v => .ok (.ret v) S2
    | none => if it.fin S i = true then .ok (.next ρ) S else .bad
variable (fu : Nat)
mutual
def exT : T → Loc → Store → Res Fl
  | .pass, ρ, S => .ok (.next ρ) S
  | .expr e, ρ, S => (evE c e ρ S).bind fun _ S1 => .ok (.next ρ) S1
  | .ret e, ρ, S => (evE c e ρ S).bind fun x S1 => .ok (.ret x) S1
  | .retN, ρ, S => .ok (.ret .non) S
  | .asg t e, ρ, S => (evE c e ρ S).bind fun x S1 => (asG c t x ρ S1).bind fun ρ1 S2 => .ok (.next ρ1) S2
  | .par is es, ρ, S => (evEs c es ρ S).bind fun xs S1 => match setMany ρ is xs with | some ρ1 => .ok (.next ρ1) S1 | none => .bad
  | .aug i op e, ρ, S => (getL ρ i S).bind fun x S0 => (evE c e ρ S0).bind fun y S1 => (ibinV op x y S1).bind fun z S2 => .ok (.next (ρ.set i (some z))) S2
  | .augS op o i e, ρ, S => (evE c o ρ S).bind fun x S1 => (evE c i ρ S1).bind fun y S2 => (ixV x y S2).bind fun z S3 => (evE c e ρ S3).bind fun u S4 => (ibinV op z u S4).bind fun w S5 =>
      (setV x y w S5).bind fun _ S6 => .ok (.next ρ) S6
  | .ite d a b, ρ, S => (evE c d ρ S).bind fun x S1 => (tru x S1).bind fun t S2 => if t = true then exTs a ρ S2 else exTs b ρ S2
  | .whl d b, ρ, S => whlN (fun ρ S => (evE c d ρ S).bind fun x S1 => tru x S1) (exTs b) fu ρ S
  | .frr it t b, ρ, S => (evI c it ρ S).bind fun r S1 => forN r (fun x ρ S => (asG c t x ρ S).bind fun ρ1 S2 => exTs b ρ1 S2) (r.len S1 + 1) 0 ρ S1
  | .brk, ρ, S => .ok (.brk ρ) S
  | .cont, ρ, S => .ok (.cont ρ) S
  | .never, _, _ => .bad
def exTs : Ts → Loc → Store → Res Fl
  | .nil, ρ, S => .ok (.next ρ) S
  | .cons t ts, ρ, S => (exT t ρ S).bind fun f S1 => match f with
    | .next ρ1 => exTs ts ρ1 S1
    | f => .ok f S1
end
end
/-- a def: how many slots, its body -/
structure Fn where
  slots : Nat
  pars : Nat
  body : Ts
def runFn (c : Calls) (fu : Nat) (f : Fn) (xs : List PV) (S : Store) : Res PV :=
  if xs.length = f.pars then (exTs c fu f.body (xs.map some ++ List.replicate (f.slots - xs.length) none) S).bind fun r S1 => match r with
    | .next _ => .ok .non S1
    | .ret v => .ok v S1
    | _ => .bad
  else .bad
/-- calls, k deep -/
def callN (fs : List Fn) (fu : Nat) : Nat → Calls
  | 0, _, _, _ => .bad
  | k + 1, i, xs, S => match fs[i]? with
    | some f => runFn (callN fs fu k) fu f xs S
    | none => .bad
end Mp

/-! Mp5: expressions: what the evaluator says of them holds. -/
namespace Mp
open PySem PySem.Spec PyProof.Rows L2

def tIT (K : PySem.W.Frag) (f : Loc → Store → Res Bool) : TT := fun σ H Q => ∃ φ ρ S b S', Rel K φ H S ∧ RelL K φ H ρ σ ∧ f ρ S = .ok b S' ∧
  ∀ (φ' : List Addr) (H' : Hp), Ext φ H φ' H' → Rel K φ' H' S' → Q b H'
def tIO (K : PySem.W.Frag) (f : Loc → Store → Res (Option Int)) : TO := fun σ H Q => ∃ φ ρ S b S', Rel K φ H S ∧ RelL K φ H ρ σ ∧ f ρ S = .ok b S' ∧
  ∀ (φ' : List Addr) (H' : Hp), Ext φ H φ' H' → Rel K φ' H' S' → Q b H'
section
variable {K : PySem.W.Frag} {φ : List Addr} {H : Hp} {S S' : Store} {ρ : Loc} {σ : L2.St}
theorem tIT_step {β : Type} {f : Loc → Store → Res Bool} {g : Bool → Store → Res β} {r : β} {Q1 : Bool → Hp → Prop} (R : Rel K φ H S) (L : RelL K φ H ρ σ) (h : (f ρ S).bind g = .ok r S')
    (k : ∀ x S1, f ρ S = .ok x S1 → g x S1 = .ok r S' → ∀ φ1 H1, Ext φ H φ1 H1 → Rel K φ1 H1 S1 → RelL K φ1 H1 ρ σ → Q1 x H1) : tIT K f σ H Q1 := by
  obtain ⟨x, S1, e1, e2⟩ := bind_inv h
  exact ⟨φ, ρ, S, x, S1, R, L, e1, fun φ1 H1 E1 R1 => k x S1 e1 e2 φ1 H1 E1 R1 (L.ext R E1 R1)⟩
theorem tIO_step {β : Type} {f : Loc → Store → Res (Option Int)} {g : Option Int → Store → Res β} {r : β} {Q1 : Option Int → Hp → Prop} (R : Rel K φ H S) (L : RelL K φ H ρ σ) (h : (f ρ S).bind g = .ok r S')
    (k : ∀ x S1, f ρ S = .ok x S1 → g x S1 = .ok r S' → ∀ φ1 H1, Ext φ H φ1 H1 → Rel K φ1 H1 S1 → RelL K φ1 H1 ρ σ → Q1 x H1) : tIO K f σ H Q1 := by
  obtain ⟨x, S1, e1, e2⟩ := bind_inv h
  exact ⟨φ, ρ, S, x, S1, R, L, e1, fun φ1 H1 E1 R1 => k x S1 e1 e2 φ1 H1 E1 R1 (L.ext R E1 R1)⟩
theorem tru_inv {x : PV} {S S' : Store} {b : Bool} (h : tru x S = .ok b S') : truB S x = some b ∧ S' = S := by
  unfold tru at h
  split at h
  · rename_i e; cases h; exact ⟨e, rfl⟩
  · cases h
end
abbrev PEI (X : Cx) (e : Expr) (f : Loc → Store → Res PV) : Prop := PE X e (tI X.K f)
abbrev PTI (X : Cx) (e : Expr) (f : Loc → Store → Res Bool) : Prop := PT X e (tIT X.K f)
abbrev PAI (X : Cx) (es : List Expr) (f : Loc → Store → Res (List PV)) : Prop := PA X es (tIA X.K f)
abbrev POI (X : Cx) (e : Option Expr) (f : Loc → Store → Res (Option Int)) : Prop := PO X e (tIO X.K f)
theorem ite_law {α : Type} (r : Res PV) (F G : Store → Res α) : (r.bind fun x S1 => (tru x S1).bind fun t S2 => if t = true then F S2 else G S2) = (r.bind fun x S1 => tru x S1).bind fun t S2 => if t = true then F S2 else G S2 := by
  cases r <;> rfl
theorem and_law (r : Res PV) (F : Store → Res PV) : (r.bind fun x S1 => (tru x S1).bind fun t S2 => if t = true then F S2 else .ok x S2).bind (fun x S => tru x S) =
    (r.bind fun x S1 => tru x S1).bind fun t S2 => if t = true then (F S2).bind (fun x S => tru x S) else .ok false S2 := by
  cases r with
  | ok x S1 =>
    simp only [Res.bind_ok]
    cases h2 : tru x S1 with
    | ok t S2 =>
      simp only [Res.bind_ok]
      cases t with
      | true => rfl
      | false =>
        obtain ⟨g1, rfl⟩ := tru_inv h2
        simp only [Bool.false_eq_true, if_false, Res.bind_ok, h2]
    | exc => rfl
    | bad => rfl
  | exc => rfl
  | bad => rfl
theorem or_law (r : Res PV) (F : Store → Res PV) : (r.bind fun x S1 => (tru x S1).bind fun t S2 => if t = true then .ok x S2 else F S2).bind (fun x S => tru x S) =
    (r.bind fun x S1 => tru x S1).bind fun t S2 => if t = true then .ok true S2 else (F S2).bind (fun x S => tru x S) := by
  cases r with
  | ok x S1 =>
    simp only [Res.bind_ok]
    cases h2 : tru x S1 with
    | ok t S2 =>
      simp only [Res.bind_ok]
      cases t with
      | false => rfl
      | true =>
        obtain ⟨g1, rfl⟩ := tru_inv h2
        simp only [if_true, Res.bind_ok, h2]
    | exc => rfl
    | bad => rfl
  | exc => rfl
  | bad => rfl
theorem not_law (r : Res PV) : (r.bind fun x S1 => (tru x S1).bind fun t S2 => .ok (.bl (!t)) S2).bind (fun x S => tru x S) = (r.bind fun x S1 => tru x S1).bind fun t S2 => .ok (!t) S2 := by
  cases r with
  | ok x S1 =>
    simp only [Res.bind_ok]
    cases tru x S1 <;> rfl
  | exc => rfl
  | bad => rfl
theorem ite2_law (r : Res PV) (F G : Store → Res PV) : (r.bind fun x S1 => (tru x S1).bind fun t S2 => if t = true then F S2 else G S2).bind (fun x S => tru x S) =
    (r.bind fun x S1 => tru x S1).bind fun t S2 => if t = true then (F S2).bind (fun x S => tru x S) else (G S2).bind (fun x S => tru x S) := by
  cases r with
  | ok x S1 =>
    simp only [Res.bind_ok]
    cases tru x S1 with
    | ok t S2 => cases t <;> rfl
    | exc => rfl
    | bad => rfl
  | exc => rfl
  | bad => rfl
/-- the truth of what f gives -/
def asT (f : Loc → Store → Res PV) : Loc → Store → Res Bool := fun ρ S => (f ρ S).bind fun x S1 => tru x S1
section
variable {X : Cx} {a b d : Expr} {fa fb fd : Loc → Store → Res PV} {pos : Pos} {c : Calls}

/-! ### names, constants -/
theorem pei_var {i : Nat} {x : Str} {p : Pos} (hN : X.N[i]? = some x) (hv : Vis X.env.scope x) (h1 : (x == ("__debug__" : Str)) = false) (h2 : (x == ("__classdict__" : Str)) = false) : PEI X (.Name x p) (fun ρ S => getL ρ i S) := by
  refine PE.imp (pe_var hN hv h1 h2) fun σ H Q ⟨φ, ρ, S, r, S', R, L, e, P⟩ => ?_
  have e : getL ρ i S = .ok r S' := e
  unfold getL at e
  split at e
  · rename_i v hv
    cases e
    obtain ⟨w, e1, r1⟩ := L.2 i _ hv
    exact ⟨w, e1, P.pure R r1⟩
  · cases e
theorem pei_cst {v : PV} {w : V} (h : PE X a (tC w)) (r : ∀ φ H, relV X.K φ H v w) : PEI X a (fun _ S => .ok v S) := by
  refine PE.imp h fun σ H Q ⟨φ, ρ, S, r', S', R, L, e, P⟩ => ?_
  cases e
  exact P.pure R (r φ H)
theorem pei_int {i : Int} {k : Nat} {p : Pos} : PEI X (.Constant (.int i) k p) (fun _ S => .ok (.int i) S) := pei_cst pe_int fun _ _ => rfl
theorem pei_bl {i : Bool} {k : Nat} {p : Pos} : PEI X (.Constant (.bool i) k p) (fun _ S => .ok (.bl i) S) := pei_cst pe_bl fun _ _ => rfl
theorem pei_non {k : Nat} {p : Pos} : PEI X (.Constant .none k p) (fun _ S => .ok .non S) := pei_cst pe_non fun _ _ => rfl
theorem pei_str {x : Str} {k : Nat} {p : Pos} : PEI X (.Constant (.str x) k p) (fun _ S => .ok (.str x.cps.toList) S) := pei_cst pe_str fun _ _ => by
  show V.str x = V.str ⟨x.cps.toList.toArray⟩
  simp

/-! ### operators -/
theorem pei_op {op : Operator} {g : PV → PV → Store → Res PV} (ho : OpR X (binaryOp op) (rI2 X.K g)) (ha : PEI X a fa) (hb : PEI X b fb) :
    PEI X (.BinOp a op b pos) (fun ρ S => (fa ρ S).bind fun x S1 => (fb ρ S1).bind fun y S2 => g x y S2) := by
  refine PE.imp (pe_op ho ha hb) fun σ H Q ⟨φ, ρ, S, r, S', R, L, e, P⟩ => ?_
  refine tI_step R L e fun x S1 _ e1 φ1 v1 H1 E1 R1 L1 r1 => ?_
  refine tI_step R1 L1 e1 fun y S2 _ e2 φ2 v2 H2 E2 R2 L2 r2 => ?_
  exact ⟨φ2, S2, x, y, r, S', R2, relV_ext R1 E2 R2 _ _ r1, r2, e2, P.ext (E1.trans E2)⟩
theorem pei_cmp {op : CmpOp} {g : PV → PV → Store → Res PV} (ho : OpR X (compareOp op) (rI2 X.K g)) (ha : PEI X a fa) (hb : PEI X b fb) (hm : behindInMarks op b = false) :
    PEI X (.Compare a [op] [b] pos) (fun ρ S => (fa ρ S).bind fun x S1 => (fb ρ S1).bind fun y S2 => g x y S2) := by
  refine PE.imp (pe_cmpR ho ha hb hm) fun σ H Q ⟨φ, ρ, S, r, S', R, L, e, P⟩ => ?_
  refine tI_step R L e fun x S1 _ e1 φ1 v1 H1 E1 R1 L1 r1 => ?_
  refine tI_step R1 L1 e1 fun y S2 _ e2 φ2 v2 H2 E2 R2 L2 r2 => ?_
  exact ⟨φ2, S2, x, y, r, S', R2, relV_ext R1 E2 R2 _ _ r1, r2, e2, P.ext (E1.trans E2)⟩
theorem bl_of {K : PySem.W.Frag} {φ : List Addr} {H : Hp} {S S' : Store} {z : PV} {b : Bool} (hz : (∃ c, z = .bl c) ∨ False) (h : tru z S = .ok b S') : z = .bl b ∧ S' = S := by
  rcases hz with ⟨c, rfl⟩ | h
  · cases h; exact ⟨rfl, rfl⟩
  · exact h.elim
/-- a comparison gives a bool -/
def Bools (g : PV → PV → Store → Res PV) : Prop := ∀ x y S r S', g x y S = .ok r S' → ∃ c, r = .bl c
theorem pti_cmp {op : CmpOp} {g : PV → PV → Store → Res PV} (hg : Bools g) (ho : OpR X (compareOp op) (rI2 X.K g)) (ha : PEI X a fa) (hb : PEI X b fb) (hm : behindInMarks op b = false) :
    PTI X (.Compare a [op] [b] pos) (asT fun ρ S => (fa ρ S).bind fun x S1 => (fb ρ S1).bind fun y S2 => g x y S2) := by
  refine PT.imp (pt_cmpR ho ha hb hm) fun σ H Q ⟨φ, ρ, S, r, S', R, L, e, P⟩ => ?_
  obtain ⟨z, S9, e9, e⟩ := bind_inv e
  refine tI_step R L e9 fun x S1 _ e1 φ1 v1 H1 E1 R1 L1 r1 => ?_
  refine tI_step R1 L1 e1 fun y S2 _ e2 φ2 v2 H2 E2 R2 L2 r2 => ?_
  refine ⟨φ2, S2, x, y, z, S9, R2, relV_ext R1 E2 R2 _ _ r1, r2, e2, fun φ3 v H3 E3 R3 r3 => ?_⟩
  obtain ⟨k, rfl⟩ := hg _ _ _ _ _ e2
  cases r3
  obtain ⟨h1, rfl⟩ := tru_inv e
  cases h1
  exact ⟨_, rfl, P φ3 H3 ((E1.trans E2).trans E3) R3⟩
theorem bools_ord {gi : Int → Int → Bool} {gs : List Nat → List Nat → Bool} {gz : Nat → Nat → Bool} {x y r : PV} {S S' : Store} (h : ordV gi gs gz x y S = .ok r S') : ∃ b, r = .bl b := by
  unfold ordV at h
  split at h
  · cases h; exact ⟨_, rfl⟩
  · cases h; exact ⟨_, rfl⟩
  · split at h
    · cases h; exact ⟨_, rfl⟩
    · cases h
theorem bools_cmp (op : CmpOp) : Bools (cmpV op) := by
  intro x y S r S' h
  cases op <;> simp only [cmpV] at h
  · obtain ⟨b, _, rfl, _⟩ := toB_inv h; exact ⟨_, rfl⟩
  · obtain ⟨b, _, rfl, _⟩ := toB_inv h; exact ⟨_, rfl⟩
  · exact bools_ord h
  · exact bools_ord h
  · exact bools_ord h
  · exact bools_ord h
  · unfold isV at h; split at h <;> cases h <;> exact ⟨_, rfl⟩
  · unfold isV at h; split at h <;> cases h <;> exact ⟨_, rfl⟩
  · unfold inV at h; split at h
    · cases h; exact ⟨_, rfl⟩
    · split at h
      · split at h <;> cases h; exact ⟨_, rfl⟩
      · cases h
  · unfold inV at h; split at h
    · cases h; exact ⟨_, rfl⟩
    · split at h
      · split at h <;> cases h; exact ⟨_, rfl⟩
      · cases h
theorem pei_chain {op op' : CmpOp} {g g' : PV → PV → Store → Res PV} (ho : OpR X (compareOp op) (rI2 X.K g)) (ho' : OpR X (compareOp op') (rI2 X.K g')) (ha : PEI X a fa) (hb : PEI X b fb) (hd : PEI X d fd) (hm : lastMarks [op, op'] [b, d] = false) :
    PEI X (.Compare a [op, op'] [b, d] pos) (fun ρ S => (fa ρ S).bind fun x S1 => (fb ρ S1).bind fun y S2 => (g x y S2).bind fun z S3 => match z with
      | .bl true => (fd ρ S3).bind fun w S4 => g' y w S4
      | .bl false => .ok (.bl false) S3
      | _ => .bad) := by
  refine PE.imp (pe_chain ho ho' ha hb hd hm) fun σ H Q ⟨φ, ρ, S, r, S', R, L, e, P⟩ => ?_
  refine tI_step R L e fun x S1 _ e1 φ1 v1 H1 E1 R1 L1 r1 => ?_
  refine tI_step R1 L1 e1 fun y S2 _ e2 φ2 v2 H2 E2 R2 L2 r2 => ?_
  obtain ⟨z, S3, e3, e4⟩ := bind_inv e2
  refine ⟨φ2, S2, x, y, z, S3, R2, relV_ext R1 E2 R2 _ _ r1, r2, e3, fun φ3 v3 H3 E3 R3 r3 => ?_⟩
  split at e4
  · cases r3
    refine ⟨true, rfl, ?_⟩
    rw [if_pos rfl]
    refine tI_step R3 (L2.ext R2 E3 R3) e4 fun w S4 _ e5 φ4 v4 H4 E4 R4 L4 r4 => ?_
    exact ⟨φ4, S4, y, w, r, S', R4, relV_ext R2 (E3.trans E4) R4 _ _ r2, r4, e5, P.ext (((E1.trans E2).trans E3).trans E4)⟩
  · cases e4
    cases r3
    refine ⟨false, rfl, ?_⟩
    rw [if_neg Bool.false_ne_true]
    exact P φ3 _ H3 ((E1.trans E2).trans E3) R3 rfl
  · cases e4
theorem pti_chain {op op' : CmpOp} {g g' : PV → PV → Store → Res PV} (hg' : Bools g') (ho : OpR X (compareOp op) (rI2 X.K g)) (ho' : OpR X (compareOp op') (rI2 X.K g')) (ha : PEI X a fa) (hb : PEI X b fb) (hd : PEI X d fd) (hm : lastMarks [op, op'] [b, d] = false) :
    PTI X (.Compare a [op, op'] [b, d] pos) (asT fun ρ S => (fa ρ S).bind fun x S1 => (fb ρ S1).bind fun y S2 => (g x y S2).bind fun z S3 => match z with
      | .bl true => (fd ρ S3).bind fun w S4 => g' y w S4
      | .bl false => .ok (.bl false) S3
      | _ => .bad) := by
  refine PT.imp (pt_chain ho ho' ha hb hd hm) fun σ H Q ⟨φ, ρ, S, r, S', R, L, e, P⟩ => ?_
  obtain ⟨z9, S9, e9, e⟩ := bind_inv e
  refine tI_step R L e9 fun x S1 _ e1 φ1 v1 H1 E1 R1 L1 r1 => ?_
  refine tI_step R1 L1 e1 fun y S2 _ e2 φ2 v2 H2 E2 R2 L2 r2 => ?_
  obtain ⟨z, S3, e3, e4⟩ := bind_inv e2
  refine ⟨φ2, S2, x, y, z, S3, R2, relV_ext R1 E2 R2 _ _ r1, r2, e3, fun φ3 v3 H3 E3 R3 r3 => ?_⟩
  split at e4
  · cases r3
    refine ⟨true, rfl, ?_⟩
    rw [if_pos rfl]
    refine tI_step R3 (L2.ext R2 E3 R3) e4 fun w S4 _ e5 φ4 v4 H4 E4 R4 L4 r4 => ?_
    refine ⟨φ4, S4, y, w, z9, S9, R4, relV_ext R2 (E3.trans E4) R4 _ _ r2, r4, e5, fun φ5 v5 H5 E5 R5 r5 => ?_⟩
    obtain ⟨k, rfl⟩ := hg' _ _ _ _ _ e5
    cases r5
    obtain ⟨h1, rfl⟩ := tru_inv e
    cases h1
    exact ⟨_, rfl, P φ5 H5 ((((E1.trans E2).trans E3).trans E4).trans E5) R5⟩
  · cases e4
    cases r3
    refine ⟨false, rfl, ?_⟩
    rw [if_neg Bool.false_ne_true]
    obtain ⟨h1, rfl⟩ := tru_inv e
    cases h1
    exact ⟨_, rfl, P φ3 H3 ((E1.trans E2).trans E3) R3⟩
  · cases e4
theorem pei_neg (ha : PEI X a fa) : PEI X (.UnaryOp .USub a pos) (fun ρ S => (fa ρ S).bind fun x S1 => negV x S1) := by
  refine PE.imp (pe_un un_negV ha) fun σ H Q ⟨φ, ρ, S, r, S', R, L, e, P⟩ => ?_
  refine tI_step R L e fun x S1 _ e1 φ1 v1 H1 E1 R1 L1 r1 => ?_
  exact ⟨φ1, S1, x, r, S', R1, r1, e1, P.ext E1⟩

/-! ### and, or, not, if -/
theorem pei_one {op : BoolOp} (ha : PEI X a fa) : PEI X (.BoolOp op [a] pos) fa := pe_one ha
theorem pei_and {rest : List Expr} (ha : PEI X a fa) (hb : PEI X (.BoolOp .And (b :: rest) pos) fb) : PEI X (.BoolOp .And (a :: b :: rest) pos) (fun ρ S => (fa ρ S).bind fun x S1 => (tru x S1).bind fun t S2 => if t = true then fb ρ S2 else .ok x S2) := by
  refine PE.imp (pe_andT ha hb) fun σ H Q ⟨φ, ρ, S, r, S', R, L, e, P⟩ => ?_
  refine tI_step R L e fun x S1 _ e1 φ1 v1 H1 E1 R1 L1 r1 => ?_
  obtain ⟨t, S2, e2, e3⟩ := bind_inv e1
  obtain ⟨h1, rfl⟩ := tru_inv e2
  refine ⟨t, tru_rel R1 h1 r1, ?_⟩
  split at e3
  · rename_i ht
    rw [if_pos ht]
    exact ⟨φ1, ρ, S2, r, S', R1, L1, e3, P.ext E1⟩
  · rename_i ht
    rw [if_neg ht]
    cases e3
    exact P φ1 _ _ E1 R1 r1
theorem pei_or {rest : List Expr} (ha : PEI X a fa) (hb : PEI X (.BoolOp .Or (b :: rest) pos) fb) : PEI X (.BoolOp .Or (a :: b :: rest) pos) (fun ρ S => (fa ρ S).bind fun x S1 => (tru x S1).bind fun t S2 => if t = true then .ok x S2 else fb ρ S2) := by
  refine PE.imp (pe_orT ha hb) fun σ H Q ⟨φ, ρ, S, r, S', R, L, e, P⟩ => ?_
  refine tI_step R L e fun x S1 _ e1 φ1 v1 H1 E1 R1 L1 r1 => ?_
  obtain ⟨t, S2, e2, e3⟩ := bind_inv e1
  obtain ⟨h1, rfl⟩ := tru_inv e2
  refine ⟨t, tru_rel R1 h1 r1, ?_⟩
  split at e3
  · rename_i ht
    rw [if_pos ht]
    cases e3
    exact P φ1 _ _ E1 R1 r1
  · rename_i ht
    rw [if_neg ht]
    exact ⟨φ1, ρ, S2, r, S', R1, L1, e3, P.ext E1⟩
theorem pei_not (ha : PEI X a fa) : PEI X (.UnaryOp .Not a pos) (fun ρ S => (fa ρ S).bind fun x S1 => (tru x S1).bind fun t S2 => .ok (.bl (!t)) S2) := by
  refine PE.imp (pe_notT ha) fun σ H Q ⟨φ, ρ, S, r, S', R, L, e, P⟩ => ?_
  refine tI_step R L e fun x S1 _ e1 φ1 v1 H1 E1 R1 L1 r1 => ?_
  obtain ⟨t, S2, e2, e3⟩ := bind_inv e1
  obtain ⟨h1, rfl⟩ := tru_inv e2
  cases e3
  exact ⟨t, tru_rel R1 h1 r1, P φ1 _ _ E1 R1 rfl⟩
theorem pei_ite (hd : PTI X d (asT fd)) (ha : PEI X a fa) (hb : PEI X b fb) : PEI X (.IfExp d a b pos) (fun ρ S => (fd ρ S).bind fun x S1 => (tru x S1).bind fun t S2 => if t = true then fa ρ S2 else fb ρ S2) := by
  refine PE.imp (pe_ifExp hd ha hb) fun σ H Q ⟨φ, ρ, S, r, S', R, L, e, P⟩ => ?_
  have e' : (asT fd ρ S).bind (fun t S2 => if t = true then fa ρ S2 else fb ρ S2) = .ok r S' := (ite_law _ _ _).symm.trans e
  refine tIT_step R L e' fun t S1 _ e1 φ1 H1 E1 R1 L1 => ?_
  split at e1
  · rename_i ht
    rw [if_pos ht]
    exact ⟨φ1, ρ, S1, r, S', R1, L1, e1, P.ext E1⟩
  · rename_i ht
    rw [if_neg ht]
    exact ⟨φ1, ρ, S1, r, S', R1, L1, e1, P.ext E1⟩
/-! ### tests -/
theorem pti_truth (ha : PEI X a fa) (he : ∀ whole, isTrue a X.env whole = (do let v ← whole; standAt a.pos; holding [v] (truthy v))) : PTI X a (asT fa) := by
  refine PT.imp (pt_truth ha he) fun σ H Q ⟨φ, ρ, S, r, S', R, L, e, P⟩ => ?_
  refine tI_step R L e fun x S1 _ e1 φ1 v1 H1 E1 R1 L1 r1 => ?_
  obtain ⟨h1, rfl⟩ := tru_inv e1
  exact ⟨r, tru_rel R1 h1 r1, P φ1 _ E1 R1⟩
structure PWI (X : Cx) (e : Expr) (f : Loc → Store → Res PV) : Prop where
  pw : PW X e (tIT X.K (asT f))
theorem pwi_and1 (ha : PTI X a (asT fa)) : PWI X (.BoolOp .And [a] pos) fa := ⟨pw_and1 ha⟩
theorem pwi_or1 (ha : PTI X a (asT fa)) : PWI X (.BoolOp .Or [a] pos) fa := ⟨pw_or1 ha⟩
theorem PW.imp {e : Expr} {t t' : TT} (h : PW X e t) (i : ∀ σ H Q, t' σ H Q → t σ H Q) : PW X e t' := ⟨fun whole pins s σ H Q I q => h.run whole pins s σ H Q I (i _ _ _ q)⟩
theorem pwi_and {rest : List Expr} (ha : PTI X a (asT fa)) (hb : PWI X (.BoolOp .And (b :: rest) pos) fb) : PWI X (.BoolOp .And (a :: b :: rest) pos) (fun ρ S => (fa ρ S).bind fun x S1 => (tru x S1).bind fun t S2 => if t = true then fb ρ S2 else .ok x S2) := by
  refine ⟨PW.imp (pw_and ha hb.pw) fun σ H Q ⟨φ, ρ, S, r, S', R, L, e, P⟩ => ?_⟩
  have e' : (asT fa ρ S).bind (fun t S2 => if t = true then asT fb ρ S2 else .ok false S2) = .ok r S' := (and_law _ _).symm.trans e
  refine tIT_step R L e' fun t S1 _ e1 φ1 H1 E1 R1 L1 => ?_
  split at e1
  · rename_i ht
    rw [if_pos ht]
    exact ⟨φ1, ρ, S1, r, S', R1, L1, e1, fun φ2 H2 E2 R2 => P φ2 H2 (E1.trans E2) R2⟩
  · rename_i ht
    rw [if_neg ht]
    cases e1
    exact P φ1 H1 E1 R1
theorem pwi_or {rest : List Expr} (ha : PTI X a (asT fa)) (hb : PWI X (.BoolOp .Or (b :: rest) pos) fb) : PWI X (.BoolOp .Or (a :: b :: rest) pos) (fun ρ S => (fa ρ S).bind fun x S1 => (tru x S1).bind fun t S2 => if t = true then .ok x S2 else fb ρ S2) := by
  refine ⟨PW.imp (pw_or ha hb.pw) fun σ H Q ⟨φ, ρ, S, r, S', R, L, e, P⟩ => ?_⟩
  have e' : (asT fa ρ S).bind (fun t S2 => if t = true then .ok true S2 else asT fb ρ S2) = .ok r S' := (or_law _ _).symm.trans e
  refine tIT_step R L e' fun t S1 _ e1 φ1 H1 E1 R1 L1 => ?_
  split at e1
  · rename_i ht
    rw [if_pos ht]
    cases e1
    exact P φ1 H1 E1 R1
  · rename_i ht
    rw [if_neg ht]
    exact ⟨φ1, ρ, S1, r, S', R1, L1, e1, fun φ2 H2 E2 R2 => P φ2 H2 (E1.trans E2) R2⟩
theorem PWI.pti {e : Expr} (h : PWI X e fa) : PTI X e (asT fa) := h.pw.pt
theorem pti_not (ha : PTI X a (asT fa)) : PTI X (.UnaryOp .Not a pos) (asT fun ρ S => (fa ρ S).bind fun x S1 => (tru x S1).bind fun t S2 => .ok (.bl (!t)) S2) := by
  refine PT.imp (pt_not ha) fun σ H Q ⟨φ, ρ, S, r, S', R, L, e, P⟩ => ?_
  have e' : (asT fa ρ S).bind (fun t S2 => .ok (!t) S2) = .ok r S' := (not_law _).symm.trans e
  refine tIT_step R L e' fun t S1 _ e1 φ1 H1 E1 R1 L1 => ?_
  cases e1
  exact P φ1 H1 E1 R1
theorem pti_ite (hd : PTI X d (asT fd)) (ha : PTI X a (asT fa)) (hb : PTI X b (asT fb)) : PTI X (.IfExp d a b pos) (asT fun ρ S => (fd ρ S).bind fun x S1 => (tru x S1).bind fun t S2 => if t = true then fa ρ S2 else fb ρ S2) := by
  refine ⟨fun pins s σ H Q I ⟨φ, ρ, S, r, S', R, L, e, P⟩ => ?_⟩
  have e' : (asT fd ρ S).bind (fun t S2 => if t = true then asT fa ρ S2 else asT fb ρ S2) = .ok r S' := (ite2_law _ _ _).symm.trans e
  refine isTrue_IfExp (thn (hd.run pins s σ H (fun t H1 => if t = true then tIT X.K (asT fa) σ H1 Q else tIT X.K (asT fb) σ H1 Q) I ?_) fun t s1 ⟨H1, I1, q1⟩ => ?_)
  · refine tIT_step R L e' fun t S1 _ e1 φ1 H1 E1 R1 L1 => ?_
    split at e1
    · rename_i ht
      rw [if_pos ht]
      exact ⟨φ1, ρ, S1, r, S', R1, L1, e1, fun φ2 H2 E2 R2 => P φ2 H2 (E1.trans E2) R2⟩
    · rename_i ht
      rw [if_neg ht]
      exact ⟨φ1, ρ, S1, r, S', R1, L1, e1, fun φ2 H2 E2 R2 => P φ2 H2 (E1.trans E2) R2⟩
  · cases t with
    | true => exact ha.run pins s1 σ H1 Q I1 (by simpa using q1)
    | false => exact hb.run pins s1 σ H1 Q I1 (by simpa using q1)
/-! ### displays, subscripts -/
variable {es : List Expr} {fs : Loc → Store → Res (List PV)}
theorem pai_nil : PAI X [] (fun _ S => .ok [] S) := by
  refine PA.imp pa_nil fun σ H Q ⟨φ, ρ, S, r, S', R, L, e, P⟩ => ?_
  cases e
  exact P φ _ H (Ext.refl _ _) R rfl
theorem pai_cons (ha : PEI X a fa) (hr : PAI X es fs) (hs : starEach (a :: es) X.env = (false, eval a X.env) :: starEach es X.env) :
    PAI X (a :: es) (fun ρ S => (fa ρ S).bind fun x S1 => (fs ρ S1).bind fun xs S2 => .ok (x :: xs) S2) := by
  refine PA.imp (pa_cons ha hr hs) fun σ H Q ⟨φ, ρ, S, r, S', R, L, e, P⟩ => ?_
  refine tI_step R L e fun x S1 _ e1 φ1 v1 H1 E1 R1 L1 r1 => ?_
  refine tIA_step R1 L1 e1 fun xs S2 _ e2 φ2 vs H2 E2 R2 L2 r2 => ?_
  cases e2
  exact P φ2 _ H2 (E1.trans E2) R2 ⟨v1, vs, rfl, relV_ext R1 E2 R2 _ _ r1, r2⟩
theorem pei_tup {k : Nat} (h : PAI X es fs) : PEI X (.Tuple es k pos) (fun ρ S => (fs ρ S).bind fun xs S1 => if xs.length ≤ lim then .ok (.tup xs) S1 else .bad) := by
  refine PE.imp (pe_tup h) fun σ H Q ⟨φ, ρ, S, r, S', R, L, e, P⟩ => ?_
  refine tIA_step R L e fun xs S1 _ e1 φ1 vs H1 E1 R1 L1 r1 => ?_
  split at e1
  · rename_i hl
    cases e1
    exact ⟨by rw [← relVs_len r1, lim_eq]; exact hl, (P.ext E1).newTup R1 r1⟩
  · cases e1
theorem pei_lst (h : PAI X es fs) : PEI X (.List es pos) (fun ρ S => (fs ρ S).bind fun xs S1 => if xs.length ≤ lim then .ok (.ref S1.length) (S1 ++ [.lst xs]) else .bad) := by
  refine PE.imp (pe_lst h) fun σ H Q ⟨φ, ρ, S, r, S', R, L, e, P⟩ => ?_
  refine tIA_step R L e fun xs S1 _ e1 φ1 vs H1 E1 R1 L1 r1 => ?_
  split at e1
  · rename_i hl
    cases e1
    exact ⟨by rw [← relVs_len r1, lim_eq]; exact hl, (P.ext E1).newLst R1 r1⟩
  · cases e1
theorem pei_ix (ha : PEI X a fa) (hb : PEI X b fb) (hs : PlainIx b) : PEI X (.Subscript a b pos) (fun ρ S => (fa ρ S).bind fun x S1 => (fb ρ S1).bind fun y S2 => ixV x y S2) := by
  refine PE.imp (pe_ix ix_V ha hb hs) fun σ H Q ⟨φ, ρ, S, r, S', R, L, e, P⟩ => ?_
  refine tI_step R L e fun x S1 _ e1 φ1 v1 H1 E1 R1 L1 r1 => ?_
  refine tI_step R1 L1 e1 fun y S2 _ e2 φ2 v2 H2 E2 R2 L2 r2 => ?_
  exact ⟨φ2, S2, x, y, r, S', R2, relV_ext R1 E2 R2 _ _ r1, r2, e2, P.ext (E1.trans E2)⟩
theorem PO.imp {e : Option Expr} {t t' : TO} (h : PO X e t) (i : ∀ σ H Q, t' σ H Q → t σ H Q) : PO X e t' := ⟨fun pins s σ H Q I q => h.run pins s σ H Q I (i _ _ _ q)⟩
theorem poi_none : POI X none (fun _ S => .ok none S) := by
  refine PO.imp po_none fun σ H Q ⟨φ, ρ, S, r, S', R, L, e, P⟩ => ?_
  cases e
  exact P φ H (Ext.refl _ _) R
theorem poi_some (h : PEI X a fa) : POI X (some a) (fun ρ S => (fa ρ S).bind fun x S1 => partV x S1) := by
  refine PO.imp (po_some h) fun σ H Q ⟨φ, ρ, S, r, S', R, L, e, P⟩ => ?_
  refine tI_step R L e fun x S1 _ e1 φ1 v1 H1 E1 R1 L1 r1 => ?_
  unfold partV at e1
  split at e1
  · cases e1; cases r1; exact ⟨_, rfl, P φ1 H1 E1 R1⟩
  · cases e1
theorem pei_sl {lo hi : Option Expr} {fl fh : Loc → Store → Res (Option Int)} {p2 : Pos} (ha : PEI X a fa) (hl : POI X lo fl) (hh : POI X hi fh) :
    PEI X (.Subscript a (.Slice lo hi none p2) pos) (fun ρ S => (fa ρ S).bind fun x S1 => (fl ρ S1).bind fun l S2 => (fh ρ S2).bind fun h S3 => slV x l h S3) := by
  refine PE.imp (pe_slice sl_V ha hl hh) fun σ H Q ⟨φ, ρ, S, r, S', R, L, e, P⟩ => ?_
  refine tI_step R L e fun x S1 _ e1 φ1 v1 H1 E1 R1 L1 r1 => ?_
  refine tIO_step R1 L1 e1 fun l S2 _ e2 φ2 H2 E2 R2 L2 => ?_
  refine tIO_step R2 L2 e2 fun u S3 _ e3 φ3 H3 E3 R3 L3 => ?_
  exact ⟨φ3, S3, x, r, S', R3, relV_ext R1 (E2.trans E3) R3 _ _ r1, e3, P.ext ((E1.trans E2).trans E3)⟩
/-! ### list(range(..)), tuple(range(..)) -/
theorem rel_map {K : PySem.W.Frag} {φ : List Addr} {H : Hp} {α : Type} {f : α → PV} {g : α → V} (h : ∀ x, relV K φ H (f x) (g x)) : ∀ l : List α, relVs K φ H (l.map f) (l.map g)
  | [] => rfl
  | x :: l => ⟨_, _, rfl, h x, rel_map h l⟩
theorem rg_rel {K : PySem.W.Frag} {φ : List Addr} {H : Hp} (a b : Int) : relVs K φ H (rngL a (b - a).toNat) (rgV a b) := by
  unfold rngL rgV
  exact rel_map (f := fun (k : Nat) => PV.int (a + (k : Int))) (g := fun (i : Nat) => V.int (a + (i : Nat))) (fun _ => rfl) _
theorem lrg_inv {tp : Bool} {l : Option Int} {y r : PV} {S S' : Store} (h : lrgV tp l y S = .ok r S') : ∃ j, y = .int j ∧ RgOk (l.getD 0) j ∧
    ((tp = true ∧ r = .tup (rngL (l.getD 0) (j - l.getD 0).toNat) ∧ S' = S) ∨ (tp = false ∧ r = .ref S.length ∧ S' = S ++ [.lst (rngL (l.getD 0) (j - l.getD 0).toNat)])) := by
  unfold lrgV at h
  split at h
  · rename_i j
    split at h
    · rename_i hc
      have hk : RgOk (l.getD 0) j := by
        obtain ⟨h1, h2, h3, h4, h5⟩ := hc
        unfold big62 at h1 h2 h3 h4
        unfold lim at h5
        exact ⟨by omega, by omega, by omega, by omega, by omega⟩
      refine ⟨j, rfl, hk, ?_⟩
      split at h
      · rename_i ht; cases h; exact .inl ⟨ht, rfl, rfl⟩
      · rename_i ht; cases h; exact .inr ⟨by simpa using ht, rfl, rfl⟩
    · cases h
  · cases h
theorem pei_lrg1 {p p1 pos1 : Pos} {nm : Str} {tp : Bool} (hn : nm = (if tp = true then ("tuple" : Str) else "list")) (hc : X.calm = true) (hg : Gl X nm) (hm : X.mg nm = none) (hgr : Gl X "range") (hmr : X.mg "range" = none) (ha : PEI X a fa) (na : starEach [a] X.env = (false, eval a X.env) :: starEach [] X.env) :
    PEI X (.Call (.Name nm p) [.Call (.Name "range" p1) [a] [] pos1] [] pos) (fun ρ S => (Res.ok none S : Res (Option Int)).bind fun l S1 => (fa ρ S1).bind fun y S2 => lrgV tp l y S2) := by
  cases tp with
  | true =>
    subst hn
    refine PE.imp (pe_tupRg hc hg hm (prg_1 hgr hmr ha na) rfl) fun σ H Q ⟨φ, ρ, S, r, S', R, L, e, P⟩ => ?_
    have e : ((fa ρ S).bind fun y S2 => lrgV true none y S2) = .ok r S' := e
    refine tI_step R L e fun y S2 _ e2 φ2 v2 H2 E2 R2 L2 r2 => ?_
    obtain ⟨j, rfl, hk, hr⟩ := lrg_inv e2
    cases r2
    refine ⟨j, rfl, hk, ?_⟩
    rcases hr with ⟨_, rfl, rfl⟩ | ⟨h, _⟩
    · exact (P.ext E2).newTup R2 (rg_rel _ _)
    · cases h
  | false =>
    subst hn
    refine PE.imp (pe_listRg hc hg hm (prg_1 hgr hmr ha na) rfl) fun σ H Q ⟨φ, ρ, S, r, S', R, L, e, P⟩ => ?_
    have e : ((fa ρ S).bind fun y S2 => lrgV false none y S2) = .ok r S' := e
    refine tI_step R L e fun y S2 _ e2 φ2 v2 H2 E2 R2 L2 r2 => ?_
    obtain ⟨j, rfl, hk, hr⟩ := lrg_inv e2
    cases r2
    refine ⟨j, rfl, hk, ?_⟩
    rcases hr with ⟨h, _⟩ | ⟨_, rfl, rfl⟩
    · cases h
    · exact (P.ext E2).newLst R2 (rg_rel _ _)
theorem pei_lrg2 {p p1 pos1 : Pos} {nm : Str} {tp : Bool} (hn : nm = (if tp = true then ("tuple" : Str) else "list")) (hc : X.calm = true) (hg : Gl X nm) (hm : X.mg nm = none) (hgr : Gl X "range") (hmr : X.mg "range" = none) (ha : PEI X a fa) (hb : PEI X b fb)
    (na : starEach [a, b] X.env = (false, eval a X.env) :: starEach [b] X.env) (nb : starEach [b] X.env = (false, eval b X.env) :: starEach [] X.env) (hp : (backTo pos1 (starEach [b] X.env)).any (·.1) = false) :
    PEI X (.Call (.Name nm p) [.Call (.Name "range" p1) [a, b] [] pos1] [] pos) (fun ρ S => ((fa ρ S).bind fun x S1 => partV x S1).bind fun l S1 => (fb ρ S1).bind fun y S2 => lrgV tp l y S2) := by
  have key : ∀ {σ H Q}, tI X.K (fun ρ S => ((fa ρ S).bind fun x S1 => partV x S1).bind fun l S1 => (fb ρ S1).bind fun y S2 => lrgV tp l y S2) σ H Q →
      tRg2 (tI X.K fa) (tI X.K fb) σ H fun i j H2 => RgOk i j ∧ ∀ q, H2 q = none → Q (.ref q) (upd H2 q (if tp = true then .tup (rgV i j) else .lst (rgV i j))) := by
    intro σ H Q ⟨φ, ρ, S, r, S', R, L, e, P⟩
    have e : ((fa ρ S).bind fun x S1 => ((partV x S1).bind fun l S1 => (fb ρ S1).bind fun y S2 => lrgV tp l y S2)) = .ok r S' := by
      rw [← e]
      show _ = ((fa ρ S).bind fun x S1 => partV x S1).bind _
      cases fa ρ S <;> rfl
    refine tI_step R L e fun x S1 _ e1 φ1 v1 H1 E1 R1 L1 r1 => ?_
    cases x with
    | int i =>
      have e1 : ((fb ρ S1).bind fun y S2 => lrgV tp (some i) y S2) = .ok r S' := e1
      refine tI_step R1 L1 e1 fun y S2 _ e2 φ2 v2 H2 E2 R2 L2 r2 => ?_
      obtain ⟨j, rfl, hk, hr⟩ := lrg_inv e2
      cases r1
      cases r2
      refine ⟨i, j, rfl, rfl, hk, ?_⟩
      rcases hr with ⟨rfl, rfl, rfl⟩ | ⟨rfl, rfl, rfl⟩
      · exact (P.ext (E1.trans E2)).newTup R2 (rg_rel _ _)
      · exact (P.ext (E1.trans E2)).newLst R2 (rg_rel _ _)
    | _ => cases e1
  cases tp with
  | true => subst hn; exact PE.imp (pe_tupRg hc hg hm (prg_2 hgr hmr ha hb na nb hp) rfl) fun σ H Q h => key h
  | false => subst hn; exact PE.imp (pe_listRg hc hg hm (prg_2 hgr hmr ha hb na nb hp) rfl) fun σ H Q h => key h
/-! ### built-in functions and methods -/
theorem pei_callB {x : Str} {p : Pos} {id : String} {g : List PV → Store → Res PV} (hc : CallR X (.builtin id) (rIA X.K g)) (hg : Gl X x) (hm : X.mg x = none) (hv : bootBuiltins x = some (.builtin id)) (ha : PAI X (a :: es) fs)
    (hn : x ≠ "__name__") (hdb : (x == ("__debug__" : Str)) = false) (he : starEach (a :: es) X.env = (false, eval a X.env) :: starEach es X.env) (hpl : (backTo pos (starEach es X.env)).any (·.1) = false) :
    PEI X (.Call (.Name x p) (a :: es) [] pos) (fun ρ S => (fs ρ S).bind fun xs S1 => g xs S1) := by
  refine PE.imp (pe_callB hc hg hm hv ha hn hdb he hpl) fun σ H Q ⟨φ, ρ, S, r, S', R, L, e, P⟩ => ?_
  refine tIA_step R L e fun xs S1 _ e1 φ1 vs H1 E1 R1 L1 r1 => ?_
  exact ⟨φ1, S1, xs, r, S', R1, r1, e1, P.ext E1⟩
theorem pei_callTy {x : Str} {p : Pos} {id : String} {g : List PV → Store → Res PV} (hc : CallR X (.type id) (rIA X.K g)) (hg : Gl X x) (hm : X.mg x = none) (hv : bootBuiltins x = some (.type id)) (ha : PAI X (a :: es) fs)
    (hn : x ≠ "__name__") (hdb : (x == ("__debug__" : Str)) = false) (he : starEach (a :: es) X.env = (false, eval a X.env) :: starEach es X.env) (hpl : (backTo pos (starEach es X.env)).any (·.1) = false) :
    PEI X (.Call (.Name x p) (a :: es) [] pos) (fun ρ S => (fs ρ S).bind fun xs S1 => g xs S1) := by
  refine PE.imp (pe_callTy hc hg hm hv ha hn hdb he hpl) fun σ H Q ⟨φ, ρ, S, r, S', R, L, e, P⟩ => ?_
  refine tIA_step R L e fun xs S1 _ e1 φ1 vs H1 E1 R1 L1 r1 => ?_
  exact ⟨φ1, S1, xs, r, S', R1, r1, e1, P.ext E1⟩
/-- a method of a built-in type -/
def Ty.nm : Ty → String
  | .none => "NoneType" | .bool => "bool" | .int => "int" | .str => "str" | .tuple => "tuple" | .list => "list" | .dict => "dict"
theorem tyV_of {K : PySem.W.Frag} {φ : List Addr} {H : Hp} {S : Store} {x : PV} {v : V} {t : Ty} (R : Rel K φ H S) (r : relV K φ H x v) (h : tyOf S x = some t) (ht : t = .list ∨ t = .str) : tyV K t.nm v H := by
  cases x with
  | str z => cases h; cases r; rfl
  | ltc xs => cases h; obtain ⟨a, vs, rfl, h1, _⟩ := r; exact .inl ⟨rfl, vs, h1.sq⟩
  | ref n =>
    simp only [tyOf] at h
    split at h
    · rename_i xs hs
      cases h
      obtain ⟨a, vs, rfl, _, h1, _⟩ := R.lst hs r
      exact .inl ⟨rfl, vs, SqL.of h1⟩
    · cases h
  | non => cases h; rcases ht with h | h <;> cases h
  | bl _ => cases h; rcases ht with h | h <;> cases h
  | int _ => cases h; rcases ht with h | h <;> cases h
  | tup _ => cases h; rcases ht with h | h <;> cases h
theorem pei_mt {o : Expr} {fo : Loc → Store → Res PV} {name : Str} {apos cpos : Pos} {T : Ty} {id : String} {g : PV → List PV → Store → Res PV} (pa : PlainAttrs T.nm) (slot : Slot T.nm name id) (hty : typeOf (.builtin id) = pure (.type "method_descriptor"))
    (hm : MtR X id (rIM X.K g)) (ho : PEI X o fo) (ha : PAI X (a :: es) fs) (hT : T = .list ∨ T = .str)
    (hbase : attributeBase o name X.env (eval o X.env) = eval o X.env)
    (hfew : ((backTo cpos (starEach (a :: es) X.env)).all (fun x => !x.1) && (backToKw cpos (keywordEach [] X.env)).all (fun x => x.1.isSome)
      && decide ((a :: es).length + ([] : List Keyword).length + (if ([] : List Keyword).isEmpty then 0 else 1) < 30)) = true)
    (hline : (apos.endLine == cpos.line) = true) (hs : starEach (a :: es) X.env = (false, eval a X.env) :: starEach es X.env) (hplain : (backTo cpos (starEach es X.env)).any (·.1) = false) :
    PEI X (.Call (.Attribute o name apos) (a :: es) [] cpos) (fun ρ S => (fo ρ S).bind fun x S1 => if tyOf S1 x = some T then (fs ρ S1).bind fun xs S2 => g x xs S2 else .bad) := by
  refine PE.imp (pe_bm pa slot hty hm ho ha hbase hfew hline hs hplain) fun σ H Q ⟨φ, ρ, S, r, S', R, L, e, P⟩ => ?_
  refine tI_step R L e fun x S1 _ e1 φ1 v1 H1 E1 R1 L1 r1 => ?_
  split at e1
  · rename_i ht
    refine ⟨tyV_of R1 r1 ht hT, ?_⟩
    refine tIA_step R1 L1 e1 fun xs S2 _ e2 φ2 vs H2 E2 R2 L2 r2 => ?_
    exact ⟨φ2, S2, x, xs, r, S', R2, relV_ext R1 E2 R2 _ _ r1, r2, e2, P.ext (E1.trans E2)⟩
  · cases e1
theorem pei_mt0 {o : Expr} {fo : Loc → Store → Res PV} {name : Str} {apos cpos : Pos} {T : Ty} {id : String} {g : PV → List PV → Store → Res PV} (pa : PlainAttrs T.nm) (slot : Slot T.nm name id) (hty : typeOf (.builtin id) = pure (.type "method_descriptor"))
    (hm : MtR X id (rIM X.K g)) (ho : PEI X o fo) (hT : T = .list ∨ T = .str)
    (hbase : attributeBase o name X.env (eval o X.env) = eval o X.env) (hline : (apos.endLine == cpos.line) = true) :
    PEI X (.Call (.Attribute o name apos) [] [] cpos) (fun ρ S => (fo ρ S).bind fun x S1 => if tyOf S1 x = some T then (Res.ok [] S1).bind fun xs S2 => g x xs S2 else .bad) := by
  refine PE.imp (pe_bm0 pa slot hty hm ho hbase hline) fun σ H Q ⟨φ, ρ, S, r, S', R, L, e, P⟩ => ?_
  refine tI_step R L e fun x S1 _ e1 φ1 v1 H1 E1 R1 L1 r1 => ?_
  split at e1
  · rename_i ht
    exact ⟨tyV_of R1 r1 ht hT, φ1, S1, x, [], r, S', R1, r1, rfl, e1, P.ext E1⟩
  · cases e1
/-! ### isinstance -/
theorem tyX_of {K : PySem.W.Frag} {φ : List Addr} {H : Hp} {S : Store} {x : PV} {v : V} {t : Ty} (R : Rel K φ H S) (r : relV K φ H x v) (h : tyOf S x = some t) : TyX K H v (.type t.nm) := by
  cases x with
  | non => cases h; cases r; exact .base .non
  | bl b => cases h; cases r; exact .base (.bl _)
  | int i => cases h; cases r; exact .base (.int _)
  | str z => cases h; cases r; exact .base (.str _)
  | tup xs =>
    cases h
    obtain ⟨a, vs, rfl, h1, _⟩ := r
    rcases h1 with (h1 | ⟨o, h1⟩) | ⟨o, its, n, h1, h2, _⟩
    · exact .base (.tup h1)
    · exact .fTuple h1
    · exact .kTuple h1 h2
  | ltc xs =>
    cases h
    obtain ⟨a, vs, rfl, h1, _⟩ := r
    rcases h1 with ⟨o, h1⟩ | (h1 | ⟨o, h1⟩) | ⟨o, its, n, h1, h2, _⟩
    · exact .base (.frz h1)
    · cases h1
    · cases h1
    · exact .kList h1 h2
  | ref n =>
    simp only [tyOf] at h
    split at h
    · rename_i xs hs
      cases h
      obtain ⟨a, vs, rfl, _, h1, _⟩ := R.lst hs r
      exact .base (.lst h1)
    · cases h
theorem kit_isa (a b : Ty) : kitB a.nm b.nm = some (isaT a b) := by
  cases a <;> cases b <;> decide +kernel
theorem kitOne_isa {K : PySem.W.Frag} (a b : Ty) : PySem.W.kitOne K (.type a.nm) (.type b.nm) = some (isaT a b) := kit_ty (kit_isa a b)
theorem kitAny_isa {K : PySem.W.Frag} (a : Ty) : ∀ ts : List Ty, PySem.W.kitAny K (.type a.nm) (ts.map fun t => .type t.nm) = some (ts.any (isaT a))
  | [] => kitAny_nil
  | t :: ts => kitAny_cons (kitOne_isa a t) (fun h => by rw [List.any_cons, h, Bool.false_or]; exact kitAny_isa a ts) (fun h => by rw [List.any_cons, h]; rfl)
/-- a name of a built-in type -/
structure TyName (X : Cx) (x : Str) (t : Ty) : Prop where
  gl : Gl X x
  mg : X.mg x = none
  bt : bootBuiltins x = some (.type t.nm)
  n1 : x ≠ "__name__"
  n2 : (x == ("__debug__" : Str)) = false
theorem TyName.pe {x : Str} {t : Ty} {p : Pos} (h : TyName X x t) : PE X (.Name x p) (tC (.ty t.nm)) := pe_bltn h.gl h.mg h.bt rfl h.n1 h.n2
theorem pei_isi1 {p p1 : Pos} {x : Str} {t : Ty} (ha : PEI X a fa) (hx : TyName X x t) (hg : Gl X "isinstance") (hm : X.mg "isinstance" = none) (hs : starEach [a, .Name x p1] X.env = (false, eval a X.env) :: starEach [.Name x p1] X.env) :
    PEI X (.Call (.Name "isinstance" p) [a, .Name x p1] [] pos) (fun ρ S => (fa ρ S).bind fun x S1 => isiF [t] x S1) := by
  refine PE.imp (pe_callB call_isi hg hm boot_isinstance (pa_cons ha (pa_cons hx.pe pa_nil) hs) (by decide) (by decide) hs (by rfl)) fun σ H Q ⟨φ, ρ, S, r, S', R, L, e, P⟩ => ?_
  refine tI_step R L e fun x S1 _ e1 φ1 v1 H1 E1 R1 L1 r1 => ?_
  unfold isiF at e1
  split at e1
  · rename_i t1 ht
    cases e1
    refine ⟨v1, .ty t.nm, _, _, isaT t1 t, rfl, .ty _, tyX_of R1 r1 ht, kitOne_isa _ _, ?_⟩
    have : List.any [t] (isaT t1) = isaT t1 t := by simp
    rw [this] at P
    exact P φ1 _ H1 E1 R1 rfl
  · cases e1
/-- types in a row -/
inductive TyNames (X : Cx) : List Expr → List Ty → Prop where
  | nil : TyNames X [] []
  | cons {x : Str} {p : Pos} {t : Ty} {es : List Expr} {ts : List Ty} : TyName X x t → TyNames X es ts → TyNames X (.Name x p :: es) (t :: ts)
theorem tyNames_pa : ∀ {es : List Expr} {ts : List Ty}, TyNames X es ts → PA X es (fun _ H Q => Q (ts.map fun t => .ty t.nm) H)
  | _, _, .nil => pa_nil
  | _, _, .cons h hs => PA.imp (pa_cons h.pe (tyNames_pa hs)) fun _ _ _ q => q
theorem clsV_all : ∀ ts : List Ty, Paired ClsV (ts.map fun t => V.ty t.nm) (ts.map fun t => Value.type t.nm)
  | [] => .nil
  | t :: ts => .cons (.ty _) (clsV_all ts)
theorem pei_isiT {p p1 : Pos} {k : Nat} {ns : List Expr} {ts : List Ty} (ha : PEI X a fa) (hx : TyNames X ns ts) (hl : ts.length ≤ 10) (hg : Gl X "isinstance") (hm : X.mg "isinstance" = none) (hs : starEach [a, .Tuple ns k p1] X.env = (false, eval a X.env) :: starEach [.Tuple ns k p1] X.env) :
    PEI X (.Call (.Name "isinstance" p) [a, .Tuple ns k p1] [] pos) (fun ρ S => (fa ρ S).bind fun x S1 => isiF ts x S1) := by
  refine PE.imp (pe_callB call_isiT hg hm boot_isinstance (pa_cons ha (pa_cons (pe_tup (tyNames_pa hx)) pa_nil) hs) (by decide) (by decide) hs (by rfl)) fun σ H Q ⟨φ, ρ, S, r, S', R, L, e, P⟩ => ?_
  refine tI_step R L e fun x S1 _ e1 φ1 v1 H1 E1 R1 L1 r1 => ?_
  refine ⟨by rw [List.length_map, lim_eq]; unfold lim; omega, fun q hq => ?_⟩
  unfold isiF at e1
  split at e1
  · rename_i t1 ht
    cases e1
    have n1 : ∀ w u, H1 q ≠ some (.frz w u) := by rw [hq]; intro _ _ z; cases z
    have n2 : ∀ ws, H1 q ≠ some (.tup ws) := by rw [hq]; intro _ z; cases z
    refine ⟨v1, q, _, _, _, ts.any (isaT t1), rfl, upd_same, clsV_all ts, tyX_of (R1.laid hq _) (relV_upd n1 n2 r1) ht, kitAny_isa _ _, ?_⟩
    exact P φ1 _ _ (E1.trans (Ext.laid hq _)) (R1.laid hq _) rfl
  · cases e1
/-! ### calls of defs -/
def spI (K : PySem.W.Frag) (n : Nat) (g : List PV → Store → Res PV) : Sp := fun vs H Q _ => vs.length = n ∧ ∃ φ S xs r S', Rel K φ H S ∧ relVs K φ H xs vs ∧ g xs S = .ok r S' ∧ Post K φ H Q r S'
/-- how many arguments -/
def Takes1 (n : Nat) (g : List PV → Store → Res PV) : Prop := ∀ xs S r S', g xs S = .ok r S' → xs.length = n
theorem pei_call {k n : Nat} {f : Addr} {fd : FuncData} {ps : List Str} {g : List PV → Store → Res PV} {x : Str} {p : Pos} (F : FnOk X.prog X.w X.K X.mg X.base CX0 k f fd ps (spI X.K n g)) (hl : Takes1 n g) (hr : Room k X.A) (hg : Gl X x) (hm : X.mg x = some (.ref f))
    (hk : PySem.W.keepIn X.K (.ref f) = true) (hb : Binds X.K fd ps []) (ha : PAI X (a :: es) fs) (hdb : (x == ("__debug__" : Str)) = false)
    (he : starEach (a :: es) X.env = (false, eval a X.env) :: starEach es X.env) (hpl : (backTo pos (starEach es X.env)).any (·.1) = false) :
    PEI X (.Call (.Name x p) (a :: es) [] pos) (fun ρ S => (fs ρ S).bind fun xs S1 => g xs S1) := by
  refine PE.imp (pe_call F hr hg hm hk hb .nil pass0 ha hdb he hpl) fun σ H Q ⟨φ, ρ, S, r, S', R, L, e, P⟩ => ?_
  refine tIA_step R L e fun xs S1 _ e1 φ1 vs H1 E1 R1 L1 r1 => ?_
  rw [List.append_nil]
  exact ⟨by rw [← relVs_len r1]; exact hl _ _ _ _ e1, φ1, S1, xs, r, S', R1, r1, e1, P.ext E1⟩
theorem pei_call0 {k n : Nat} {f : Addr} {fd : FuncData} {ps : List Str} {g : List PV → Store → Res PV} {x : Str} {p : Pos} (F : FnOk X.prog X.w X.K X.mg X.base CX0 k f fd ps (spI X.K n g)) (hl : Takes1 n g) (hr : Room k X.A) (hg : Gl X x) (hm : X.mg x = some (.ref f))
    (hk : PySem.W.keepIn X.K (.ref f) = true) (hb : Binds X.K fd ps []) (hdb : (x == ("__debug__" : Str)) = false) :
    PEI X (.Call (.Name x p) [] [] pos) (fun ρ S => (Res.ok [] S).bind fun xs S1 => g xs S1) := by
  refine PE.imp (pe_call0 F hr hg hm hk hb .nil pass0 hdb) fun σ H Q ⟨φ, ρ, S, r, S', R, L, e, P⟩ => ?_
  exact ⟨hl _ _ _ _ e, φ, S, [], r, S', R, rfl, e, P⟩
/-! keywords: all parameters, in their order -/
def KB (fd : FuncData) (ps : List Str) : Prop := ∀ (s : Shared) (ws : List Value), ws.length = ps.length → BindsTo s fd ⟨[], ps.zip ws⟩ (ps.zip ws)
theorem PK.imp {kws : List Keyword} {t t' : TA} (h : PK X kws t) (i : ∀ σ H Q, t' σ H Q → t σ H Q) : PK X kws t' := ⟨fun pos pins s σ H Q I q => h.run pos pins s σ H Q I (i _ _ _ q)⟩
theorem pki_nil : PK X [] (tIA X.K (fun _ S => .ok [] S)) := by
  refine PK.imp pk_nil fun σ H Q ⟨φ, ρ, S, r, S', R, L, e, P⟩ => ?_
  cases e
  exact P φ _ H (Ext.refl _ _) R rfl
theorem pki_cons {kws : List Keyword} {nm : Option Str} {kp : Pos} (ha : PEI X a fa) (hr : PK X kws (tIA X.K fs)) :
    PK X (⟨nm, a, kp⟩ :: kws) (tIA X.K (fun ρ S => (fa ρ S).bind fun x S1 => (fs ρ S1).bind fun xs S2 => .ok (x :: xs) S2)) := by
  refine PK.imp (pk_cons ha hr) fun σ H Q ⟨φ, ρ, S, r, S', R, L, e, P⟩ => ?_
  refine tI_step R L e fun x S1 _ e1 φ1 v1 H1 E1 R1 L1 r1 => ?_
  refine tIA_step R1 L1 e1 fun xs S2 _ e2 φ2 vs H2 E2 R2 L2 r2 => ?_
  cases e2
  exact P φ2 _ H2 (E1.trans E2) R2 ⟨v1, vs, rfl, relV_ext R1 E2 R2 _ _ r1, r2⟩
theorem kw_all {env : Env} : ∀ {kws : List Keyword} {ps : List Str}, kws.map (·.arg) = ps.map some → (backToKw pos (keywordEach kws env)).all (·.1.isSome) = true ∧ (backToKw pos (keywordEach kws env)).filterMap (·.1) = ps ∧ (backToKw pos (keywordEach kws env)).any (·.1.isNone) = false
  | [], ps, h => by
    cases ps with
    | nil => exact ⟨rfl, rfl, rfl⟩
    | cons _ _ => cases h
  | ⟨nm, e, kp⟩ :: kws, ps, h => by
    cases ps with
    | nil => cases h
    | cons q ps =>
      rw [List.map_cons, List.map_cons] at h
      obtain ⟨h1, h2⟩ := List.cons.inj h
      obtain ⟨g1, g2, g3⟩ := kw_all (kws := kws) h2
      have h1 : nm = some q := h1
      subst h1
      refine ⟨?_, ?_, ?_⟩
      · show (true && (backToKw pos (keywordEach kws env)).all (·.1.isSome)) = true
        rw [g1]; rfl
      · show q :: (backToKw pos (keywordEach kws env)).filterMap (·.1) = _
        rw [g2]
      · show (false || (backToKw pos (keywordEach kws env)).any (·.1.isNone)) = false
        rw [g3]; rfl
theorem pei_callK0 {k : Nat} {f : Addr} {fd : FuncData} {ps : List Str} {g : List PV → Store → Res PV} {x : Str} {p : Pos} {kws : List Keyword} (F : FnOk X.prog X.w X.K X.mg X.base CX0 k f fd ps (spI X.K ps.length g)) (hl : Takes1 ps.length g) (hr : Room k X.A) (hg : Gl X x) (hm : X.mg x = some (.ref f))
    (hk : PySem.W.keepIn X.K (.ref f) = true) (hb : KB fd ps) (hkw : PK X kws (tIA X.K fs)) (hks : kws.map (·.arg) = ps.map some) (hdb : (x == ("__debug__" : Str)) = false) :
    PEI X (.Call (.Name x p) [] kws pos) (fun ρ S => (fs ρ S).bind fun xs S1 => g xs S1) := by
  obtain ⟨k1, k2, k3⟩ := kw_all (pos := pos) (env := X.env) hks
  refine ⟨fun pins s σ H Q I ⟨φ, ρ, S, r, S', R, L, e, P⟩ => ?_⟩
  refine wpAny_Call_Name_kw (ld_glob I hg hm ?_ hdb)
  refine PySem.W.callWith_KW0 (h₀ := X.base) I.ok.mod.kin hk k1 ?_ (by rw [k3]; rfl)
  refine thn (hkw.run pos pins s σ H (fun vs H1 => spI X.K ps.length g vs H1 Q (fun _ _ _ => False)) I ?_) fun ws s2 ⟨zs, H2, I2, rz, q2⟩ => ⟨I2.kIn, ?_⟩
  · refine tIA_step R L e fun xs S1 _ e1 φ1 vs H1 E1 R1 L1 r1 => ?_
    exact ⟨by rw [← relVs_len r1]; exact hl _ _ _ _ e1, φ1, S1, xs, r, S', R1, r1, e1, P.ext E1⟩
  · rw [k2]
    have hl2 : ws.length = ps.length := by rw [← rz.length]; exact q2.1
    refine wpAny_call (codeAny_mono (F.run X.A X.stack s2 H2 ⟨[], ps.zip ws⟩ ws zs Q (fun _ _ _ => False) hr I2.env0 (hb s2 ws hl2) rz q2) fun r s' hq => ?_)
    cases r with
    | error e => exact hq.elim
    | ok fl =>
      cases fl with
      | ret u => exact I2.after hq
      | next => exact False.elim hq
      | brk => exact False.elim hq
      | cont => exact False.elim hq
end
end Mp

/-! Mp6: what is walked, patterns, comprehensions, statements. -/
namespace Mp
open PySem PySem.Spec PyProof.Rows L2

/-! ### iterators -/
structure IrOk (K : PySem.W.Frag) (φ : List Addr) (H : Hp) (r : Ir) (J : L2.It) : Prop where
  go : ∀ φ2 H2 S2 i x, Ext φ H φ2 H2 → Rel K φ2 H2 S2 → r.get S2 i = some x → J.go i H2 ∧ ∀ v H3, J.yld i H2 v H3 → Ext φ2 H2 φ2 H3 ∧ Rel K φ2 H3 S2 ∧ relV K φ2 H3 x v
  stop : ∀ φ2 H2 S2 i, Ext φ H φ2 H2 → Rel K φ2 H2 S2 → r.fin S2 i = true → J.stop i H2
def tII (K : PySem.W.Frag) (f : Loc → Store → Res Ir) : TI := fun σ H Q => ∃ φ ρ S r S', Rel K φ H S ∧ RelL K φ H ρ σ ∧ f ρ S = .ok r S' ∧
  ∀ (φ' : List Addr) (H' : Hp) (J : L2.It), Ext φ H φ' H' → Rel K φ' H' S' → IrOk K φ' H' r J → Q J H'
abbrev PII (X : Cx) (tg it : Expr) (f : Loc → Store → Res Ir) : Prop := PI X tg it (tII X.K f)
theorem irok_tup {K : PySem.W.Frag} {φ : List Addr} {H : Hp} {S : Store} {xs : List PV} {a : Addr} {vs : List V} (R : Rel K φ H S) (h1 : SqT K H a vs) (h2 : relVs K φ H xs vs) : IrOk K φ H (.vals xs) (Itt K a) where
  go := fun φ2 H2 S2 i x E R2 e => by
    have q := sqT_ext R E h1
    obtain ⟨v, hv, r⟩ := relVs_get (relVs_ext R E R2 _ _ h2) e
    refine ⟨⟨vs, v, q, hv⟩, fun w H3 ⟨e3, hy⟩ => ?_⟩
    subst e3
    have := hy vs q
    rw [hv] at this; cases this
    exact ⟨Ext.refl _ _, R2, r⟩
  stop := fun φ2 H2 S2 i E R2 e => ⟨vs, sqT_ext R E h1, by rw [← relVs_len h2]; exact of_decide_eq_true e⟩
theorem imL_ext {K : PySem.W.Frag} {φ φ' : List Addr} {H H' : Hp} {S : Store} (R : Rel K φ H S) (E : Ext φ H φ' H') {a : Addr} {vs : List V} (h : imL K H a vs) : imL K H' a vs := by
  rcases h with ⟨o, h1⟩ | h1
  · exact .inl ⟨o, E.keep a _ h1 fun m => by obtain ⟨ws, e⟩ := R.mem_lst m; rw [h1] at e; cases e⟩
  · exact .inr h1
theorem irok_ltc {K : PySem.W.Frag} {φ : List Addr} {H : Hp} {S : Store} {xs : List PV} {a : Addr} {vs : List V} (R : Rel K φ H S) (h1 : imL K H a vs) (h2 : relVs K φ H xs vs) : IrOk K φ H (.vals xs) (Itl K a) where
  go := fun φ2 H2 S2 i x E R2 e => by
    have q := (imL_ext R E h1).sq
    obtain ⟨v, hv, r⟩ := relVs_get (relVs_ext R E R2 _ _ h2) e
    refine ⟨⟨vs, v, q, hv⟩, fun w H3 ⟨e3, hy⟩ => ?_⟩
    subst e3
    have := hy vs q
    rw [hv] at this; cases this
    exact ⟨Ext.refl _ _, R2, r⟩
  stop := fun φ2 H2 S2 i E R2 e => ⟨vs, (imL_ext R E h1).sq, by rw [← relVs_len h2]; exact of_decide_eq_true e⟩
theorem irok_live {K : PySem.W.Frag} {φ : List Addr} {H : Hp} {n : Nat} {a : Addr} (h1 : φ[n]? = some a) : IrOk K φ H (.live n) (Itl K a) := by
  have at2 : ∀ {φ2 H2}, Ext φ H φ2 H2 → φ2[n]? = some a := fun {φ2 H2} E => by
    obtain ⟨t, rfl⟩ := E.pre
    rw [List.getElem?_append_left (List.getElem?_eq_some_iff.mp h1).1]; exact h1
  refine ⟨fun φ2 H2 S2 i x E R2 e => ?_, fun φ2 H2 S2 i E R2 e => ?_⟩
  · simp only [Ir.get] at e
    split at e
    · rename_i xs hs
      obtain ⟨vs, e1, r1⟩ := R2.obj n a _ (at2 E) hs
      obtain ⟨v, hv, r⟩ := relVs_get r1 e
      refine ⟨⟨vs, v, SqL.of e1, hv⟩, fun w H3 ⟨e3, hy⟩ => ?_⟩
      subst e3
      have := hy vs (SqL.of e1)
      rw [hv] at this; cases this
      exact ⟨Ext.refl _ _, R2, r⟩
    · cases e
  · simp only [Ir.fin] at e
    split at e
    · rename_i xs hs
      obtain ⟨vs, e1, r1⟩ := R2.obj n a _ (at2 E) hs
      exact ⟨vs, SqL.of e1, by rw [← relVs_len r1]; exact of_decide_eq_true e⟩
    · cases e
theorem irok_str {K : PySem.W.Frag} {φ : List Addr} {H : Hp} {z : List Nat} : IrOk K φ H (.vals (strIt z)) (Its ⟨z.toArray⟩) where
  go := fun φ2 H2 S2 i x E R2 e => by
    have e : (strIt z)[i]? = some x := e
    unfold strIt at e
    rw [List.getElem?_map] at e
    obtain ⟨c, hc, rfl⟩ := Option.map_eq_some_iff.mp e
    have hl : i < z.length := (List.getElem?_eq_some_iff.mp hc).1
    refine ⟨by show i < z.toArray.size; simpa using hl, fun w H3 ⟨e3, d, hd, hw⟩ => ?_⟩
    subst e3
    have hd : z.toArray[i]? = some d := hd
    rw [List.getElem?_toArray, hc] at hd
    cases hd
    exact ⟨Ext.refl _ _, R2, hw⟩
  stop := fun φ2 H2 S2 i E R2 e => by
    have := of_decide_eq_true e
    show z.toArray.size ≤ i
    unfold strIt at this
    simpa using this
theorem pii_e {X : Cx} {tg a : Expr} {fa : Loc → Store → Res PV} (ha : PEI X a fa) : PII X tg a (fun ρ S => (fa ρ S).bind fun x S1 => iterV x S1) := by
  refine ⟨fun pins s σ H Q I ⟨φ, ρ, S, r, S', R, L, e, k⟩ => ?_⟩
  obtain ⟨x, S1, e1, e2⟩ := bind_inv e
  unfold iterV at e2
  split at e2
  · cases e2
    refine (pi_tup ha).run pins s σ H Q I ⟨φ, ρ, S, _, _, R, L, e1, fun φ1 v1 H1 E1 R1 r1 => ?_⟩
    obtain ⟨a, vs, rfl, h1, h2⟩ := r1
    exact ⟨a, rfl, ⟨vs, h1⟩, k φ1 H1 _ E1 R1 (irok_tup R1 h1 h2)⟩
  · cases e2
    refine (pi_list ha).run pins s σ H Q I ⟨φ, ρ, S, _, _, R, L, e1, fun φ1 v1 H1 E1 R1 r1 => ?_⟩
    obtain ⟨a, vs, rfl, h1, h2⟩ := r1
    exact ⟨a, rfl, ⟨vs, h1.sq⟩, k φ1 H1 _ E1 R1 (irok_ltc R1 h1 h2)⟩
  · cases e2
    refine (pi_str ha).run pins s σ H Q I ⟨φ, ρ, S, _, _, R, L, e1, fun φ1 v1 H1 E1 R1 r1 => ?_⟩
    cases r1
    exact ⟨_, rfl, k φ1 H1 _ E1 R1 irok_str⟩
  · cases e2
    refine (pi_list ha).run pins s σ H Q I ⟨φ, ρ, S, _, _, R, L, e1, fun φ1 v1 H1 E1 R1 r1 => ?_⟩
    obtain ⟨a, rfl, h1⟩ := r1
    obtain ⟨o, _, ho⟩ := R1.get h1
    cases o with
    | lst xs =>
      obtain ⟨vs, h2, _⟩ := ho
      exact ⟨a, rfl, ⟨vs, SqL.of h2⟩, k φ1 H1 _ E1 R1 (irok_live h1)⟩
  · cases e2
theorem irok_rng {K : PySem.W.Frag} {φ : List Addr} {H : Hp} {lo : Int} {n : Nat} : IrOk K φ H (.vals (rngL lo n)) (Itr lo n) where
  go := fun φ2 H2 S2 i x E R2 e => by
    have e : (rngL lo n)[i]? = some x := e
    unfold rngL at e
    rw [List.getElem?_map] at e
    obtain ⟨c, hc, rfl⟩ := Option.map_eq_some_iff.mp e
    obtain ⟨hl, hv⟩ := List.getElem?_eq_some_iff.mp hc
    rw [List.getElem_range] at hv
    subst hv
    refine ⟨by show i < n; simpa using hl, fun w H3 ⟨e3, hw⟩ => ?_⟩
    subst e3
    exact ⟨Ext.refl _ _, R2, hw⟩
  stop := fun φ2 H2 S2 i E R2 e => by
    have := of_decide_eq_true e
    show n ≤ i
    unfold rngL at this
    simpa using this
theorem irok_rngD {K : PySem.W.Frag} {φ : List Addr} {H : Hp} {lo : Int} {n : Nat} : IrOk K φ H (.vals (rngD lo n)) (Itc lo (-1) n) where
  go := fun φ2 H2 S2 i x E R2 e => by
    have e : (rngD lo n)[i]? = some x := e
    unfold rngD at e
    rw [List.getElem?_map] at e
    obtain ⟨c, hc, rfl⟩ := Option.map_eq_some_iff.mp e
    obtain ⟨hl, hv⟩ := List.getElem?_eq_some_iff.mp hc
    rw [List.getElem_range] at hv
    subst hv
    refine ⟨by show i < n; simpa using hl, fun w H3 ⟨e3, hw⟩ => ?_⟩
    subst e3
    refine ⟨Ext.refl _ _, R2, ?_⟩
    rw [hw]
    show V.int _ = V.int _
    congr 1
    omega
  stop := fun φ2 H2 S2 i E R2 e => by
    have := of_decide_eq_true e
    show n ≤ i
    unfold rngD at this
    simpa using this
section
variable {X : Cx} {tg a b d : Expr} {pos p : Pos} {fs : Loc → Store → Res (List PV)}
theorem big62_eq : big62 = 2 ^ 62 := by decide +kernel
theorem pii_rng1 (hg : Gl X "range") (hm : X.mg "range" = none) (ha : PAI X [a] fs) (hs : starEach [a] X.env = [(false, eval a X.env)]) : PII X tg (.Call (.Name "range" p) [a] [] pos) (fun ρ S => (fs ρ S).bind fun xs S1 => if xs.length = 1 then rngV xs S1 else .bad) := by
  refine ⟨fun pins s σ H Q I ⟨φ, ρ, S, r, S', R, L, e, k⟩ => ?_⟩
  refine (pi_range1 hg hm ha hs).run pins s σ H Q I ?_
  refine tIA_step R L e fun xs S1 _ e1 φ1 vs H1 E1 R1 L1 r1 => ?_
  split at e1
  · unfold rngV at e1
    split at e1
    · split at e1
      · rename_i hb
        cases e1
        obtain ⟨v, rfl, r2⟩ := rel1 r1
        cases r2
        rw [big62_eq] at hb
        exact ⟨_, rfl, hb.1, hb.2, k φ1 H1 _ E1 R1 irok_rng⟩
      · cases e1
    · rename_i hl; simp at hl
    · rename_i hl; simp at hl
    · cases e1
  · cases e1
theorem pii_rng2 (hg : Gl X "range") (hm : X.mg "range" = none) (ha : PAI X [a, b] fs) (hs : starEach [a, b] X.env = [(false, eval a X.env), (false, eval b X.env)]) (hs2 : starEach [b] X.env = [(false, eval b X.env)]) : PII X tg (.Call (.Name "range" p) [a, b] [] pos) (fun ρ S => (fs ρ S).bind fun xs S1 => if xs.length = 2 then rngV xs S1 else .bad) := by
  refine ⟨fun pins s σ H Q I ⟨φ, ρ, S, r, S', R, L, e, k⟩ => ?_⟩
  refine (pi_range2 hg hm ha hs hs2).run pins s σ H Q I ?_
  refine tIA_step R L e fun xs S1 _ e1 φ1 vs H1 E1 R1 L1 r1 => ?_
  split at e1
  · unfold rngV at e1
    split at e1
    · rename_i hl; simp at hl
    · split at e1
      · rename_i hb
        cases e1
        obtain ⟨v, w, rfl, r2, r3⟩ := rel2 r1
        cases r2; cases r3
        rw [big62_eq] at hb
        exact ⟨_, _, rfl, hb, k φ1 H1 _ E1 R1 irok_rng⟩
      · cases e1
    · rename_i hl; simp at hl
    · cases e1
  · cases e1
theorem rel3 {K : PySem.W.Frag} {φ : List Addr} {H : Hp} {x y z : PV} {vs : List V} (h : relVs K φ H [x, y, z] vs) : ∃ v w u, vs = [v, w, u] ∧ relV K φ H x v ∧ relV K φ H y w ∧ relV K φ H z u := by
  obtain ⟨v, ws, rfl, h1, h2⟩ := h; obtain ⟨w, u, rfl, h3, h4⟩ := rel2 h2; exact ⟨v, w, u, rfl, h1, h3, h4⟩
theorem pii_rng3 (hg : Gl X "range") (hm : X.mg "range" = none) (ha : PAI X [a, b, d] fs) (hs : starEach [a, b, d] X.env = (false, eval a X.env) :: starEach [b, d] X.env) (hpl : (backTo pos (starEach [b, d] X.env)).any (·.1) = false) :
    PII X tg (.Call (.Name "range" p) [a, b, d] [] pos) (fun ρ S => (fs ρ S).bind fun xs S1 => if xs.length = 3 then rngV xs S1 else .bad) := by
  refine ⟨fun pins s σ H Q I ⟨φ, ρ, S, r, S', R, L, e, k⟩ => ?_⟩
  refine (pi_range3 hg hm ha hs hpl).run pins s σ H Q I ?_
  refine tIA_step R L e fun xs S1 _ e1 φ1 vs H1 E1 R1 L1 r1 => ?_
  split at e1
  · unfold rngV at e1
    split at e1
    · rename_i hl; simp at hl
    · rename_i hl; simp at hl
    · split at e1
      · rename_i hb
        cases e1
        obtain ⟨v, w, u, rfl, r2, r3, r4⟩ := rel3 r1
        cases r2; cases r3; cases r4
        rw [big62_eq] at hb
        obtain ⟨rfl, h1, h2, h3, h4⟩ := hb
        exact ⟨_, _, _, _, rfl, RgC.neg h1 h2 h3 h4, k φ1 H1 _ E1 R1 irok_rngD⟩
      · cases e1
    · cases e1
  · cases e1
end
/-! ### patterns -/
theorem wipe_get (σ : L2.St) : ∀ (vs : List Nat) (j : Nat), (wipe σ vs)[j]? = if j ∈ vs then (σ[j]?).map (fun _ => none) else σ[j]?
  | [], j => by simp [wipe]
  | v :: vs, j => by
    unfold wipe
    rw [List.getElem?_set]
    by_cases h : v = j
    · subst h
      rw [if_pos rfl, if_pos (List.mem_cons_self)]
      split
      · rename_i hl
        rw [wipe_length] at hl
        rw [List.getElem?_eq_getElem hl]; rfl
      · rename_i hl
        rw [wipe_length] at hl
        rw [List.getElem?_eq_none (by omega)]; rfl
    · rw [if_neg h, wipe_get σ vs j]
      have : (j ∈ v :: vs) ↔ j ∈ vs := by simp [Ne.symm h]
      simp only [this]
theorem wipe_set {σ : L2.St} {vs : List Nat} {i : Nat} {x : Option V} (h : i ∈ vs) : wipe (σ.set i x) vs = wipe σ vs := by
  apply List.ext_getElem?
  intro j
  rw [wipe_get, wipe_get]
  by_cases hj : j ∈ vs
  · rw [if_pos hj, if_pos hj, List.getElem?_set]
    split
    · subst j
      split
      · rename_i hl
        rw [List.getElem?_eq_getElem hl]; rfl
      · rename_i hl
        rw [List.getElem?_eq_none (by omega)]
    · rfl
  · rw [if_neg hj, if_neg hj, List.getElem?_set_ne (fun e => hj (by rw [← e]; exact h))]
theorem wipe_wipe (σ : L2.St) (vs : List Nat) : wipe (wipe σ vs) vs = wipe σ vs := by
  apply List.ext_getElem?
  intro j
  rw [wipe_get, wipe_get]
  split
  · cases σ[j]? <;> rfl
  · rfl
theorem wipeL_get (ρ : Loc) : ∀ (vs : List Nat) (j : Nat), (wipeL ρ vs)[j]? = if j ∈ vs then (ρ[j]?).map (fun _ => none) else ρ[j]?
  | [], j => by simp [wipeL]
  | v :: vs, j => by
    have hlen : ∀ vs : List Nat, (wipeL ρ vs).length = ρ.length := by
      intro vs; induction vs with
      | nil => rfl
      | cons a b ih => unfold wipeL; rw [List.length_set, ih]
    unfold wipeL
    rw [List.getElem?_set]
    by_cases h : v = j
    · subst h
      rw [if_pos rfl, if_pos (List.mem_cons_self)]
      split
      · rename_i hl
        rw [hlen] at hl
        rw [List.getElem?_eq_getElem hl]; rfl
      · rename_i hl
        rw [hlen] at hl
        rw [List.getElem?_eq_none (by omega)]; rfl
    · rw [if_neg h, wipeL_get ρ vs j]
      have : (j ∈ v :: vs) ↔ j ∈ vs := by simp [Ne.symm h]
      simp only [this]
theorem wipeL_length (ρ : Loc) : ∀ vs : List Nat, (wipeL ρ vs).length = ρ.length
  | [] => rfl
  | a :: b => by unfold wipeL; rw [List.length_set, wipeL_length ρ b]
theorem RelL.wipe {K : PySem.W.Frag} {φ : List Addr} {H : Hp} {ρ : Loc} {σ : L2.St} (L : RelL K φ H ρ σ) (vs : List Nat) : RelL K φ H (wipeL ρ vs) (L2.wipe σ vs) := by
  refine ⟨by rw [wipeL_length, wipe_length]; exact L.1, fun i x h => ?_⟩
  rw [wipeL_get] at h
  rw [wipe_get]
  split at h
  · cases q : ρ[i]? <;> rw [q] at h <;> cases h
  · rename_i hi
    rw [if_neg hi]
    exact L.2 i x h
/-- a pattern's reading -/
def gP (K : PySem.W.Frag) (p : Pt) : TG := fun v σ H Q => ∃ φ ρ S x ρ', Rel K φ H S ∧ RelL K φ H ρ σ ∧ relV K φ H x v ∧ asP p x ρ = some ρ' ∧
  ∀ σ', RelL K φ H ρ' σ' → (∀ vs : List Nat, (∀ i ∈ p.slots, i ∈ vs) → wipe σ' vs = wipe σ vs) → Q σ' H
def gPs (K : PySem.W.Frag) (p : Pt) : TGs := fun vs σ H Q => ∃ φ ρ S xs ρ', Rel K φ H S ∧ RelL K φ H ρ σ ∧ relVs K φ H xs vs ∧ asPs p xs ρ = some ρ' ∧
  ∀ σ', RelL K φ H ρ' σ' → (∀ vs : List Nat, (∀ i ∈ p.slots, i ∈ vs) → wipe σ' vs = wipe σ vs) → Q σ' H
theorem PG.imp {X : Cx} {e : Expr} {t t' : TG} (h : PG X e t) (i : ∀ v σ H Q, t' v σ H Q → t v σ H Q) : PG X e t' := ⟨fun pins s σ H v u Q I r q => h.run pins s σ H v u Q I r (i _ _ _ _ q)⟩
theorem PGs.imp {X : Cx} {e : List Expr} {t t' : TGs} (h : PGs X e t) (i : ∀ v σ H Q, t' v σ H Q → t v σ H Q) : PGs X e t' := ⟨fun pins s σ H v u Q I r q => h.run pins s σ H v u Q I r (i _ _ _ _ q)⟩
section
variable {X : Cx} {pos : Pos}
theorem pgp_name {i : Nat} {x : Str} (hN : X.N.Nodup) (hi : X.N[i]? = some x) (hx : L2.Loc X.env.scope x) (hf : X.fn x = true ∨ X.env.scope.names.lookup x = some .local) : PG X (.Name x pos) (gP X.K (.name i)) := by
  refine PG.imp (pg_name hN hi hx hf) fun v σ H Q ⟨φ, ρ, S, x, ρ', R, L, r, e, k⟩ => ?_
  cases e
  exact k _ (L.set i r) fun vs h => wipe_set (h i (by simp [Pt.slots]))
theorem pgps_nil : PGs X [] (gPs X.K .nil) := by
  refine PGs.imp pgs_nil fun v σ H Q ⟨φ, ρ, S, xs, ρ', R, L, r, e, k⟩ => ?_
  simp only [asPs] at e
  split at e
  · cases e; cases r; exact ⟨rfl, k _ L fun _ _ => rfl⟩
  · cases e
theorem pgps_cons {e : Expr} {es : List Expr} {p ps : Pt} (h1 : PG X e (gP X.K p)) (h2 : PGs X es (gPs X.K ps)) (hs : (assignEach (e :: es) X.env).map (·.2) = assign e X.env :: (assignEach es X.env).map (·.2)) : PGs X (e :: es) (gPs X.K (.cons p ps)) := by
  refine PGs.imp (pgs_cons h1 h2 hs) fun v σ H Q ⟨φ, ρ, S, xs, ρ', R, L, r, e, k⟩ => ?_
  simp only [asPs] at e
  split at e
  · cases e
  · rename_i x ys
    obtain ⟨ρ1, e1, e2⟩ := Option.bind_eq_some_iff.mp e
    obtain ⟨w, ws, rfl, r1, r2⟩ := r
    refine ⟨w, ws, rfl, φ, ρ, S, x, ρ1, R, L, r1, e1, fun σ1 L1 k1 => ⟨φ, ρ1, S, ys, ρ', R, L1, r2, e2, fun σ2 L2 k2 => k σ2 L2 fun vs h => ?_⟩⟩
    simp only [Pt.slots, List.mem_append] at h
    rw [k2 vs fun i hi => h i (.inr hi), k1 vs fun i hi => h i (.inl hi)]
theorem asPs_len : ∀ {p : Pt} {xs : List PV} {ρ ρ' : Loc} {n : Nat}, asPs p xs ρ = some ρ' → (∃ es : List Expr, es.length = n) → True := fun _ _ => trivial
/-- how many items a row of patterns takes -/
def Pt.cnt : Pt → Nat
  | .cons _ ps => ps.cnt + 1
  | _ => 0
theorem asPs_cnt : ∀ {p : Pt} {xs : List PV} {ρ ρ' : Loc}, asPs p xs ρ = some ρ' → xs.length = p.cnt
  | .nil, xs, _, _, e => by
    simp only [asPs] at e
    split at e
    · rfl
    · cases e
  | .cons p ps, xs, _, _, e => by
    simp only [asPs] at e
    split at e
    · cases e
    · obtain ⟨ρ1, _, e2⟩ := Option.bind_eq_some_iff.mp e
      simp [Pt.cnt, asPs_cnt e2]
  | .name _, _, _, _, e => by cases e
  | .tup _, _, _, _, e => by cases e
theorem pgp_tup {es : List Expr} {k : Nat} {ps : Pt} (hc : X.calm = true) (h : PGs X es (gPs X.K ps)) (hn : (assignEach es X.env).length = ps.cnt) (hst : (assignEach es X.env).findIdx? (·.1) = none) : PG X (.Tuple es k pos) (gP X.K (.tup ps)) := by
  refine PG.imp (pg_tup (n := ps.cnt) hc h hn hst) fun v σ H Q ⟨φ, ρ, S, x, ρ', R, L, r, e, k⟩ => ?_
  simp only [asP] at e
  split at e
  · obtain ⟨a, vs, rfl, h1, h2⟩ := r
    exact ⟨a, vs, rfl, h1, by rw [← relVs_len h2]; exact asPs_cnt e, φ, ρ, S, _, ρ', R, L, h2, e, k⟩
  · cases e
end
/-! ### comprehensions -/
structure PTsI (X : Cx) (ifs : List Expr) (f : Loc → Store → Res Bool) : Prop where
  pts : PTs X ifs (tIT X.K f)
theorem ptsi_nil {X : Cx} : PTsI X [] (fun _ S => .ok true S) := ⟨⟨fun pins s σ H Q I ⟨φ, ρ, S, r, S', R, L, e, k⟩ => by
  cases e
  exact pts_nil.run pins s σ H Q I (k φ H (Ext.refl _ _) R)⟩⟩
theorem ptsi_one {X : Cx} {c : Expr} {f : Loc → Store → Res PV} (h : PTI X c (asT f)) : PTsI X [c] (asT f) := ⟨pts_one h⟩
theorem pei_lc {X : Cx} {elt tg iter : Expr} {ifs : List Expr} {scope : Scope} {own : List (Str × Nat)} {pos : Pos} {fi : Loc → Store → Res Ir} {p : Pt} {ft : Loc → Store → Res Bool} {fe : Loc → Store → Res PV}
    (hc : X.calm = true) (hN : X.N.Nodup) (hi : PII X tg iter fi) (ok : BlkOk X.N X.env.scope scope own) (hp : ∀ i ∈ p.slots, i ∈ own.map (·.2))
    (hg : ∀ (s : Shared) (H : Hp) (C : Addr) (cl : List (Str × Addr)) (fp : List Addr), PG (X.blk s H scope (compEnvC scope cl C X.env) fp) tg (gP X.K p))
    (ht : ∀ (s : Shared) (H : Hp) (C : Addr) (cl : List (Str × Addr)) (fp : List Addr), PTsI (X.blk s H scope (compEnvC scope cl C X.env) fp) ifs ft)
    (he : ∀ (s : Shared) (H : Hp) (C : Addr) (cl : List (Str × Addr)) (fp : List Addr), PEI (X.blk s H scope (compEnvC scope cl C X.env) fp) elt fe) (hs : ∀ x, foldedSetIterable iter X.env x = pure x) :
    (PEI X (.ListComp elt [⟨tg, iter, ifs, 0⟩] scope pos) (fun ρ S => (fi ρ S).bind fun r S1 =>
      (lcN r (fun x S2 => (asPR p x (wipeL ρ (own.map (·.2))) S2).bind fun ρ1 S3 => (ft ρ1 S3).bind fun t S4 => if t = true then (fe ρ1 S4).bind fun y S5 => .ok (some y) S5 else .ok none S4) (r.len S1 + 1) 0 [] S1).bind
        fun ys S6 => .ok (.ref S6.length) (S6 ++ [.lst ys]))) ∧
    (∀ σ H Q, tI X.K (fun ρ S => (fi ρ S).bind fun r S1 =>
      (lcN r (fun x S2 => (asPR p x (wipeL ρ (own.map (·.2))) S2).bind fun ρ1 S3 => (ft ρ1 S3).bind fun t S4 => if t = true then (fe ρ1 S4).bind fun y S5 => .ok (some y) S5 else .ok none S4) (r.len S1 + 1) 0 [] S1).bind
        fun ys S6 => .ok (.ref S6.length) (S6 ++ [.lst ys])) σ H Q → tLc (tII X.K fi) (gP X.K p) (tIT X.K ft) (tI X.K fe) (own.map (·.2)) σ H Q) := by
  have key : ∀ σ H Q, tI X.K (fun ρ S => (fi ρ S).bind fun r S1 =>
      (lcN r (fun x S2 => (asPR p x (wipeL ρ (own.map (·.2))) S2).bind fun ρ1 S3 => (ft ρ1 S3).bind fun t S4 => if t = true then (fe ρ1 S4).bind fun y S5 => .ok (some y) S5 else .ok none S4) (r.len S1 + 1) 0 [] S1).bind
        fun ys S6 => .ok (.ref S6.length) (S6 ++ [.lst ys])) σ H Q → tLc (tII X.K fi) (gP X.K p) (tIT X.K ft) (tI X.K fe) (own.map (·.2)) σ H Q := by
    intro σ H Q ⟨φ, ρ, S, r, S', R, L, e, P⟩
    obtain ⟨ir, S1, e1, e2⟩ := bind_inv e
    refine ⟨φ, ρ, S, ir, S1, R, L, e1, fun φ1 H1 J E1 R1 ok1 D hD => ?_⟩
    obtain ⟨ys, S6, e3, e4⟩ := bind_inv e2
    cases e4
    generalize hturn : (fun (x : PV) (S2 : Store) => (asPR p x (wipeL ρ (own.map (·.2))) S2).bind fun ρ1 S3 => (ft ρ1 S3).bind fun t S4 => if t = true then (fe ρ1 S4).bind fun y S5 => Res.ok (some y) S5 else .ok none S4) = turn at e3
    refine ⟨fun i m H2 => ∃ φ2 S2 acc vacc, Ext φ1 H1 φ2 H2 ∧ Rel X.K φ2 H2 S2 ∧ H2 D = some (.lst vacc) ∧ D ∉ φ2 ∧ relVs X.K φ2 H2 acc vacc ∧ lcN ir turn m i acc S2 = .ok ys S6, ⟨ir.len S1 + 1, φ1, S1, [], [], ?_, R1.laid hD _, upd_same, notin_of_none R1 hD, rfl, e3⟩, ?_⟩
    · exact Ext.laid hD _
    rintro i m H2 ⟨φ2, S2, acc, vacc, E2, R2, hDv, hDn, ra, el⟩
    cases m with
    | zero => cases el
    | succ m =>
      unfold lcN at el
      split at el
      · rename_i x hx
        obtain ⟨hgo, hy⟩ := ok1.go φ2 H2 S2 i x E2 R2 hx
        obtain ⟨ro, S3, e5, e6⟩ := bind_inv el
        refine .inr ⟨hgo, fun H' => ∃ φ2 S2 acc vacc, Ext φ1 H1 φ2 H' ∧ Rel X.K φ2 H' S2 ∧ H' D = some (.lst vacc) ∧ D ∉ φ2 ∧ relVs X.K φ2 H' acc vacc ∧ lcN ir turn m (i + 1) acc S2 = .ok ys S6, fun H' h' => ⟨m, Nat.lt_succ_self _, h'⟩, fun v H3 hv => ?_⟩
        obtain ⟨E3, R3, rv⟩ := hy v H3 hv
        have E13 := E2.trans E3
        have L3 : RelL X.K φ2 H3 (wipeL ρ (own.map (·.2))) (wipe σ (own.map (·.2))) := ((L.ext R E1 R1).ext R1 E13 R3).wipe _
        rw [← hturn] at e5
        obtain ⟨ρ1, S3', e7, e8⟩ := bind_inv e5
        unfold asPR at e7
        split at e7
        · rename_i ρ2 hρ
          cases e7
          refine ⟨φ2, _, S2, x, ρ1, R3, L3, rv, hρ, fun σ2 L4 k4 => ?_⟩
          refine ⟨by rw [k4 _ hp, wipe_wipe], ?_⟩
          have D3 : H3 D = some (.lst vacc) := E3.keep D _ hDv hDn
          have ra3 := relVs_ext R2 E3 R3 _ _ ra
          refine tIT_step R3 L4 e8 fun t S4 _ e9 φ4 H4 E4 R4 L5 => ?_
          have D4 : H4 D = some (.lst vacc) := E4.keep D _ D3 hDn
          have Dn4 : D ∉ φ4 := fun m4 => by
            have := E4.new D m4 hDn
            rw [D3] at this; cases this
          have ra4 := relVs_ext R3 E4 R4 _ _ ra3
          split at e9
          · rename_i ht
            rw [if_pos ht]
            refine tI_step R4 L5 e9 fun y S5 _ e10 φ5 w H5 E5 R5 L6 rw5 => ?_
            cases e10
            have D5 : H5 D = some (.lst vacc) := E5.keep D _ D4 Dn4
            have Dn5 : D ∉ φ5 := fun m5 => by
              have := E5.new D m5 Dn4
              rw [D4] at this; cases this
            have ra5 := relVs_ext R4 E5 R5 _ _ ra4
            simp only at e6
            split at e6
            · rename_i hl
              have n1 : ∀ o u, H5 D ≠ some (.frz o u) := by rw [D5]; intro _ _ z; cases z
              have n2 : ∀ ws, H5 D ≠ some (.tup ws) := by rw [D5]; intro _ z; cases z
              refine ⟨vacc, D5, by rw [← relVs_len ra5, lim_eq]; exact hl, φ5, S3, acc ++ [y], vacc ++ [w], ?_, ?_, upd_same, Dn5, ?_, e6⟩
              · have E15 := (E13.trans E4).trans E5
                refine ⟨E15.pre, fun a o h n => ?_, E15.new⟩
                rw [upd_ne (ne_of_none h hD)]
                exact E15.keep a o h n
              · exact R5.keep (fun a m => upd_ne fun e => Dn5 (e ▸ m)) fun xs vs => relVs_upd n1 n2
              · exact relVs_upd n1 n2 (relVs_app ra5 ⟨w, [], rfl, rw5, rfl⟩)
            · cases e6
          · rename_i ht
            rw [if_neg ht]
            cases e9
            exact ⟨φ4, S3, acc, vacc, (E13.trans E4), R4, D4, Dn4, ra4, e6⟩
        · cases e7
      · split at el
        · rename_i hf
          cases el
          refine .inl ⟨ok1.stop φ2 H2 _ i E2 R2 hf, ?_⟩
          refine P (φ2 ++ [D]) _ H2 (E1.trans ⟨E2.pre.trans (List.prefix_append _ _), E2.keep, fun a m n => ?_⟩) ?_ ⟨D, rfl, by rw [← R2.len]; simp⟩
          · rcases List.mem_append.mp m with m | m
            · exact E2.new a m n
            · simp at m; subst m; exact hD
          · refine ⟨by simp [R2.len], ?_, fun n a o g1 g2 => ?_⟩
            · rw [List.nodup_append]
              refine ⟨R2.nd, by simp, fun a ha b hb => ?_⟩
              simp at hb; subst hb
              exact fun e => hDn (e ▸ ha)
            · have up : ∀ {xs vs}, relVs X.K φ2 H2 xs vs → relVs X.K (φ2 ++ [D]) H2 xs vs := fun {xs vs} q => relVs_sub (fun _ _ h => h) (fun _ _ h => h) (List.prefix_append _ _) xs vs q
              by_cases hn : n < φ2.length
              · rw [List.getElem?_append_left hn] at g1
                rw [List.getElem?_append_left (by rw [← R2.len]; exact hn)] at g2
                have r2 := R2.obj n a o g1 g2
                cases o with
                | lst zs =>
                  obtain ⟨ws, e, r2⟩ := r2
                  exact ⟨ws, e, up r2⟩
              · rw [List.getElem?_append_right (by omega)] at g1
                rw [List.getElem?_append_right (by rw [← R2.len]; omega), ← R2.len] at g2
                have hz : n - φ2.length = 0 := by
                  have := (List.getElem?_eq_some_iff.mp g1).1
                  simp at this; omega
                rw [hz] at g1 g2
                simp at g1 g2
                subst g1; subst g2
                exact ⟨vacc, hDv, up ra⟩
        · cases el
  exact ⟨PE.imp (pe_lc hc hN hi ok hg (fun s H C cl fp => (ht s H C cl fp).pts) he hs) key, key⟩
end Mp

/-! Mp6e: enumerate over a list or a tuple; ljust with a sign. -/
namespace Mp
open PySem PySem.Spec PyProof.Rows L2
open PySem.AutoSeq1 (wpAny_loadPart')

/-! ### enumerate(tuple) -/
/-- the tuple's items, each in a new pair with its place -/
def IeT (K : PySem.W.Frag) (a : Addr) : L2.It where
  go i H := ∃ (vs : List V) (v : V), SqT K H a vs ∧ vs[i]? = some v
  yld i H r H' := ∃ (q : Addr) (v : V), r = .ref q ∧ H q = none ∧ H' = upd H q (.tup [.int (i : Nat), v]) ∧ ∀ vs, SqT K H a vs → vs[i]? = some v
  stop i H := ∃ vs : List V, SqT K H a vs ∧ vs.length ≤ i
abbrev tItO (t : Addr) : Obj := { cls := .type "tuple_iterator", data := .fields #[.ref t, .int 0 0] }
abbrev enO (it : Addr) : Obj := { cls := .type "enumerate", data := .fields #[.none, .bool false, .ref it, rawInt 0, .none, .none] }
set_option maxHeartbeats 1000000 in
theorem meets_enumT (t : Addr) (its : Array Value) :
    Meets (Builtin.«enumerate.__new__» ⟨[.type "enumerate", .ref t], []⟩) (fun _ R z => z.heap.IsTuple t its ∧
      R (.ok (.ret (.ref (z.heap.push (tItO t)).objs.size))) { z with heap := (z.heap.push (tItO t)).push (enO z.heap.objs.size) }) := by
  refine .of_wp fun prog w A R z hyp => ?_
  obtain ⟨hp, g, d, tk, os⟩ := z
  obtain ⟨ht, fin_⟩ := hyp
  have sub := sub_enumerate
  have tup : Heap.IsTuple (Shared.heap ⟨hp, g, d, tk, os⟩) t its := ht
  have itr : ∀ {A2 : Around} {E2 : Value → Shared → Prop} {Q2 : Value → Shared → Prop}, Q2 (.ref hp.objs.size) ⟨hp.push (tItO t), g, d, tk, os⟩ →
      wpAny (model prog w) A2 (pyIter (.ref t)) Q2 E2 ⟨hp, g, d, tk, os⟩ := fun q2 => wpAny_pyIter_tuple tup q2
  wp_walk using itr
  refine wpAny_stack_any fun frames => wpAny_pure ?_
  split
  · rename_i cc _ _ _ _ _
    by_cases hcc : (cc == Value.type "enumerate") = true
    · rw [hcc]; wp_walk using itr; exact ⟨_, rfl, fin_⟩
    · rw [Bool.not_eq_true] at hcc; rw [hcc]; wp_walk using itr; exact ⟨_, rfl, fin_⟩
  · wp_walk using itr; exact ⟨_, rfl, fin_⟩
section
variable {prog : Program} {w : World} {A : Around} {E : Value → Shared → Prop} {s : Shared}
theorem call_enumT {t : Addr} {its : Array Value} {Q : Value → Shared → Prop} (ht : s.heap.IsTuple t its)
    (k : ∀ hp2, IsEnum hp2 (s.heap.objs.size + 1) s.heap.objs.size 0 .none → hp2.IsTupleIter s.heap.objs.size t 0 → (∀ b o, s.heap.get? b = some o → hp2.get? b = some o) → Q (.ref (s.heap.objs.size + 1)) { s with heap := hp2 }) :
    wpAny (model prog w) A (call (.type "enumerate") [.ref t]) Q E s := by
  refine callType_new F.called_enumerate (by decide) (F.typeCall_enumerate_1 _) (F.newCall_enumerate_1 _)
    (fun made => F.args_object_init_2 made _) F.entry_enumerate_new (meets_enumT t its) ⟨ht, ?_⟩
  have sz : (s.heap.push (tItO t)).objs.size = s.heap.objs.size + 1 := Heap.size_push ..
  show _ ∧ _
  rw [sz]
  have en : IsEnum ((s.heap.push (tItO t)).push (enO s.heap.objs.size)) (s.heap.objs.size + 1) s.heap.objs.size 0 .none := by
    rw [← sz]; exact Heap.get?_push_size _ rfl
  exact ⟨⟨_, en, rfl⟩, k _ en ⟨tItO t, Heap.get?_push_of_some _ (Heap.get?_push_size _ rfl), rfl, rfl⟩ fun b o y => Heap.get?_push_of_some _ (Heap.get?_push_of_some _ y)⟩
end
theorem turn_enT {P : Program} {w : World} {K : PySem.W.Frag} {elts : List Expr} {kk : Nat} {tpos : Pos} (a e it : Addr) :
    Turn P w K (.Tuple elts kk tpos) (IeT K a) [e, it] e (fun i h => (∃ old, IsEnum h e it ((i : Nat) : Int) old) ∧ h.IsTupleIter it a i ∧ e ≠ it ∧ a ≠ it ∧ e ≠ a) where
  mem := List.mem_cons_self ..
  obj := fun i h st b hb => by
    obtain ⟨⟨old, en⟩, ⟨o, ho, _, od⟩, _⟩ := st
    rcases List.mem_cons.mp hb with rfl | hb
    · exact ⟨_, en, fun v z => nomatch z⟩
    · rw [List.mem_singleton] at hb
      subst hb
      exact ⟨o, ho, fun v z => by rw [od] at z; cases z⟩
  keep := fun i h h' st kp => ⟨st.1.imp fun old en => kp e (List.mem_cons_self ..) _ en, st.2.1.at fun o z => kp it (List.mem_cons_of_mem _ (List.mem_singleton.mpr rfl)) o z, st.2.2⟩
  item := by
    intro X hP hw hK hc i pins s σ H E I hf st hg
    subst hP hw hK
    obtain ⟨⟨old, en⟩, ti, d1, d2, d3⟩ := st
    obtain ⟨vs, v, hq, hv⟩ := hg
    obtain ⟨its, rv, tp, hz⟩ := I.tuple hq
    obtain ⟨u, hu, ru⟩ := rv.get hv
    have hlt : i < its.toArray.size := by
      have := (List.getElem?_eq_some_iff.mp hu).1
      simpa using this
    have el : e < s.heap.objs.size := Heap.lt_size en
    have D := Draws.tuple (prog := X.prog) (w := X.w) (A := X.A.in1) (I.ok.hd hc) it a d2 its.toArray
    refine wpAny_pyNext_enum_itemD D en ⟨ti, tp⟩ hlt d1 (fun m => by
      rcases List.mem_cons.mp m with m | m
      · exact d1 m
      · exact d3 (List.mem_singleton.mp m)) fun u2 h2 tk pu out st2 hT sz kp => ?_
    have e2 : u2 = u := by
      have pu : its.toArray[i]? = some u2 := pu
      rw [List.getElem?_toArray, hu] at pu
      exact (Option.some.inj pu).symm
    subst e2
    refine ⟨_, rfl, wpAny_letOwnedTupleGo_enum (s := { s with heap := h2, toks := tk + 1 }) out fun h3 en3 sb => ?_⟩
    have hT3 : h3.get? s.heap.objs.size = some { cls := .type "tuple", data := .seq #[.int i tk, u2] } := (sb.2 _ (Nat.ne_of_gt el)).trans hT
    have new : ObjOk X.prog X.w (upd H s.heap.objs.size (.tup [.int (i : Nat), v])) h3 s.heap.objs.size (.tup [.int (i : Nat), v]) :=
      ⟨show 2 ≤ sizeLine by decide, [.int i tk, u2], .cons ⟨_, rfl⟩ (.cons ru .nil), ⟨_, hT3, rfl, _, rfl⟩⟩
    have I3 : Inv X pins σ (upd H s.heap.objs.size (.tup [.int (i : Nat), v])) { s with heap := h3, toks := tk + 1 } :=
      I.turnedNew (ch := [e, it]) (fun b o hb q => (sb.2 b fun z => hb (by rw [z]; exact List.mem_cons_self ..)).trans
        (kp b o (fun z => hb (by rw [z]; exact List.mem_cons_self ..)) (fun z => hb (by rw [z]; exact List.mem_cons_of_mem _ (List.mem_singleton.mpr rfl))) q)) hf (Nat.le_refl _) new
    refine ⟨.ref s.heap.objs.size, _, I3, rfl, ⟨_, v, rfl, I.hok.fresh (Nat.le_refl _), rfl, fun ys hy => by rw [I.tuple_inj hy hq]; exact hv⟩,
      ⟨⟨u2, ?_⟩, st2.1.at fun o z => (sb.2 it (Ne.symm d1)).trans z, d1, d2, d3⟩, fun b hb => ?_⟩
    · rw [show ((i + 1 : Nat) : Int) = (i : Int) + 1 by omega]; exact en3
    · have lt : b < s.heap.objs.size := by
        rcases List.mem_cons.mp hb with rfl | hb
        · exact el
        · rw [List.mem_singleton] at hb
          subst hb
          obtain ⟨_, z, _⟩ := ti
          exact Heap.lt_size z
      rw [upd_ne (Nat.ne_of_lt lt)]
      exact (hf b hb).1
  done := by
    intro X hP hw hK hc i pins s σ H E I hf st hg
    subst hP hw hK
    obtain ⟨⟨old, en⟩, ti, d1, d2, d3⟩ := st
    obtain ⟨vs, hq, hv⟩ := hg
    obtain ⟨its, rv, tp, hz⟩ := I.tuple hq
    obtain ⟨f0, f1, f2, f3, f4, f5⟩ := hf it (List.mem_cons_of_mem _ (List.mem_singleton.mpr rfl))
    have hnone : its.toArray[i]? = none := by
      have := rv.length
      rw [List.getElem?_toArray, List.getElem?_eq_none_iff]; omega
    have D : Draws X.prog X.w X.A.in1 it [it, a] i (fun _ _ => True) (fun j h => j = i ∧ h.IsTupleIter it a i ∧ h.IsTuple a its.toArray) :=
      { live := fun j h st => by obtain ⟨_, ⟨o, ho, _⟩, _⟩ := st; exact ⟨o, ho⟩
        frame := fun j h h' st kp => ⟨st.1, st.2.1.at fun o z => kp it (List.mem_cons_self ..) o z, st.2.2.at fun o z => kp a (List.mem_cons_of_mem _ (List.mem_singleton.mpr rfl)) o z⟩
        item := fun j s Q E lt st _ => absurd st.1 (Nat.ne_of_lt lt)
        done := fun s Q E st hE => wpAny_nextOf_tuple_end (I.ok.hd hc) st.2.1 st.2.2 hnone hE }
    exact wpAny_pyNext_enum_endD D en ⟨rfl, ti, tp⟩ fun h' eb => ⟨rfl, I.turned (t' := s.toks) (fun b o hb z => eb b o hb z) f0 f1 f3 f4 f5⟩
  self := fun A i s Q E st h => by
    obtain ⟨⟨old, en⟩, _⟩ := st
    exact wpAny_pyIter_enum en h
theorem pi_enE {X : Cx} {e : Expr} {ta : TA} {p pos tpos : Pos} {elts : List Expr} {kk : Nat} (hg : Gl X "enumerate") (hm : X.mg "enumerate" = none) (ha : PA X [e] ta) (hs : starEach [e] X.env = [(false, eval e X.env)]) :
    PI X (.Tuple elts kk tpos) (.Call (.Name "enumerate" p) [e] [] pos) (fun σ H R => ta σ H fun vs H1 => ∃ a, vs = [.ref a] ∧ ((∃ xs, SqL X.K H1 a xs ∧ R (Ite X.K a) H1) ∨ ∃ xs, SqT X.K H1 a xs ∧ R (IeT X.K a) H1)) := by
  constructor
  intro pins s σ H R I h
  refine Call_ (ld_blt I hg hm boot_enumerate (PyProof.Rows.callWith_type1 (thn (ha.run pos pins s σ H _ I h) fun us z ⟨vs, G, IZ, rr, a, ev, alt⟩ => ?_) hs rfl))
  subst ev
  obtain ⟨u, rest, rfl, ru, rrest⟩ : ∃ u rest, us = u :: rest ∧ RelV (.ref a) u ∧ Vals [] rest := by cases rr with | cons r1 r2 => exact ⟨_, _, rfl, r1, r2⟩
  cases rrest
  cases ru
  have fresh : ∀ b, b ∈ [z.heap.objs.size + 1, z.heap.objs.size] → z.heap.objs.size ≤ b := fun b hb => by
    rcases List.mem_cons.mp hb with rfl | hb
    · exact Nat.le_succ _
    · rw [List.mem_singleton] at hb; rw [hb]; exact Nat.le_refl _
  rcases alt with ⟨xs, q, r⟩ | ⟨xs, q, r⟩
  · obtain ⟨its, _, tl, _⟩ := IZ.list q
    refine call_enumerate_list tl.isList fun hp2 en li _ kp => wpAny_pyIter_enum en ⟨z.heap.objs.size + 1, [z.heap.objs.size + 1, z.heap.objs.size], _, _, G, rfl, IZ.kept (t' := z.toks) kp,
      turn_enum a (z.heap.objs.size + 1) z.heap.objs.size, ⟨⟨.none, en⟩, li, Nat.succ_ne_self _⟩, fun b hb => IZ.fpOk (fresh b hb) (IZ.hok.fresh (fresh b hb)), r⟩
  · obtain ⟨its, _, tp, _⟩ := IZ.tuple q
    have lt : a < z.heap.objs.size := by
      obtain ⟨o, ho, _⟩ := id tp
      exact Heap.lt_size ho
    refine call_enumT tp fun hp2 en ti kp => wpAny_pyIter_enum en ⟨z.heap.objs.size + 1, [z.heap.objs.size + 1, z.heap.objs.size], _, _, G, rfl, IZ.kept (t' := z.toks) kp,
      turn_enT a (z.heap.objs.size + 1) z.heap.objs.size, ⟨⟨.none, en⟩, ti, Nat.succ_ne_self _, Nat.ne_of_lt lt, fun z2 => absurd lt (by rw [← z2]; exact Nat.not_lt.mpr (Nat.le_succ _))⟩, fun b hb => IZ.fpOk (fresh b hb) (IZ.hok.fresh (fresh b hb)), r⟩
theorem pair_rel {K : PySem.W.Frag} {φ2 : List Addr} {H2 : Hp} {S2 : Store} (R2 : Rel K φ2 H2 S2) {T : Addr} {i : Nat} {x : PV} {v : V} (hT : H2 T = none) (r : relV K φ2 H2 x v) :
    Ext φ2 H2 φ2 (upd H2 T (.tup [.int (i : Nat), v])) ∧ Rel K φ2 (upd H2 T (.tup [.int (i : Nat), v])) S2 ∧ relV K φ2 (upd H2 T (.tup [.int (i : Nat), v])) (.tup [.int (i : Int), x]) (.ref T) :=
  ⟨Ext.laid hT _, R2.laid hT _, T, _, rfl, SqT.of upd_same, _, _, rfl, rfl, _, _, rfl, relV_upd (by rw [hT]; intro _ _ z; cases z) (by rw [hT]; intro _ z; cases z) r, rfl⟩
theorem irok_enL {K : PySem.W.Frag} {φ : List Addr} {H : Hp} {r : Ir} {a : Addr} (h : IrOk K φ H r (Itl K a)) : IrOk K φ H (.enu r) (Ite K a) where
  go := fun φ2 H2 S2 i x E R2 e => by
    obtain ⟨y, hy, rfl⟩ := Option.map_eq_some_iff.mp (show (r.get S2 i).map (fun x => PV.tup [.int (i : Int), x]) = some x from e)
    obtain ⟨g, k⟩ := h.go φ2 H2 S2 i y E R2 hy
    refine ⟨g, fun v H3 ⟨T, u, ev, hT, e3, hu⟩ => ?_⟩
    subst ev e3
    exact pair_rel R2 hT (k u H2 ⟨rfl, hu⟩).2.2
  stop := fun φ2 H2 S2 i E R2 e => h.stop φ2 H2 S2 i E R2 e
theorem irok_enT {K : PySem.W.Frag} {φ : List Addr} {H : Hp} {r : Ir} {a : Addr} (h : IrOk K φ H r (Itt K a)) : IrOk K φ H (.enu r) (IeT K a) where
  go := fun φ2 H2 S2 i x E R2 e => by
    obtain ⟨y, hy, rfl⟩ := Option.map_eq_some_iff.mp (show (r.get S2 i).map (fun x => PV.tup [.int (i : Int), x]) = some x from e)
    obtain ⟨g, k⟩ := h.go φ2 H2 S2 i y E R2 hy
    refine ⟨g, fun v H3 ⟨T, u, ev, hT, e3, hu⟩ => ?_⟩
    subst ev e3
    exact pair_rel R2 hT (k u H2 ⟨rfl, hu⟩).2.2
  stop := fun φ2 H2 S2 i E R2 e => h.stop φ2 H2 S2 i E R2 e
theorem pii_enu {X : Cx} {a : Expr} {fa : Loc → Store → Res PV} {p pos tpos : Pos} {elts : List Expr} {kk : Nat} (hg : Gl X "enumerate") (hm : X.mg "enumerate" = none) (ha : PEI X a fa) (hs : starEach [a] X.env = (false, eval a X.env) :: starEach [] X.env) :
    PII X (.Tuple elts kk tpos) (.Call (.Name "enumerate" p) [a] [] pos) (fun ρ S => (fa ρ S).bind fun x S1 => enuV x S1) := by
  refine ⟨fun pins s σ H Q I ⟨φ, ρ, S, r, S', R, L, e, k⟩ => (pi_enE hg hm (pai_cons ha pai_nil hs) hs).run pins s σ H Q I ?_⟩
  obtain ⟨x, S1, e1, e2⟩ := bind_inv e
  refine ⟨φ, ρ, S, [x], S1, R, L, (by show (fa ρ S).bind _ = _; rw [e1]; rfl), fun φ1 vs H1 E1 R1 r1 => ?_⟩
  obtain ⟨v, rfl, r2⟩ := rel1 r1
  unfold enuV at e2
  split at e2
  · cases e2
    obtain ⟨b, ws, rfl, h1, h2⟩ := r2
    exact ⟨b, rfl, .inr ⟨ws, h1, k φ1 H1 _ E1 R1 (irok_enT (irok_tup R1 h1 h2))⟩⟩
  · cases e2
    obtain ⟨b, ws, rfl, h1, h2⟩ := r2
    exact ⟨b, rfl, .inl ⟨ws, h1.sq, k φ1 H1 _ E1 R1 (irok_enL (irok_ltc R1 h1 h2))⟩⟩
  · cases e2
    obtain ⟨b, rfl, h1⟩ := r2
    obtain ⟨o, _, ho⟩ := R1.get h1
    cases o with
    | lst xs =>
      obtain ⟨ws, h2, _⟩ := ho
      exact ⟨b, rfl, .inl ⟨ws, SqL.of h2, k φ1 H1 _ E1 R1 (irok_enL (irok_live h1))⟩⟩
  · cases e2
end Mp

/-! Mp7: statements. -/
namespace Mp
open PySem PySem.Spec PyProof.Rows L2

def PostL (K : PySem.W.Frag) (φ : List Addr) (H : Hp) (N : L2.St → Hp → Prop) (ρ : Loc) (S : Store) : Prop :=
  ∀ (φ' : List Addr) (σ' : L2.St) (H' : Hp), Ext φ H φ' H' → Rel K φ' H' S → RelL K φ' H' ρ σ' → N σ' H'
theorem PostL.ext {K : PySem.W.Frag} {φ φ' : List Addr} {H H' : Hp} {N : L2.St → Hp → Prop} {ρ : Loc} {S : Store} (P : PostL K φ H N ρ S) (E : Ext φ H φ' H') : PostL K φ' H' N ρ S :=
  fun φ2 σ H2 E2 R L => P φ2 σ H2 (E.trans E2) R L
def PostF (K : PySem.W.Frag) (φ : List Addr) (H : Hp) (D : Ends) (r : Fl) (S : Store) : Prop := match r with
  | .next ρ => PostL K φ H D.nx ρ S
  | .brk ρ => PostL K φ H D.bk ρ S
  | .cont ρ => PostL K φ H D.ct ρ S
  | .ret v => Post K φ H D.rt v S
theorem PostF.ext {K : PySem.W.Frag} {φ φ' : List Addr} {H H' : Hp} {D : Ends} {r : Fl} {S : Store} (P : PostF K φ H D r S) (E : Ext φ H φ' H') : PostF K φ' H' D r S := by
  cases r with
  | next ρ => exact PostL.ext (show PostL K φ H D.nx ρ S from P) E
  | brk ρ => exact PostL.ext (show PostL K φ H D.bk ρ S from P) E
  | cont ρ => exact PostL.ext (show PostL K φ H D.ct ρ S from P) E
  | ret v => exact Post.ext (show Post K φ H D.rt v S from P) E
def tIS (K : PySem.W.Frag) (f : Loc → Store → Res Fl) : TS := fun D σ H => ∃ φ ρ S r S', Rel K φ H S ∧ RelL K φ H ρ σ ∧ f ρ S = .ok r S' ∧ PostF K φ H D r S'
abbrev PSI (X : Cx) (st : Stmt) (f : Loc → Store → Res Fl) : Prop := PS X st (tIS X.K f)
abbrev PSsI (X : Cx) (st : List Stmt) (f : Loc → Store → Res Fl) : Prop := PSs X st (tIS X.K f)
theorem PS.imp {X : Cx} {st : Stmt} {t t' : TS} (h : PS X st t) (i : ∀ D σ H, t' D σ H → t D σ H) : PS X st t' := ⟨fun pins s σ H D I q => h.run pins s σ H D I (i _ _ _ q)⟩
theorem PSs.imp {X : Cx} {st : List Stmt} {t t' : TS} (h : PSs X st t) (i : ∀ D σ H, t' D σ H → t D σ H) : PSs X st t' := ⟨fun pins s σ H D I q => h.run pins s σ H D I (i _ _ _ q)⟩
section
variable {X : Cx} {a b d : Expr} {fa fb fd : Loc → Store → Res PV} {pos : Pos} {st : Stmt} {sts : List Stmt} {f g : Loc → Store → Res Fl}
theorem pssi_nil : PSsI X [] (fun ρ S => .ok (.next ρ) S) := PSs.imp pss_nil fun D σ H ⟨φ, ρ, S, r, S', R, L, e, P⟩ => by
  cases e
  exact P φ σ H (Ext.refl _ _) R L
/-- the block goes on behind a statement that ends next -/
theorem pssi_cons (h1 : PSI X st f) (h2 : PSsI X sts g) : PSsI X (st :: sts) (fun ρ S => (f ρ S).bind fun r S1 => match r with
    | .next ρ1 => g ρ1 S1
    | r => .ok r S1) := by
  refine PSs.imp (pss_cons h1 h2) fun D σ H ⟨φ, ρ, S, r, S', R, L, e, P⟩ => ?_
  obtain ⟨r1, S1, e1, e2⟩ := bind_inv e
  refine ⟨φ, ρ, S, r1, S1, R, L, e1, ?_⟩
  cases r1 with
  | next ρ1 =>
    intro φ1 σ1 H1 E1 R1 L1
    exact ⟨φ1, ρ1, S1, r, S', R1, L1, e2, P.ext E1⟩
  | brk ρ1 => cases e2; exact P
  | cont ρ1 => cases e2; exact P
  | ret v => cases e2; exact P
theorem psi_pass : PSI X (.Pass pos) (fun ρ S => .ok (.next ρ) S) := PS.imp ps_pass fun D σ H ⟨φ, ρ, S, r, S', R, L, e, P⟩ => by
  cases e
  exact P φ σ H (Ext.refl _ _) R L
theorem psi_brk : PSI X (.Break pos) (fun ρ S => .ok (.brk ρ) S) := PS.imp ps_break fun D σ H ⟨φ, ρ, S, r, S', R, L, e, P⟩ => by
  cases e
  exact P φ σ H (Ext.refl _ _) R L
theorem psi_cont : PSI X (.Continue pos) (fun ρ S => .ok (.cont ρ) S) := PS.imp ps_continue fun D σ H ⟨φ, ρ, S, r, S', R, L, e, P⟩ => by
  cases e
  exact P φ σ H (Ext.refl _ _) R L
theorem psi_doc {x : Str} {k : Nat} {p : Pos} : PSI X (.Expr (.Constant (.str x) k p) pos) (fun ρ S => .ok (.next ρ) S) := PS.imp ps_doc fun D σ H ⟨φ, ρ, S, r, S', R, L, e, P⟩ => by
  cases e
  exact P φ σ H (Ext.refl _ _) R L
theorem psi_never : PSI X st (fun _ _ => .bad) := PS.imp ps_never fun D σ H ⟨φ, ρ, S, r, S', R, L, e, P⟩ => by cases e
theorem psi_expr (ha : PEI X a fa) (hs : swapsWith a none pos.line X.env = pure false) : PSI X (.Expr a pos) (fun ρ S => (fa ρ S).bind fun _ S1 => .ok (.next ρ) S1) := by
  refine PS.imp (ps_expr ha hs) fun D σ H ⟨φ, ρ, S, r, S', R, L, e, P⟩ => ?_
  refine tI_step R L e fun x S1 _ e1 φ1 v1 H1 E1 R1 L1 r1 => ?_
  cases e1
  exact P φ1 σ H1 E1 R1 L1
theorem psi_ret (ha : PEI X a fa) : PSI X (.Return (some a) pos) (fun ρ S => (fa ρ S).bind fun x S1 => .ok (.ret x) S1) := by
  refine PS.imp (ps_ret ha) fun D σ H ⟨φ, ρ, S, r, S', R, L, e, P⟩ => ?_
  refine tI_step R L e fun x S1 _ e1 φ1 v1 H1 E1 R1 L1 r1 => ?_
  cases e1
  exact P φ1 _ H1 E1 R1 r1
theorem psi_retN : PSI X (.Return none pos) (fun ρ S => .ok (.ret .non) S) := by
  refine PS.imp ps_retN fun D σ H ⟨φ, ρ, S, r, S', R, L, e, P⟩ => ?_
  cases e
  exact P φ _ H (Ext.refl _ _) R rfl
theorem psi_if (hd : PTI X d (asT fd)) (h1 : PSsI X sts f) {sts2 : List Stmt} (h2 : PSsI X sts2 g) : PSI X (.If d sts sts2 pos) (fun ρ S => (fd ρ S).bind fun x S1 => (tru x S1).bind fun t S2 => if t = true then f ρ S2 else g ρ S2) := by
  refine PS.imp (ps_if hd h1 h2) fun D σ H ⟨φ, ρ, S, r, S', R, L, e, P⟩ => ?_
  have e' : (asT fd ρ S).bind (fun t S2 => if t = true then f ρ S2 else g ρ S2) = .ok r S' := (ite_law _ _ _).symm.trans e
  refine tIT_step R L e' fun t S1 _ e1 φ1 H1 E1 R1 L1 => ?_
  split at e1
  · rename_i ht
    rw [if_pos ht]
    exact ⟨φ1, ρ, S1, r, S', R1, L1, e1, P.ext E1⟩
  · rename_i ht
    rw [if_neg ht]
    exact ⟨φ1, ρ, S1, r, S', R1, L1, e1, P.ext E1⟩
/-! ### stores -/
theorem asPR_inv {p : Pt} {v : PV} {ρ ρ' : Loc} {S S' : Store} (h : asPR p v ρ S = .ok ρ' S') : asP p v ρ = some ρ' ∧ S' = S := by
  unfold asPR at h
  split at h
  · rename_i e; cases h; exact ⟨e, rfl⟩
  · cases h
theorem psi_asg {tg : Expr} {p : Pt} (ha : PEI X a fa) (hg : PG X tg (gP X.K p)) (hs : swapsWithSole [tg] a pos.line X.env = pure false) (hw : swappedStores [tg] a X.env = pure none) (h1 : (assignEach [tg] X.env).map (·.2) = [assign tg X.env]) :
    PSI X (.Assign [tg] a pos) (fun ρ S => (fa ρ S).bind fun x S1 => (asPR p x ρ S1).bind fun ρ1 S2 => .ok (.next ρ1) S2) := by
  refine PS.imp (ps_asg ha hg hs hw h1) fun D σ H ⟨φ, ρ, S, r, S', R, L, e, P⟩ => ?_
  refine tI_step R L e fun x S1 _ e1 φ1 v1 H1 E1 R1 L1 r1 => ?_
  obtain ⟨ρ1, S2, e2, e3⟩ := bind_inv e1
  obtain ⟨g2, rfl⟩ := asPR_inv e2
  cases e3
  exact ⟨φ1, ρ, _, x, ρ1, R1, L1, r1, g2, fun σ2 L2 _ => P φ1 σ2 H1 E1 R1 L2⟩
theorem psi_asgS {o i : Expr} {fo fi : Loc → Store → Res PV} {tp : Pos} (ha : PEI X a fa) (ho : PEI X o fo) (hi : PEI X i fi) (hs : swapsWithSole [.Subscript o i tp] a pos.line X.env = pure false) (hw : swappedStores [.Subscript o i tp] a X.env = pure none) (h1 : (assignEach [.Subscript o i tp] X.env).map (·.2) = [assign (.Subscript o i tp) X.env])
    (hsub : ∀ v, assign (.Subscript o i tp) X.env v = (do
      let ov ← holding [v] (eval o X.env)
      let iv ← holding [v, ov] (eval i X.env)
      standAt tp
      holding [v, ov, iv] (setItem ov iv v)
      release [v, ov, iv] [])) :
    PSI X (.Assign [.Subscript o i tp] a pos) (fun ρ S => (fa ρ S).bind fun x S1 => ((fo ρ S1).bind fun y S2 => (fi ρ S2).bind fun z S3 => (setV y z x S3).bind fun _ S4 => .ok ρ S4).bind fun ρ1 S2 => .ok (.next ρ1) S2) := by
  refine PS.imp (ps_asg ha (pg_sub ho hi set_list hsub) hs hw h1) fun D σ H ⟨φ, ρ, S, r, S', R, L, e, P⟩ => ?_
  refine tI_step R L e fun x S1 _ e1 φ1 v1 H1 E1 R1 L1 r1 => ?_
  obtain ⟨ρ1, S9, e2, e3⟩ := bind_inv e1
  cases e3
  refine tI_step R1 L1 e2 fun y S2 _ e4 φ2 v2 H2 E2 R2 L2 r2 => ?_
  refine tI_step R2 L2 e4 fun z S3 _ e5 φ3 v3 H3 E3 R3 L3 r3 => ?_
  obtain ⟨u, S4, e6, e7⟩ := bind_inv e5
  cases e7
  unfold setV at e6
  split at e6
  · split at e6
    · rename_i xs hx
      split at e6
      · rename_i j hj
        cases e6
        obtain ⟨p, vs, rfl, hn, h2, h3⟩ := R3.lst hx (relV_ext R2 E3 R3 _ _ r2)
        cases r3
        have rx := relV_ext R1 (E2.trans E3) R3 _ _ r1
        refine ⟨p, vs, _, j, rfl, rfl, h2, by rw [← relVs_len h3]; exact hj, ?_⟩
        refine P φ3 σ _ (((E1.trans E2).trans E3).trans (Ext.write R3 hn _)) (R3.write hn (relVs_set j h3 rx)) ?_
        exact ⟨L3.1, fun i x h => let ⟨v, e, r⟩ := L3.2 i x h; ⟨v, e, R3.upL hn r⟩⟩
      · cases e6
    · cases e6
  · cases e6
theorem psi_aug {op : Operator} {i : Nat} {x : Str} {p : Pos} {h : PV → PV → Store → Res PV} (hN : X.N.Nodup) (hi : X.N[i]? = some x) (hx : L2.Loc X.env.scope x) (ha : PEI X a fa) (ho : OpR X (inplaceOp op) (rI2 X.K h)) (hf : X.fn x = true ∨ X.env.scope.names.lookup x = some .local) :
    PSI X (.AugAssign (.Name x p) op a pos) (fun ρ S => (getL ρ i S).bind fun x S0 => (fa ρ S0).bind fun y S1 => (h x y S1).bind fun z S2 => .ok (.next (ρ.set i (some z))) S2) := by
  refine PS.imp (ps_aug hN hi hx ha (ti := rI2 X.K h) ho hf) fun D σ H ⟨φ, ρ, S, r, S', R, L, e, P⟩ => ?_
  obtain ⟨x0, S0, e0, e1⟩ := bind_inv e
  unfold getL at e0
  split at e0
  · rename_i v hv
    cases e0
    obtain ⟨w, e2, r0⟩ := L.2 i _ hv
    refine ⟨w, e2, ?_⟩
    refine tI_step R L e1 fun y S1 _ e3 φ1 v1 H1 E1 R1 L1 r1 => ?_
    obtain ⟨z, S2, e4, e5⟩ := bind_inv e3
    cases e5
    refine ⟨φ1, S1, x0, y, z, _, R1, relV_ext R E1 R1 _ _ r0, r1, e4, fun φ2 v2 H2 E2 R2 r2 => ?_⟩
    exact P φ2 _ H2 (E1.trans E2) R2 ((L1.ext R1 E2 R2).set i r2)
  · cases e0
/-- a, b = x, y: plain local names -/
theorem setMany2 {i j : Nat} {xs : List PV} {ρ ρ' : Loc} (h : setMany ρ [i, j] xs = some ρ') : ∃ x y, xs = [x, y] ∧ ρ' = (ρ.set i (some x)).set j (some y) := by
  match xs, h with
  | [x, y], h => simp only [setMany] at h; cases h; exact ⟨x, y, rfl, rfl⟩
theorem setMany3 {i j l : Nat} {xs : List PV} {ρ ρ' : Loc} (h : setMany ρ [i, j, l] xs = some ρ') : ∃ x y z, xs = [x, y, z] ∧ ρ' = ((ρ.set i (some x)).set j (some y)).set l (some z) := by
  match xs, h with
  | [x, y, z], h => simp only [setMany] at h; cases h; exact ⟨x, y, z, rfl, rfl⟩
theorem psi_par {i j : Nat} {x y : Str} {px py pt : Pos} {kt k2 : Nat} {pt2 : Pos} {fs : Loc → Store → Res (List PV)} (hc : X.calm = true) (hN : X.N.Nodup) (hi : X.N[i]? = some x) (hj : X.N[j]? = some y) (hij : i ≠ j)
    (hx : X.env.scope.names.lookup x = some .local) (hy : X.env.scope.names.lookup y = some .local) (ha : PAI X [a, b] fs)
    (hw : swappedStores [.Tuple [.Name x px, .Name y py] kt pt] (.Tuple [a, b] k2 pt2) X.env = pure (some [x, y]))
    (hs : swapsWithSole [.Tuple [.Name x px, .Name y py] kt pt] (.Tuple [a, b] k2 pt2) pos.line X.env = pure false) :
    PSI X (.Assign [.Tuple [.Name x px, .Name y py] kt pt] (.Tuple [a, b] k2 pt2) pos) (fun ρ S => (fs ρ S).bind fun xs S1 => match setMany ρ [i, j] xs with | some ρ1 => .ok (.next ρ1) S1 | none => .bad) := by
  refine PS.imp (ps_par hc hN hi hj hij hx hy ha hw hs) fun D σ H ⟨φ, ρ, S, r, S', R, L, e, P⟩ => ?_
  refine tIA_step R L e fun xs S1 _ e1 φ1 vs H1 E1 R1 L1 r1 => ?_
  split at e1
  · rename_i ρ1 hρ
    cases e1
    obtain ⟨x1, y1, rfl, rfl⟩ := setMany2 hρ
    obtain ⟨v, w, rfl, r2, r3⟩ := rel2 r1
    exact ⟨v, w, rfl, P φ1 _ H1 E1 R1 ((L1.set i r2).set j r3)⟩
  · cases e1
theorem psi_par3 {i j l : Nat} {x y z : Str} {px py pz pt : Pos} {kt k2 : Nat} {pt2 : Pos} {fs : Loc → Store → Res (List PV)} (hc : X.calm = true) (hN : X.N.Nodup) (hi : X.N[i]? = some x) (hj : X.N[j]? = some y) (hl : X.N[l]? = some z) (hij : i ≠ j) (hil : i ≠ l) (hjl : j ≠ l)
    (hx : X.env.scope.names.lookup x = some .local) (hy : X.env.scope.names.lookup y = some .local) (hz : X.env.scope.names.lookup z = some .local) (ha : PAI X [a, b, d] fs)
    (hw : swappedStores [.Tuple [.Name x px, .Name y py, .Name z pz] kt pt] (.Tuple [a, b, d] k2 pt2) X.env = pure (some [x, y, z]))
    (hs : swapsWithSole [.Tuple [.Name x px, .Name y py, .Name z pz] kt pt] (.Tuple [a, b, d] k2 pt2) pos.line X.env = pure false) :
    PSI X (.Assign [.Tuple [.Name x px, .Name y py, .Name z pz] kt pt] (.Tuple [a, b, d] k2 pt2) pos) (fun ρ S => (fs ρ S).bind fun xs S1 => match setMany ρ [i, j, l] xs with | some ρ1 => .ok (.next ρ1) S1 | none => .bad) := by
  refine PS.imp (ps_par3 hc hN hi hj hl hij hil hjl hx hy hz ha hw hs) fun D σ H ⟨φ, ρ, S, r, S', R, L, e, P⟩ => ?_
  refine tIA_step R L e fun xs S1 _ e1 φ1 vs H1 E1 R1 L1 r1 => ?_
  split at e1
  · rename_i ρ1 hρ
    cases e1
    obtain ⟨x1, y1, z1, rfl, rfl⟩ := setMany3 hρ
    obtain ⟨v, w, u, rfl, r2, r3, r4⟩ := rel3 r1
    exact ⟨v, w, u, rfl, P φ1 _ H1 E1 R1 (((L1.set i r2).set j r3).set l r4)⟩
  · cases e1
/-! ### loops -/
theorem psi_whl {fu : Nat} (hp : PassesOwn (model X.prog X.w) X.A X.env X.xe) (hd : PTI X d (asT fd)) (h1 : PSsI X sts f) : PSI X (.While d sts [] pos) (fun ρ S => whlN (asT fd) f fu ρ S) := by
  refine PS.imp (ps_while hp hd h1) fun D σ H ⟨φ, ρ, S, r, S', R, L, e, P⟩ => ?_
  refine ⟨fun m σ2 H2 => ∃ φ2 ρ2 S2, Ext φ H φ2 H2 ∧ Rel X.K φ2 H2 S2 ∧ RelL X.K φ2 H2 ρ2 σ2 ∧ whlN (asT fd) f m ρ2 S2 = .ok r S', ⟨fu, φ, ρ, S, Ext.refl _ _, R, L, e⟩, ?_⟩
  rintro m σ2 H2 ⟨φ2, ρ2, S2, E2, R2, L2, e2⟩
  cases m with
  | zero => cases e2
  | succ m =>
    unfold whlN at e2
    refine tIT_step R2 L2 e2 fun t S3 _ e3 φ3 H3 E3 R3 L3 => ?_
    split at e3
    · rename_i ht
      rw [if_pos ht]
      refine ⟨fun σ' H' => ∃ φ2 ρ2 S2, Ext φ H φ2 H' ∧ Rel X.K φ2 H' S2 ∧ RelL X.K φ2 H' ρ2 σ' ∧ whlN (asT fd) f m ρ2 S2 = .ok r S', fun σ' H' h => ⟨m, Nat.lt_succ_self _, h⟩, ?_⟩
      obtain ⟨r1, S4, e4, e5⟩ := bind_inv e3
      refine ⟨φ3, ρ2, S3, r1, S4, R3, L3, e4, ?_⟩
      have E23 := E2.trans E3
      cases r1 with
      | next ρ' => exact fun φ4 σ4 H4 E4 R4 L4 => ⟨φ4, ρ', S4, E23.trans E4, R4, L4, e5⟩
      | cont ρ' => exact fun φ4 σ4 H4 E4 R4 L4 => ⟨φ4, ρ', S4, E23.trans E4, R4, L4, e5⟩
      | brk ρ' => cases e5; exact fun φ4 σ4 H4 E4 R4 L4 => P φ4 σ4 H4 (E23.trans E4) R4 L4
      | ret v => cases e5; exact fun φ4 v4 H4 E4 R4 r4 => P φ4 v4 H4 (E23.trans E4) R4 r4
    · rename_i ht
      rw [if_neg ht]
      cases e3
      exact P φ3 σ2 H3 (E2.trans E3) R3 L3
theorem psi_for {tg it : Expr} {fi : Loc → Store → Res Ir} {p : Pt} (hp : PassesOwn (model X.prog X.w) X.A X.env X.xe) (hc : X.calm = true) (hi : PII X tg it fi) (hg : PG X tg (gP X.K p)) (h1 : PSsI X sts f) (hsx : ∀ x, foldedSetIterable it X.env x = pure x) :
    PSI X (.For tg it sts [] pos) (fun ρ S => (fi ρ S).bind fun r S1 => forN r (fun x ρ S => (asPR p x ρ S).bind fun ρ1 S2 => f ρ1 S2) (r.len S1 + 1) 0 ρ S1) := by
  refine PS.imp (ps_for hp hc hi hg h1 (hs := hsx)) fun D σ H ⟨φ, ρ, S, r, S', R, L, e, P⟩ => ?_
  obtain ⟨ir, S1, e1, e2⟩ := bind_inv e
  refine ⟨φ, ρ, S, ir, S1, R, L, e1, fun φ1 H1 J E1 R1 ok1 => ?_⟩
  refine ⟨fun i m σ2 H2 => ∃ φ2 ρ2 S2, Ext φ1 H1 φ2 H2 ∧ Rel X.K φ2 H2 S2 ∧ RelL X.K φ2 H2 ρ2 σ2 ∧ forN ir (fun x ρ S => (asPR p x ρ S).bind fun ρ1 S2 => f ρ1 S2) m i ρ2 S2 = .ok r S', ⟨ir.len S1 + 1, φ1, ρ, S1, Ext.refl _ _, R1, L.ext R E1 R1, e2⟩, ?_⟩
  rintro i m σ2 H2 ⟨φ2, ρ2, S2, E2, R2, L2, e3⟩
  cases m with
  | zero => cases e3
  | succ m =>
    unfold forN at e3
    split at e3
    · rename_i x hx
      obtain ⟨hgo, hy⟩ := ok1.go φ2 H2 S2 i x E2 R2 hx
      refine .inr ⟨hgo, fun σ' H' => ∃ φ2 ρ2 S2, Ext φ1 H1 φ2 H' ∧ Rel X.K φ2 H' S2 ∧ RelL X.K φ2 H' ρ2 σ' ∧ forN ir (fun x ρ S => (asPR p x ρ S).bind fun ρ1 S2 => f ρ1 S2) m (i + 1) ρ2 S2 = .ok r S', fun σ' H' h => ⟨m, Nat.lt_succ_self _, h⟩, fun v H3 hv => ?_⟩
      obtain ⟨E3, R3, rv⟩ := hy v H3 hv
      obtain ⟨r1, S4, e4, e5⟩ := bind_inv e3
      obtain ⟨ρ1, S3, e6, e7⟩ := bind_inv e4
      obtain ⟨g6, rfl⟩ := asPR_inv e6
      refine ⟨φ2, ρ2, _, x, ρ1, R3, L2.ext R2 E3 R3, rv, g6, fun σ3 L4 _ => ?_⟩
      refine ⟨φ2, ρ1, _, r1, S4, R3, L4, e7, ?_⟩
      have E23 := E2.trans E3
      cases r1 with
      | next ρ' => exact fun φ4 σ4 H4 E4 R4 L4 => ⟨φ4, ρ', S4, E23.trans E4, R4, L4, e5⟩
      | cont ρ' => exact fun φ4 σ4 H4 E4 R4 L4 => ⟨φ4, ρ', S4, E23.trans E4, R4, L4, e5⟩
      | brk ρ' => cases e5; exact fun φ4 σ4 H4 E4 R4 L4 => P φ4 σ4 H4 (E1.trans (E23.trans E4)) R4 L4
      | ret v => cases e5; exact fun φ4 v4 H4 E4 R4 r4 => P φ4 v4 H4 (E1.trans (E23.trans E4)) R4 r4
    · split at e3
      · rename_i hf
        cases e3
        exact .inl ⟨ok1.stop φ2 H2 _ i E2 R2 hf, P φ2 σ2 H2 (E1.trans E2) R2 L2⟩
      · cases e3
/-- name = a comprehension, on one line -/
theorem psi_setLc {i : Nat} {y : Str} {py : Pos} {elt tg iter : Expr} {ifs : List Expr} {scope : Scope} {own : List (Str × Nat)} {lpos : Pos} {fi : Loc → Store → Res Ir} {p : Pt} {ft : Loc → Store → Res Bool} {fe : Loc → Store → Res PV}
    (hc : X.calm = true) (hN : X.N.Nodup) (hy : X.N[i]? = some y) (hyl : X.env.scope.names.lookup y = some .local) (hsw : swapsWith (.ListComp elt [⟨tg, iter, ifs, 0⟩] scope lpos) (some (.Name y py)) pos.line X.env = pure true)
    (hi : PII X tg iter fi) (ok : BlkOk X.N X.env.scope scope own) (hp : ∀ i ∈ p.slots, i ∈ own.map (·.2))
    (hg : ∀ (s : Shared) (H : Hp) (C : Addr) (cl : List (Str × Addr)) (fp : List Addr), PG (X.blk s H scope (compEnvC scope cl C X.env) fp) tg (gP X.K p))
    (ht : ∀ (s : Shared) (H : Hp) (C : Addr) (cl : List (Str × Addr)) (fp : List Addr), PTsI (X.blk s H scope (compEnvC scope cl C X.env) fp) ifs ft)
    (he : ∀ (s : Shared) (H : Hp) (C : Addr) (cl : List (Str × Addr)) (fp : List Addr), PEI (X.blk s H scope (compEnvC scope cl C X.env) fp) elt fe) (hs : ∀ x, foldedSetIterable iter X.env x = pure x) :
    PSI X (.Assign [.Name y py] (.ListComp elt [⟨tg, iter, ifs, 0⟩] scope lpos) pos) (fun ρ S => ((fi ρ S).bind fun r S1 =>
      (lcN r (fun x S2 => (asPR p x (wipeL ρ (own.map (·.2))) S2).bind fun ρ1 S3 => (ft ρ1 S3).bind fun t S4 => if t = true then (fe ρ1 S4).bind fun y S5 => .ok (some y) S5 else .ok none S4) (r.len S1 + 1) 0 [] S1).bind
        fun ys S6 => .ok (.ref S6.length) (S6 ++ [.lst ys])).bind fun x S1 => (asPR (.name i) x ρ S1).bind fun ρ1 S2 => .ok (.next ρ1) S2) := by
  refine PS.imp (ps_setLc (tt := tIT X.K ft) (te := tI X.K fe) hc hN hy hyl hsw hi ok hg (fun s H C cl fp => (ht s H C cl fp).pts) he hs) fun D σ H ⟨φ, ρ, S, r, S', R, L, e, P⟩ => ?_
  refine (pei_lc (pos := lpos) hc hN hi ok hp hg ht he hs).2 σ H _ ?_
  refine tI_step R L e fun x S1 _ e1 φ1 v1 H1 E1 R1 L1 r1 => ?_
  cases e1
  exact P φ1 _ H1 E1 R1 (L1.set i r1)
end
end Mp

/-! Mp8: from the program's text to the small language; it holds of the text what holds of the small one. -/
namespace Mp
open PySem PySem.Spec PyProof.Rows L2

/-! ### looks at the text -/
def isStar : Expr → Bool
  | .Starred _ _ => true
  | _ => false
theorem star_one {a : Expr} (h : isStar a = false) (es : List Expr) (env : Env) : starEach (a :: es) env = (false, eval a env) :: starEach es env := by
  cases a <;> first | rfl | cases h
theorem star_none {pos : Pos} {env : Env} : ∀ {es : List Expr}, es.all (fun e => !isStar e) = true → (backTo pos (starEach es env)).any (·.1) = false
  | [], _ => rfl
  | a :: es, h => by
    rw [List.all_cons, Bool.and_eq_true] at h
    rw [star_one (by simpa using h.1)]
    show (false || (backTo pos (starEach es env)).any (·.1)) = false
    rw [star_none h.2]; rfl
theorem star_all {pos : Pos} {env : Env} : ∀ {es : List Expr}, es.all (fun e => !isStar e) = true → (backTo pos (starEach es env)).all (fun x => !x.1) = true
  | [], _ => rfl
  | a :: es, h => by
    rw [List.all_cons, Bool.and_eq_true] at h
    rw [star_one (by simpa using h.1)]
    show (true && (backTo pos (starEach es env)).all (fun x => !x.1)) = true
    rw [star_all h.2]; rfl
theorem few_ok {pos : Pos} {env : Env} {es : List Expr} (h : es.all (fun e => !isStar e) = true) (hl : es.length < 29) :
    ((backTo pos (starEach es env)).all (fun x => !x.1) && (backToKw pos (keywordEach [] env)).all (fun x => x.1.isSome) && decide (es.length + ([] : List Keyword).length + (if ([] : List Keyword).isEmpty then 0 else 1) < 30)) = true := by
  rw [star_all h]
  have : decide (es.length + ([] : List Keyword).length + (if ([] : List Keyword).isEmpty then 0 else 1) < 30) = true := by
    rw [decide_eq_true_eq]
    show es.length + 0 + 0 < 30
    omega
  rw [this]; rfl
/-- a receiver that is no call of a name with nothing -/
def plainBase : Expr → Bool
  | .Call (.Name x _) [] [] _ => x != ("super" : Str)
  | _ => true
theorem base_ok {o : Expr} (h : plainBase o = true) (name : Str) (env : Env) : attributeBase o name env (eval o env) = eval o env := by
  unfold attributeBase
  split
  · have h : (_ != ("super" : Str)) = true := h
    rw [h]
    simp
  · rfl
def isSlice : Expr → Bool
  | .Slice _ _ _ _ => true
  | _ => false
theorem plainIx_ok {b : Expr} (h : isSlice b = false) : PlainIx b := by
  intro o i
  cases b <;> first | rfl | cases h
def isSet : Expr → Bool
  | .Set _ _ _ => true
  | _ => false
theorem folded_ok {e : Expr} (h : isSet e = false) (env : Env) (x : Value) : foldedSetIterable e env x = pure x := by
  cases e <;> first | rfl | cases h
def isLc : Expr → Bool
  | .ListComp _ _ _ _ => true | .SetComp _ _ _ _ => true | .DictComp _ _ _ _ _ => true
  | _ => false
theorem swaps_plain {e : Expr} (h : isLc e = false) (t : Option Expr) (l : Nat) (env : Env) : swapsWith e t l env = pure false := by
  cases e <;> first | rfl | cases h
theorem swaps_sub {o i : Expr} {p : Pos} (e : Expr) (l : Nat) (env : Env) : swapsWith e (some (.Subscript o i p)) l env = pure false := by
  cases e <;> rfl
theorem swaps_tup {ts : List Expr} {k : Nat} {p : Pos} (e : Expr) (l : Nat) (env : Env) : swapsWith e (some (.Tuple ts k p)) l env = pure false := by
  cases e <;> rfl
def bkOf (sc : Scope) : ScopeKind := if sc.kind.isAnnotationScope then .function else sc.kind
/-- name = [..]: does the comprehension hand its list straight to the name -/
def lcSwap (sc : Scope) (y : Str) (py lp : Pos) (scope : Scope) : Bool := bkOf sc == .function && sc.names.lookup y == some .local && py.line == lp.line && !(scope.names.any fun (n, k) => n == y && (k == .local || k == .cell))
theorem lcSwap_ok {elt : Expr} {gs : List Comprehension} {scope : Scope} {lp py : Pos} {y : Str} {l : Nat} {env : Env} : swapsWith (.ListComp elt gs scope lp) (some (.Name y py)) l env = pure (lcSwap env.scope y py lp scope) := rfl
/-- a, b = x, y -/
def swS (sc : Scope) (ts vs : List Expr) : Option (Option (List Str)) :=
  if !(ts.length == 2 || ts.length == 3) || vs.length != ts.length || bkOf sc != .function then some none
  else if vs.any fun | .Starred .. => true | _ => false then some none
  else
    let line := (ts.head?.map (·.pos.line)).getD 0
    let names := ts.filterMap fun
      | .Name id pos => if sc.names.lookup id == some .local && pos.line == line then some id else none
      | _ => none
    if names.length != ts.length || names.eraseDups.length != names.length then some none
    else if vs.all (foldedForSure 8) then some none
    else if vs.all (constantsAlone 8) then none
    else some (some names)
theorem swS_ok {ts vs : List Expr} {k k2 : Nat} {p p2 : Pos} {env : Env} {r : Option (List Str)} (h : swS env.scope ts vs = some r) : swappedStores [.Tuple ts k p] (.Tuple vs k2 p2) env = pure r := by
  unfold swS at h
  unfold swappedStores
  split at h
  · rename_i c1
    cases h
    exact if_pos c1
  · rename_i c1
    refine Eq.trans (if_neg c1) ?_
    split at h
    · rename_i c2
      cases h
      exact if_pos c2
    · rename_i c2
      refine Eq.trans (if_neg c2) ?_
      dsimp only at h
      split at h
      · rename_i c3
        cases h
        exact if_pos c3
      · rename_i c3
        refine Eq.trans (if_neg c3) ?_
        split at h
        · rename_i c4
          cases h
          exact if_pos c4
        · rename_i c4
          refine Eq.trans (if_neg c4) ?_
          split at h
          · cases h
          · rename_i c5
            cases h
            exact if_neg c5
def isTup : Expr → Bool
  | .Tuple _ _ _ => true
  | _ => false
theorem sw_plainV {t e : Expr} (h : isTup e = false) (env : Env) : swappedStores [t] e env = pure none := by
  unfold swappedStores
  cases e <;> first | (cases t <;> rfl) | cases h
theorem sw_name {y : Str} {p : Pos} (e : Expr) (env : Env) : swappedStores [.Name y p] e env = pure none := by
  unfold swappedStores
  cases e <;> rfl
theorem sw_sub {o i : Expr} {p : Pos} (e : Expr) (env : Env) : swappedStores [.Subscript o i p] e env = pure none := by
  unfold swappedStores
  cases e <;> rfl
theorem asgE_one {t : Expr} (h : isStar t = false) (es : List Expr) (env : Env) : (assignEach (t :: es) env).map (·.2) = assign t env :: (assignEach es env).map (·.2) := by
  cases t <;> first | rfl | cases h
theorem asgE_len {env : Env} : ∀ es : List Expr, (assignEach es env).length = es.length
  | [] => rfl
  | t :: es => by
    have : (assignEach (t :: es) env).length = (assignEach es env).length + 1 := by cases t <;> rfl
    rw [this, asgE_len es]; rfl
theorem asgE_star {env : Env} : ∀ {es : List Expr}, es.all (fun e => !isStar e) = true → (assignEach es env).findIdx? (·.1) = none
  | [], _ => rfl
  | t :: es, h => by
    rw [List.all_cons, Bool.and_eq_true] at h
    have : assignEach (t :: es) env = (false, assign t env) :: assignEach es env := by
      have h1 : isStar t = false := by simpa using h.1
      cases t <;> first | rfl | cases h1
    rw [this, List.findIdx?_cons]
    simp only [Bool.false_eq_true, if_false]
    rw [asgE_star h.2]; rfl
/-! ### what is known where one stands -/
def btName : Str → Option Bt := fun x =>
  if x = "len" then some .len else if x = "int" then some .int else if x = "abs" then some .abs else if x = "ord" then some .ord else if x = "str" then some .str else if x = "tuple" then some .tuple
  else if x = "list" then some .list else if x = "sum" then some .sum else if x = "max" then some .max else if x = "min" then some .min else if x = "all" then some .all else if x = "any" then some .any else none
def tyName : Str → Option Ty := fun x =>
  if x = "int" then some .int else if x = "str" then some .str else if x = "tuple" then some .tuple else if x = "list" then some .list else if x = "bool" then some .bool else if x = "dict" then some .dict else none
def mtName (six : Bool) : Str → Option Mt := fun x =>
  if x = "append" then some .append else if x = "extend" then some .extend else if x = "pop" then some .pop else if x = "index" then some (if six = true then .sindex else .index) else if x = "join" then some .join else if x = "ljust" then some .ljust else none
/-- the program's names: its defs (by number), its constants, the built-in names that it does not hide -/
structure Tab where
  fns : List (Str × (Nat × List Str))
  cts : List (Str × PV)
  bts : List Str
  six : Bool := false
structure CC where
  N : List Str
  sc : Scope
  fn : Str → Bool
structure Glob (X : Cx) (G : Tab) (k : Nat) (c : Calls) : Prop where
  fns : ∀ x i ps, G.fns.lookup x = some (i, ps) → ∃ (f : Addr) (fd : FuncData), FnOk X.prog X.w X.K X.mg X.base CX0 k f fd ps (spI X.K ps.length (c i)) ∧ Takes1 ps.length (c i) ∧ X.mg x = some (.ref f) ∧ PySem.W.keepIn X.K (.ref f) = true ∧ Binds X.K fd ps [] ∧ KB fd ps
  cts : ∀ x v, G.cts.lookup x = some v → ∃ (u : Value) (w : V), X.mg x = some u ∧ RelV w u ∧ ∀ φ H, relV X.K φ H v w
  bts : ∀ x, G.bts.contains x = true → X.mg x = none
structure Ag (X : Cx) (c : CC) (k : Nat) : Prop where
  N : X.N = c.N
  nd : c.N.Nodup
  sc : X.env.scope = c.sc
  fn : ∀ x, c.fn x = true → X.fn x = true
  calm : X.calm = true
  room : Room k X.A
def isVis (sc : Scope) (x : Str) : Bool := match sc.names.lookup x with
  | some .local => true | some .cell => true | some .free => true | _ => false
def isGl (sc : Scope) (x : Str) : Bool := match sc.names.lookup x with
  | some .globalImplicit => true | _ => false
def isLoc (c : CC) (x : Str) : Bool := match c.sc.names.lookup x with
  | some .local => true | some .cell => c.fn x | _ => false
def slotOf (N : List Str) (x : Str) : Option Nat := match N.findIdx? (· == x) with
  | some i => if N[i]? = some x then some i else none
  | none => none
theorem slot_ok {N : List Str} {x : Str} {i : Nat} (h : slotOf N x = some i) : N[i]? = some x := by
  unfold slotOf at h
  split at h
  · split at h
    · rename_i e; cases h; exact e
    · cases h
  · cases h
section
variable {X : Cx} {c : CC} {k : Nat}
theorem vis_ok {sc : Scope} {x : Str} (h : isVis sc x = true) : Vis sc x := by
  unfold isVis at h
  split at h
  · rename_i e; exact .inl e
  · rename_i e; exact .inr (.inl e)
  · rename_i e; exact .inr (.inr e)
  · cases h
theorem gl_ok (A : Ag X c k) {x : Str} (h : isGl c.sc x = true) : Gl X x := by
  unfold isGl at h
  split at h
  · rename_i e
    show X.env.scope.names.lookup x = some .globalImplicit
    rw [A.sc]; exact e
  · cases h
theorem loc_ok (A : Ag X c k) {x : Str} (h : isLoc c x = true) : L2.Loc X.env.scope x ∧ (X.fn x = true ∨ X.env.scope.names.lookup x = some .local) := by
  unfold isLoc at h
  rw [A.sc]
  split at h
  · rename_i e; exact ⟨.inl e, .inr e⟩
  · rename_i e; exact ⟨.inr e, .inl (A.fn x h)⟩
  · cases h
end
/-! ### the translation -/
def okNm (x : Str) : Bool := !(x == ("__debug__" : Str)) && !(x == ("__classdict__" : Str)) && decide (x ≠ "__name__")
def cOwn (N : List Str) (scope : Scope) : List (Str × Nat) := scope.names.filterMap fun y => match y.2 with
  | .local => (slotOf N y.1).map fun i => (y.1, i)
  | .cell => (slotOf N y.1).map fun i => (y.1, i)
  | _ => none
def subC (c : CC) (scope : Scope) : CC := ⟨c.N, relS scope c.sc, fun x => scope.names.lookup x == some .cell⟩
def cPt (c : CC) : Nat → Expr → Option Pt
  | 0, _ => none
  | n + 1, e => match e with
    | .Name x _ => if isLoc c x = true then (slotOf c.N x).map .name else none
    | .Tuple es _ _ => if es.all (fun e => !isStar e) = true then (go n es).map .tup else none
    | _ => none
where go (n : Nat) : List Expr → Option Pt
  | [] => some .nil
  | e :: es => match cPt c n e, go n es with
    | some p, some ps => some (.cons p ps)
    | _, _ => none
variable (G : Tab)
/-- the one argument is range(..) -/
def isRg (sc : Scope) : List Expr → Bool
  | [.Call (.Name y _) _ [] _] => y == ("range" : Str) && isGl sc y
  | _ => false
mutual
def cE : Nat → CC → Expr → Option E
  | 0, _, _ => none
  | n + 1, c, e => match e with
    | .Name x _ => if okNm x = true then (if isVis c.sc x = true then (slotOf c.N x).map .var else if isGl c.sc x = true then (G.cts.lookup x).map .cst else none) else none
    | .Constant k _ _ => match k with
      | .int i => some (.cst (.int i)) | .bool b => some (.cst (.bl b)) | .none => some (.cst .non) | .str x => some (.cst (.str x.cps.toList)) | _ => none
    | .BinOp a op b _ => match cE n c a, cE n c b with
      | some A, some B => some (.bin op A B) | _, _ => none
    | .UnaryOp op a _ => match op, cE n c a with
      | .USub, some A => some (.neg A) | .Not, some A => some (.not A) | _, _ => none
    | .Compare a ops bs _ => match ops, bs with
      | [op], [b] => if behindInMarks op b = false then (match cE n c a, cE n c b with | some A, some B => some (.cmp op A B) | _, _ => none) else none
      | [op, op'], [b, d] => if lastMarks [op, op'] [b, d] = false then (match cE n c a, cE n c b, cE n c d with | some A, some B, some D => some (.chain op op' A B D) | _, _, _ => none) else none
      | _, _ => none
    | .BoolOp op es pos => match es with
      | [] => none
      | [a] => cE n c a
      | a :: b :: rest => match cE n c a, cE n c (.BoolOp op (b :: rest) pos) with
        | some A, some B => some (match op with | .And => .and A B | .Or => .or A B) | _, _ => none
    | .IfExp t a b _ => match cE n c t, cE n c a, cE n c b with
      | some D, some A, some B => some (.ite D A B) | _, _, _ => none
    | .Tuple es _ _ => (cEs n c es).map .tup
    | .List es _ => (cEs n c es).map .lst
    | .Subscript a i _ => match i with
      | .Slice lo hi none _ => match cE n c a, cO n c lo, cO n c hi with
        | some A, some L, some H => some (.sl A L H) | _, _, _ => none
      | i => if isSlice i = false then (match cE n c a, cE n c i with | some A, some I => some (.ix A I) | _, _ => none) else none
    | .Call f es kws cpos => match kws with
      | [] => match f with
        | .Name x _ => if okNm x = true ∧ isGl c.sc x = true then
            (match G.fns.lookup x with
            | some i => (cEs n c es).map (.call i.1)
            | none => if G.bts.contains x = true then
                (if (x = "list" ∨ x = "tuple") ∧ isRg c.sc es = true ∧ G.bts.contains ("range" : Str) = true ∧ G.fns.lookup ("range" : Str) = none then (match es with
                  | [.Call _ es2 _ _] => (match es2 with
                    | [a] => if isStar a = false then (cE n c a).map (.lrg (decide (x = "tuple")) .none) else none
                    | [a, b] => if isStar a = false ∧ isStar b = false then (match cE n c a, cE n c b with | some A, some B => some (.lrg (decide (x = "tuple")) (.some A) B) | _, _ => none) else none
                    | _ => none)
                  | _ => none)
                else if x = "isinstance" then (match es with
                  | [a, t] => (match t with
                    | .Name y _ => (match cE n c a, cTy c y with | some A, some T => if isStar a = false then some (.isi A [T]) else none | _, _ => none)
                    | .Tuple ns _ _ => (match cE n c a, cTys c ns with | some A, some Ts => if isStar a = false ∧ Ts.length ≤ 10 then some (.isi A Ts) else none | _, _ => none)
                    | _ => none)
                  | _ => none)
                else match es with
                  | [] => none
                  | a :: r => match btName x, cEs n c (a :: r) with | some b, some Es => some (.bt b Es) | _, _ => none)
              else none) else none
        | .Attribute o name apos => if plainBase o = true ∧ (apos.endLine == cpos.line) = true ∧ es.length < 29 then
            (match mtName G.six name, cE n c o, cEs n c es with | some m, some O, some Es => some (.mt m O Es) | _, _, _ => none) else none
        | _ => none
      | kw :: kws => match f, es with
        | .Name x _, [] => if okNm x = true ∧ isGl c.sc x = true then
            (match G.fns.lookup x with
            | some i => if (kw :: kws).map (·.arg) = i.2.map some then (cEs n c ((kw :: kws).map (·.value))).map (.call i.1) else none
            | none => none) else none
        | _, _ => none
    | .ListComp elt gs scope _ => match gs with
      | [⟨tg, iter, ifs, 0⟩] => if blkC c.N c.sc scope (cOwn c.N scope) = true ∧ isSet iter = false then
          (match cI n c (isTup tg) iter, cPt (subC c scope) n tg, cC n (subC c scope) ifs, cE n (subC c scope) elt with
          | some I, some p, some t, some L => if p.slots.all (fun i => decide (i ∈ (cOwn c.N scope).map (·.2))) = true then some (.lc ((cOwn c.N scope).map (·.2)) I p t L) else none
          | _, _, _, _ => none) else none
      | _ => none
    | _ => none
def cEs : Nat → CC → List Expr → Option Es
  | 0, _, _ => none
  | n + 1, c, es => match es with
    | [] => some .nil
    | e :: r => if isStar e = false then (match cE n c e, cEs n c r with | some A, some R => some (.cons A R) | _, _ => none) else none
def cO : Nat → CC → Option Expr → Option Oe
  | 0, _, _ => none
  | n + 1, c, o => match o with
    | none => some .none
    | some e => (cE n c e).map .some
def cC : Nat → CC → List Expr → Option Oe
  | 0, _, _ => none
  | n + 1, c, o => match o with
    | [] => some .none
    | [e] => (cE n c e).map .some
    | _ => none
def cTy (c : CC) (y : Str) : Option Ty := if okNm y = true ∧ isGl c.sc y = true ∧ G.bts.contains y = true then tyName y else none
def cTys (c : CC) : List Expr → Option (List Ty)
  | [] => some []
  | e :: r => match e with
    | .Name y _ => match cTy c y, cTys c r with | some t, some ts => some (t :: ts) | _, _ => none
    | _ => none
def cI : Nat → CC → Bool → Expr → Option It
  | 0, _, _, _ => none
  | n + 1, c, tp, e => match e with
    | .Call f es kws pos => match f, kws with
      | .Name x _, [] => if x = "range" then (if isGl c.sc x = true ∧ G.bts.contains x = true ∧ G.fns.lookup x = none ∧ 1 ≤ es.length ∧ es.length ≤ 3 then (cEs n c es).map .rng else none)
        else if x = "enumerate" ∧ tp = true then (if isGl c.sc x = true ∧ G.bts.contains x = true then (match es with
          | [a] => if isStar a = false then (cE n c a).map .enu else none
          | _ => none) else none)
        else (cE n c (.Call f es kws pos)).map .e
      | f, kws => (cE n c (.Call f es kws pos)).map .e
    | e => (cE n c e).map .e
end
end Mp

/-! Mp9: the translation of expressions is sound. -/
namespace Mp
open PySem PySem.Spec PyProof.Rows L2

section
variable {X : Cx} {pos p : Pos} {a : Expr} {es : List Expr} {fs : Loc → Store → Res (List PV)}
set_option maxHeartbeats 4000000 in
theorem bt_call {x : Str} {b : Bt} (h : btName x = some b) (hc : X.calm = true) (hg : Gl X x) (hm : X.mg x = none) (ha : PAI X (a :: es) fs) (hs : isStar a = false) (hss : es.all (fun e => !isStar e) = true) :
    PEI X (.Call (.Name x p) (a :: es) [] pos) (fun ρ S => (fs ρ S).bind fun xs S1 => btF b xs S1) := by
  unfold btName at h
  split at h
  · rename_i e; subst e; cases h; exact pei_callB call_lenF hg hm (by decide +kernel) ha (by decide +kernel) (by decide +kernel) (star_one hs _ _) (star_none hss)
  split at h
  · rename_i e; subst e; cases h; exact pei_callTy call_intF hg hm (by decide +kernel) ha (by decide +kernel) (by decide +kernel) (star_one hs _ _) (star_none hss)
  split at h
  · rename_i e; subst e; cases h; exact pei_callB call_absF hg hm (by decide +kernel) ha (by decide +kernel) (by decide +kernel) (star_one hs _ _) (star_none hss)
  split at h
  · rename_i e; subst e; cases h; exact pei_callB call_ordF hg hm (by decide +kernel) ha (by decide +kernel) (by decide +kernel) (star_one hs _ _) (star_none hss)
  split at h
  · rename_i e; subst e; cases h; exact pei_callTy call_strF hg hm (by decide +kernel) ha (by decide +kernel) (by decide +kernel) (star_one hs _ _) (star_none hss)
  split at h
  · rename_i e; subst e; cases h; exact pei_callTy call_tupleF hg hm (by decide +kernel) ha (by decide +kernel) (by decide +kernel) (star_one hs _ _) (star_none hss)
  split at h
  · rename_i e; subst e; cases h; exact pei_callTy call_listF hg hm (by decide +kernel) ha (by decide +kernel) (by decide +kernel) (star_one hs _ _) (star_none hss)
  split at h
  · rename_i e; subst e; cases h; exact pei_callB (call_sumF hc) hg hm (by decide +kernel) ha (by decide +kernel) (by decide +kernel) (star_one hs _ _) (star_none hss)
  split at h
  · rename_i e; subst e; cases h; exact pei_callB (call_maxF hc) hg hm (by decide +kernel) ha (by decide +kernel) (by decide +kernel) (star_one hs _ _) (star_none hss)
  split at h
  · rename_i e; subst e; cases h; exact pei_callB (call_minF hc) hg hm (by decide +kernel) ha (by decide +kernel) (by decide +kernel) (star_one hs _ _) (star_none hss)
  split at h
  · rename_i e; subst e; cases h; exact pei_callB (call_allF hc) hg hm (by decide +kernel) ha (by decide +kernel) (by decide +kernel) (star_one hs _ _) (star_none hss)
  split at h
  · rename_i e; subst e; cases h; exact pei_callB (call_anyF hc) hg hm (by decide +kernel) ha (by decide +kernel) (by decide +kernel) (star_one hs _ _) (star_none hss)
  · cases h
set_option maxHeartbeats 4000000 in
theorem mt_call {six : Bool} {x : Str} {m : Mt} {o : Expr} {fo : Loc → Store → Res PV} {apos : Pos} (h : mtName six x = some m) (ho : PEI X o fo) (ha : PAI X es fs) (hss : es.all (fun e => !isStar e) = true) (hb : plainBase o = true) (hl : (apos.endLine == pos.line) = true) (hn : es.length < 29)
    (hnil : es = [] → fs = fun _ S => .ok [] S) :
    PEI X (.Call (.Attribute o x apos) es [] pos) (fun ρ S => (fo ρ S).bind fun x S1 => if tyOf S1 x = some (mtTy m) then (fs ρ S1).bind fun xs S2 => mtF m x xs S2 else .bad) := by
  cases es with
  | nil =>
    rw [hnil rfl]
    unfold mtName at h
    split at h
    · rename_i e; subst e; cases h; exact pei_mt0 (T := .list) PySem.F.plainAttrs_list PySem.F.slot_list_append PySem.F.type_list_append mt_appendM ho (.inl rfl) (base_ok hb _ _) hl
    split at h
    · rename_i e; subst e; cases h; exact pei_mt0 (T := .list) PySem.F.plainAttrs_list PySem.F.slot_list_extend PySem.F.type_list_extend mt_extendM ho (.inl rfl) (base_ok hb _ _) hl
    split at h
    · rename_i e; subst e; cases h; exact pei_mt0 (T := .list) PySem.F.plainAttrs_list PySem.F.slot_list_pop PySem.F.type_list_pop mt_popM ho (.inl rfl) (base_ok hb _ _) hl
    split at h
    · rename_i e
      subst e
      cases six with
      | false => cases h; exact pei_mt0 (T := .list) PySem.F.plainAttrs_list PySem.F.slot_list_index PySem.F.type_list_index mt_indexM ho (.inl rfl) (base_ok hb _ _) hl
      | true => cases h; exact pei_mt0 (T := .str) PySem.F.plainAttrs_str PySem.F.slot_str_index PySem.F.type_str_index mt_sindexM ho (.inr rfl) (base_ok hb _ _) hl
    split at h
    · rename_i e; subst e; cases h; exact pei_mt0 (T := .str) PySem.F.plainAttrs_str PySem.F.slot_str_join PySem.F.type_str_join mt_joinM ho (.inr rfl) (base_ok hb _ _) hl
    split at h
    · rename_i e; subst e; cases h; exact pei_mt0 (T := .str) PySem.F.plainAttrs_str PySem.F.slot_str_ljust PySem.F.type_str_ljust mt_ljustM ho (.inr rfl) (base_ok hb _ _) hl
    · cases h
  | cons a es =>
    have hs : isStar a = false := by
      rw [List.all_cons, Bool.and_eq_true] at hss; simpa using hss.1
    have hr : es.all (fun e => !isStar e) = true := by
      rw [List.all_cons, Bool.and_eq_true] at hss; exact hss.2
    unfold mtName at h
    split at h
    · rename_i e; subst e; cases h; exact pei_mt (T := .list) PySem.F.plainAttrs_list PySem.F.slot_list_append PySem.F.type_list_append mt_appendM ho ha (.inl rfl) (base_ok hb _ _) (few_ok hss hn) hl (star_one hs _ _) (star_none hr)
    split at h
    · rename_i e; subst e; cases h; exact pei_mt (T := .list) PySem.F.plainAttrs_list PySem.F.slot_list_extend PySem.F.type_list_extend mt_extendM ho ha (.inl rfl) (base_ok hb _ _) (few_ok hss hn) hl (star_one hs _ _) (star_none hr)
    split at h
    · rename_i e; subst e; cases h; exact pei_mt (T := .list) PySem.F.plainAttrs_list PySem.F.slot_list_pop PySem.F.type_list_pop mt_popM ho ha (.inl rfl) (base_ok hb _ _) (few_ok hss hn) hl (star_one hs _ _) (star_none hr)
    split at h
    · rename_i e
      subst e
      cases six with
      | false => cases h; exact pei_mt (T := .list) PySem.F.plainAttrs_list PySem.F.slot_list_index PySem.F.type_list_index mt_indexM ho ha (.inl rfl) (base_ok hb _ _) (few_ok hss hn) hl (star_one hs _ _) (star_none hr)
      | true => cases h; exact pei_mt (T := .str) PySem.F.plainAttrs_str PySem.F.slot_str_index PySem.F.type_str_index mt_sindexM ho ha (.inr rfl) (base_ok hb _ _) (few_ok hss hn) hl (star_one hs _ _) (star_none hr)
    split at h
    · rename_i e; subst e; cases h; exact pei_mt (T := .str) PySem.F.plainAttrs_str PySem.F.slot_str_join PySem.F.type_str_join mt_joinM ho ha (.inr rfl) (base_ok hb _ _) (few_ok hss hn) hl (star_one hs _ _) (star_none hr)
    split at h
    · rename_i e; subst e; cases h; exact pei_mt (T := .str) PySem.F.plainAttrs_str PySem.F.slot_str_ljust PySem.F.type_str_ljust mt_ljustM ho ha (.inr rfl) (base_ok hb _ _) (few_ok hss hn) hl (star_one hs _ _) (star_none hr)
    · cases h
end
/-! ### the evaluator's rows -/
section
variable (c : Calls)
theorem ev_var (i : Nat) : evE c (.var i) = fun ρ S => getL ρ i S := by funext ρ S; simp only [evE]
theorem ev_cst (v : PV) : evE c (.cst v) = fun _ S => .ok v S := by funext ρ S; simp only [evE]
theorem ev_bin (op : Operator) (a b : E) : evE c (.bin op a b) = fun ρ S => (evE c a ρ S).bind fun x S1 => (evE c b ρ S1).bind fun y S2 => binV op x y S2 := by funext ρ S; simp only [evE]
theorem ev_neg (a : E) : evE c (.neg a) = fun ρ S => (evE c a ρ S).bind fun x S1 => negV x S1 := by funext ρ S; simp only [evE]
theorem ev_cmp (op : CmpOp) (a b : E) : evE c (.cmp op a b) = fun ρ S => (evE c a ρ S).bind fun x S1 => (evE c b ρ S1).bind fun y S2 => cmpV op x y S2 := by funext ρ S; simp only [evE]
theorem ev_chain (op op' : CmpOp) (a b d : E) : evE c (.chain op op' a b d) = fun ρ S => (evE c a ρ S).bind fun x S1 => (evE c b ρ S1).bind fun y S2 => (cmpV op x y S2).bind fun z S3 => match z with
    | .bl true => (evE c d ρ S3).bind fun w S4 => cmpV op' y w S4
    | .bl false => .ok (.bl false) S3
    | _ => .bad := by funext ρ S; simp only [evE] <;> rfl
theorem ev_and (a b : E) : evE c (.and a b) = fun ρ S => (evE c a ρ S).bind fun x S1 => (tru x S1).bind fun t S2 => if t = true then evE c b ρ S2 else .ok x S2 := by funext ρ S; simp only [evE]
theorem ev_or (a b : E) : evE c (.or a b) = fun ρ S => (evE c a ρ S).bind fun x S1 => (tru x S1).bind fun t S2 => if t = true then .ok x S2 else evE c b ρ S2 := by funext ρ S; simp only [evE]
theorem ev_not (a : E) : evE c (.not a) = fun ρ S => (evE c a ρ S).bind fun x S1 => (tru x S1).bind fun t S2 => .ok (.bl (!t)) S2 := by funext ρ S; simp only [evE]
theorem ev_ite (d a b : E) : evE c (.ite d a b) = fun ρ S => (evE c d ρ S).bind fun x S1 => (tru x S1).bind fun t S2 => if t = true then evE c a ρ S2 else evE c b ρ S2 := by funext ρ S; simp only [evE]
theorem ev_tup (es : Es) : evE c (.tup es) = fun ρ S => (evEs c es ρ S).bind fun xs S1 => if xs.length ≤ lim then .ok (.tup xs) S1 else .bad := by funext ρ S; simp only [evE]
theorem ev_lst (es : Es) : evE c (.lst es) = fun ρ S => (evEs c es ρ S).bind fun xs S1 => if xs.length ≤ lim then .ok (.ref S1.length) (S1 ++ [.lst xs]) else .bad := by funext ρ S; simp only [evE]
theorem ev_ix (a b : E) : evE c (.ix a b) = fun ρ S => (evE c a ρ S).bind fun x S1 => (evE c b ρ S1).bind fun y S2 => ixV x y S2 := by funext ρ S; simp only [evE]
theorem ev_sl (a : E) (lo hi : Oe) : evE c (.sl a lo hi) = fun ρ S => (evE c a ρ S).bind fun x S1 => (evO c lo ρ S1).bind fun l S2 => (evO c hi ρ S2).bind fun h S3 => slV x l h S3 := by funext ρ S; simp only [evE]
theorem ev_call (f : Nat) (es : Es) : evE c (.call f es) = fun ρ S => (evEs c es ρ S).bind fun xs S1 => c f xs S1 := by funext ρ S; simp only [evE]
theorem ev_bt (b : Bt) (es : Es) : evE c (.bt b es) = fun ρ S => (evEs c es ρ S).bind fun xs S1 => btF b xs S1 := by funext ρ S; simp only [evE]
theorem ev_mt (m : Mt) (o : E) (es : Es) : evE c (.mt m o es) = fun ρ S => (evE c o ρ S).bind fun x S1 => if tyOf S1 x = some (mtTy m) then (evEs c es ρ S1).bind fun xs S2 => mtF m x xs S2 else .bad := by funext ρ S; simp only [evE]
theorem ev_isi (a : E) (ts : List Ty) : evE c (.isi a ts) = fun ρ S => (evE c a ρ S).bind fun x S1 => isiF ts x S1 := by funext ρ S; simp only [evE]
theorem ev_lc (own : List Nat) (it : It) (tg : Pt) (d : Oe) (elt : E) : evE c (.lc own it tg d elt) = fun ρ S => (evI c it ρ S).bind fun r S1 =>
    (lcN r (fun x S2 => (asPR tg x (wipeL ρ own) S2).bind fun ρ1 S3 => (evC c d ρ1 S3).bind fun t S4 => if t = true then (evE c elt ρ1 S4).bind fun y S5 => .ok (some y) S5 else .ok none S4) (r.len S1 + 1) 0 [] S1).bind
      fun ys S6 => .ok (.ref S6.length) (S6 ++ [.lst ys]) := by funext ρ S; simp only [evE]
theorem ev_lrg (tp : Bool) (lo : Oe) (hi : E) : evE c (.lrg tp lo hi) = fun ρ S => (evO c lo ρ S).bind fun l S1 => (evE c hi ρ S1).bind fun y S2 => lrgV tp l y S2 := by funext ρ S; simp only [evE]
theorem ev_nil : evEs c .nil = fun _ S => .ok [] S := by funext ρ S; simp only [evEs]
theorem ev_cons (e : E) (es : Es) : evEs c (.cons e es) = fun ρ S => (evE c e ρ S).bind fun x S1 => (evEs c es ρ S1).bind fun xs S2 => .ok (x :: xs) S2 := by funext ρ S; simp only [evEs]
theorem ev_onone : evO c .none = fun _ S => .ok none S := by funext ρ S; simp only [evO]
theorem ev_osome (e : E) : evO c (.some e) = fun ρ S => (evE c e ρ S).bind fun x S1 => partV x S1 := by funext ρ S; simp only [evO]
theorem ev_cnone : evC c .none = fun _ S => .ok true S := by funext ρ S; simp only [evC]
theorem ev_csome (e : E) : evC c (.some e) = asT (evE c e) := by funext ρ S; simp only [evC, asT]
theorem ev_ie (e : E) : evI c (.e e) = fun ρ S => (evE c e ρ S).bind fun x S1 => iterV x S1 := by funext ρ S; simp only [evI]
theorem ev_enu (a : E) : evI c (.enu a) = fun ρ S => (evE c a ρ S).bind fun x S1 => enuV x S1 := by funext ρ S; simp only [evI]
theorem ev_rng (es : Es) : evI c (.rng es) = fun ρ S => (evEs c es ρ S).bind fun xs S1 => rngV xs S1 := by funext ρ S; simp only [evI]
end
/-! ### patterns -/
theorem Ag.cal {X : Cx} {c : CC} {k : Nat} (A : Ag X c k) {x : Str} {i : Nat} (h : slotOf c.N x = some i) : X.N[i]? = some x := by rw [A.N]; exact slot_ok h
theorem cPt_go_nil (c : CC) (n : Nat) : cPt.go c n [] = some .nil := by unfold cPt.go; rfl
theorem pt_sound {X : Cx} {c : CC} {k : Nat} (A : Ag X c k) : ∀ (n : Nat) (e : Expr) (p : Pt), cPt c n e = some p → PG X e (gP X.K p)
  | 0, _, _, h => by unfold cPt at h; cases h
  | n + 1, e, p, h => by
    unfold cPt at h
    split at h
    · split at h
      · rename_i hl
        obtain ⟨i, hi, rfl⟩ := Option.map_eq_some_iff.mp h
        obtain ⟨h1, h2⟩ := loc_ok A hl
        exact pgp_name (by rw [A.N]; exact A.nd) (A.cal hi) h1 h2
      · cases h
    · rename_i es _ _
      split at h
      · rename_i hs
        obtain ⟨ps, hp, rfl⟩ := Option.map_eq_some_iff.mp h
        have key : ∀ (es : List Expr) (ps : Pt), cPt.go c n es = some ps → es.all (fun e => !isStar e) = true → PGs X es (gPs X.K ps) ∧ ps.cnt = es.length := by
          intro es
          induction es with
          | nil => intro ps h _; rw [cPt_go_nil] at h; cases h; exact ⟨pgps_nil, rfl⟩
          | cons a r ih =>
            intro ps h hs
            unfold cPt.go at h
            split at h
            · rename_i q qs h1 h2
              cases h
              rw [List.all_cons, Bool.and_eq_true] at hs
              obtain ⟨g1, g2⟩ := ih _ h2 hs.2
              exact ⟨pgps_cons (pt_sound A n a q h1) g1 (asgE_one (by simpa using hs.1) _ _), by simp [Pt.cnt, g2]⟩
            · cases h
        obtain ⟨g1, g2⟩ := key es ps hp hs
        exact pgp_tup A.calm g1 (by rw [asgE_len, g2]) (asgE_star hs)
      · cases h
    · cases h
/-! ### expressions -/
structure Snd (G : Tab) (n : Nat) : Prop where
  e : ∀ c e E, cE G n c e = some E → ∀ X k cl, Ag X c k → Glob X G k cl → PEI X e (evE cl E) ∧ PTI X e (asT (evE cl E))
  es : ∀ c es Es, cEs G n c es = some Es → ∀ X k cl, Ag X c k → Glob X G k cl → PAI X es (evEs cl Es)
  o : ∀ c o O, cO G n c o = some O → ∀ X k cl, Ag X c k → Glob X G k cl → POI X o (evO cl O)
  c : ∀ c o O, cC G n c o = some O → ∀ X k cl, Ag X c k → Glob X G k cl → PTsI X o (evC cl O)
  i : ∀ c tp e I, cI G n c tp e = some I → ∀ X k cl, Ag X c k → Glob X G k cl → ∀ tg, (tp = true → isTup tg = true) → PII X tg e (evI cl I)
  ks : ∀ c (kws : List Keyword) Es, cEs G n c (kws.map (·.value)) = some Es → ∀ X k cl, Ag X c k → Glob X G k cl → PK X kws (tIA X.K (evEs cl Es))
  star : ∀ c es Es, cEs G n c es = some Es → es.all (fun e => !isStar e) = true
  b : ∀ c op a rest pos E, cE G n c (.BoolOp op (a :: rest) pos) = some E → ∀ X k cl, Ag X c k → Glob X G k cl → PWI X (.BoolOp op (a :: rest) pos) (evE cl E)
/-- the length of what an argument list gives -/
def Es.len : Es → Nat
  | .nil => 0
  | .cons _ es => es.len + 1
theorem evEs_len {cl : Calls} : ∀ {es : Es} {ρ : Loc} {S S' : Store} {xs : List PV}, evEs cl es ρ S = .ok xs S' → xs.length = es.len
  | .nil, _, _, _, _, h => by unfold evEs at h; cases h; rfl
  | .cons e es, _, _, _, _, h => by
    unfold evEs at h
    obtain ⟨x, S1, _, h2⟩ := bind_inv h
    obtain ⟨ys, S2, h3, h4⟩ := bind_inv h2
    cases h4
    simp [Es.len, evEs_len h3]
theorem PI.imp {X : Cx} {tg e : Expr} {t t' : TI} (h : PI X tg e t) (i : ∀ σ H Q, t' σ H Q → t σ H Q) : PI X tg e t' := ⟨fun pins s σ H Q I q => h.run pins s σ H Q I (i _ _ _ q)⟩
theorem len_if {cl : Calls} {es : Es} {n : Nat} (h : es.len = n) (ρ : Loc) (S : Store) : ((evEs cl es ρ S).bind fun xs S1 => rngV xs S1) = (evEs cl es ρ S).bind fun xs S1 => if xs.length = n then rngV xs S1 else .bad := by
  cases e : evEs cl es ρ S with
  | ok xs S1 =>
    simp only [Res.bind_ok]
    rw [if_pos (by rw [evEs_len e, h])]
  | exc => rfl
  | bad => rfl
theorem blk_ag {X : Cx} {c : CC} {k : Nat} {scope : Scope} (A : Ag X c k) (s : Shared) (H : Hp) (C : Addr) (cl : List (Str × Addr)) (fp : List Addr) : Ag (X.blk s H scope (compEnvC scope cl C X.env) fp) (subC c scope) k where
  N := A.N
  nd := A.nd
  sc := by
    show relS scope X.env.scope = relS scope c.sc
    rw [A.sc]
  fn := fun x h => h
  calm := A.calm
  room := A.room
theorem blk_glob {X : Cx} {G : Tab} {k : Nat} {cls : Calls} {scope : Scope} (A : Glob X G k cls) (s : Shared) (H : Hp) (C : Addr) (cl : List (Str × Addr)) (fp : List Addr) : Glob (X.blk s H scope (compEnvC scope cl C X.env) fp) G k cls where
  fns := A.fns
  cts := A.cts
  bts := A.bts
theorem ty_ok {G : Tab} {X : Cx} {c : CC} {k : Nat} {cl : Calls} (A : Ag X c k) (B : Glob X G k cl) {y : Str} {t : Ty} (h : cTy G c y = some t) : TyName X y t := by
  unfold cTy at h
  split at h
  · rename_i hc
    have h1 := hc.1
    unfold okNm at h1
    simp only [Bool.and_eq_true, Bool.not_eq_true', decide_eq_true_eq] at h1
    refine ⟨gl_ok A hc.2.1, B.bts _ hc.2.2, ?_, h1.2, h1.1.1⟩
    unfold tyName at h
    split at h
    · rename_i e; subst e; cases h; decide +kernel
    split at h
    · rename_i e; subst e; cases h; decide +kernel
    split at h
    · rename_i e; subst e; cases h; decide +kernel
    split at h
    · rename_i e; subst e; cases h; decide +kernel
    split at h
    · rename_i e; subst e; cases h; decide +kernel
    split at h
    · rename_i e; subst e; cases h; decide +kernel
    · cases h
  · cases h
theorem tys_ok {G : Tab} {X : Cx} {c : CC} {k : Nat} {cl : Calls} (A : Ag X c k) (B : Glob X G k cl) : ∀ {es : List Expr} {ts : List Ty}, cTys G c es = some ts → TyNames X es ts
  | [], _, h => by unfold cTys at h; cases h; exact .nil
  | e :: r, _, h => by
    unfold cTys at h
    split at h
    · split at h
      · rename_i t ts h1 h2
        cases h
        exact .cons (ty_ok A B h1) (tys_ok A B h2)
      · cases h
    · cases h
theorem nm_ok {x : Str} (h : okNm x = true) : (x == ("__debug__" : Str)) = false ∧ (x == ("__classdict__" : Str)) = false ∧ x ≠ "__name__" := by
  unfold okNm at h
  simp only [Bool.and_eq_true, Bool.not_eq_true', decide_eq_true_eq] at h
  exact ⟨h.1.1, h.1.2, h.2⟩
theorem pti_of {X : Cx} {e : Expr} {f : Loc → Store → Res PV} (h : PEI X e f) (he : ∀ whole, isTrue e X.env whole = (do let v ← whole; standAt e.pos; holding [v] (truthy v))) : PEI X e f ∧ PTI X e (asT f) := ⟨h, pti_truth h he⟩
theorem snd_zero (G : Tab) : Snd G 0 where
  e := fun _ _ _ h => by unfold cE at h; cases h
  es := fun _ _ _ h => by unfold cEs at h; cases h
  o := fun _ _ _ h => by unfold cO at h; cases h
  c := fun _ _ _ h => by unfold cC at h; cases h
  i := fun _ _ _ _ h => by unfold cI at h; cases h
  ks := fun _ _ _ h => by unfold cEs at h; cases h
  star := fun _ _ _ h => by unfold cEs at h; cases h
  b := fun _ _ _ _ _ _ h => by unfold cE at h; cases h
theorem sound_call {G : Tab} {n : Nat} (ih : Snd G n) {c : CC} {x : Str} {np cpos : Pos} {es : List Expr} {E1 : E} (h : cE G (n + 1) c (.Call (.Name x np) es [] cpos) = some E1) {X : Cx} {k : Nat} {cl : Calls} (A : Ag X c k) (B : Glob X G k cl) : PEI X (.Call (.Name x np) es [] cpos) (evE cl E1) := by
  unfold cE at h
  dsimp only at h
  split at h
  · rename_i hx
    obtain ⟨n1, n2, n3⟩ := nm_ok hx.1
    have hg := gl_ok A hx.2
    split at h
    · rename_i i hi
      obtain ⟨Es, he, rfl⟩ := Option.map_eq_some_iff.mp h
      obtain ⟨f, fd, F, hl, hm, hk, hb, _⟩ := B.fns x i.1 i.2 hi
      cases es with
      | nil =>
        have : Es = .nil := by
          cases n with
          | zero => unfold cEs at he; cases he
          | succ n => unfold cEs at he; cases he; rfl
        subst this
        rw [ev_call]
        exact PE.imp (pei_call0 F hl A.room hg hm hk hb n1) fun σ H Q ⟨φ, ρ, S, r, S', R, L, e, P⟩ => ⟨φ, ρ, S, r, S', R, L, by rw [← e]; simp only [evEs], P⟩
      | cons a r =>
        have hs := ih.star c _ _ he
        rw [List.all_cons, Bool.and_eq_true] at hs
        rw [ev_call]
        exact pei_call F hl A.room hg hm hk hb (ih.es c _ _ he X k cl A B) n1 (star_one (by simpa using hs.1) _ _) (star_none hs.2)
    · split at h
      · rename_i hbt
        have hm := B.bts _ hbt
        split at h
        · rename_i hrg
          obtain ⟨hnm, hr, hbr, hfr⟩ := hrg
          have hmr := B.bts _ hbr
          have hname : x = (if (decide (x = ("tuple" : Str))) = true then ("tuple" : Str) else "list") := by
            rcases hnm with rfl | rfl <;> decide +kernel
          split at h
          · rename_i f2 es2 kw2 p2
            unfold isRg at hr
            split at hr
            · rename_i heq
              injection heq with heq _
              injection heq with q1 q2 q3 q4
              subst q1 q3
              obtain ⟨hy, hgy⟩ := (Bool.and_eq_true ..).mp hr
              have hy := eq_of_beq hy
              subst hy
              have hgr := gl_ok A hgy
              split at h
              · rename_i a
                split at h
                · rename_i hst
                  obtain ⟨A1, h1, rfl⟩ := Option.map_eq_some_iff.mp h
                  rw [ev_lrg, ev_onone]
                  exact pei_lrg1 hname A.calm hg hm hgr hmr (ih.e _ _ _ h1 X k cl A B).1 (star_one hst _ _)
                · cases h
              · rename_i a b
                split at h
                · rename_i hst
                  split at h
                  · rename_i A1 B1 h1 h2
                    cases h
                    rw [ev_lrg, ev_osome]
                    exact pei_lrg2 hname A.calm hg hm hgr hmr (ih.e _ _ _ h1 X k cl A B).1 (ih.e _ _ _ h2 X k cl A B).1 (star_one hst.1 _ _) (star_one hst.2 _ _) (star_none (by rw [List.all_cons, hst.2]; rfl))
                  · cases h
                · cases h
              · cases h
            · cases hr
          · cases h
        split at h
        · rename_i e
          subst e
          split at h
          · split at h
            · split at h
              · rename_i A1 T1 h1 h2
                split at h
                · rename_i hst
                  cases h
                  rw [ev_isi]
                  exact pei_isi1 (ih.e _ _ _ h1 X k cl A B).1 (ty_ok A B h2) hg hm (star_one hst _ _)
                · cases h
              · cases h
            · split at h
              · rename_i A1 T1 h1 h2
                split at h
                · rename_i hst
                  cases h
                  rw [ev_isi]
                  exact pei_isiT (ih.e _ _ _ h1 X k cl A B).1 (tys_ok A B h2) hst.2 hg hm (star_one hst.1 _ _)
                · cases h
              · cases h
            · cases h
          · cases h
        · split at h
          · cases h
          · split at h
            · rename_i b Es hb he
              cases h
              have hs := ih.star c _ _ he
              rw [List.all_cons, Bool.and_eq_true] at hs
              rw [ev_bt]
              exact bt_call hb A.calm hg hm (ih.es c _ _ he X k cl A B) (by simpa using hs.1) hs.2
            · cases h
      · cases h
  · cases h
end Mp

/-! Mp10: the translation of expressions is sound: all at once. -/
namespace Mp
open PySem PySem.Spec PyProof.Rows L2

theorem sound_call2 {G : Tab} {n : Nat} (ih : Snd G n) {c : CC} {f : Expr} {es : List Expr} {kws : List Keyword} {cpos : Pos} {E1 : E} (h : cE G (n + 1) c (.Call f es kws cpos) = some E1) {X : Cx} {k : Nat} {cl : Calls} (A : Ag X c k) (B : Glob X G k cl) : PEI X (.Call f es kws cpos) (evE cl E1) := by
  cases kws with
  | cons kw kws =>
    cases f with
    | Name x np =>
      cases es with
      | nil =>
        unfold cE at h
        dsimp only at h
        split at h
        · rename_i hx
          obtain ⟨n1, n2, n3⟩ := nm_ok hx.1
          have hg := gl_ok A hx.2
          split at h
          · rename_i i hi
            split at h
            · rename_i hks
              obtain ⟨Es, he, rfl⟩ := Option.map_eq_some_iff.mp h
              obtain ⟨f, fd, F, hl, hm, hk, _, hb⟩ := B.fns x i.1 i.2 hi
              rw [ev_call]
              exact pei_callK0 F hl A.room hg hm hk hb (ih.ks _ _ _ he X k cl A B) hks n1
            · cases h
          · cases h
        · cases h
      | cons _ _ => unfold cE at h; cases h
    | _ => unfold cE at h; cases h
  | nil =>
    cases f with
    | Name x np => exact sound_call ih h A B
    | Attribute o name apos =>
      unfold cE at h
      dsimp only at h
      split at h
      · rename_i hc
        split at h
        · rename_i m O Es h1 h2 h3
          cases h
          rw [ev_mt]
          refine mt_call h1 (ih.e _ _ _ h2 X k cl A B).1 (ih.es _ _ _ h3 X k cl A B) (ih.star _ _ _ h3) hc.1 hc.2.1 hc.2.2 fun e => ?_
          subst e
          have : Es = .nil := by
            cases n with
            | zero => unfold cEs at h3; cases h3
            | succ n => unfold cEs at h3; cases h3; rfl
          rw [this, ev_nil]
        · cases h
      · cases h
    | _ => simp only [cE] at h; cases h
theorem sound_bool {G : Tab} {n : Nat} (ih : Snd G n) {c : CC} {op : BoolOp} {a : Expr} {rest : List Expr} {pos : Pos} {E1 : E} (h : cE G (n + 1) c (.BoolOp op (a :: rest) pos) = some E1) {X : Cx} {k : Nat} {cl : Calls} (A : Ag X c k) (B : Glob X G k cl) :
    PEI X (.BoolOp op (a :: rest) pos) (evE cl E1) ∧ PWI X (.BoolOp op (a :: rest) pos) (evE cl E1) := by
  cases rest with
  | nil =>
    have h : cE G n c a = some E1 := by unfold cE at h; exact h
    obtain ⟨h1, h2⟩ := ih.e _ _ _ h X k cl A B
    refine ⟨pei_one h1, ?_⟩
    cases op with
    | And => exact pwi_and1 h2
    | Or => exact pwi_or1 h2
  | cons b rest =>
    unfold cE at h
    dsimp only at h
    split at h
    · rename_i A1 B1 h1 h2
      cases h
      obtain ⟨g1, g2⟩ := ih.e _ _ _ h1 X k cl A B
      obtain ⟨g3, _⟩ := ih.e _ _ _ h2 X k cl A B
      have g4 := ih.b _ _ _ _ _ _ h2 X k cl A B
      cases op with
      | And => rw [ev_and]; exact ⟨pei_and g1 g3, pwi_and g2 g4⟩
      | Or => rw [ev_or]; exact ⟨pei_or g1 g3, pwi_or g2 g4⟩
    · cases h
theorem cmp_hu {X : Cx} {c : CC} {k : Nat} (A : Ag X c k) : X.A.units + 100 < cLine := by have := A.room.un; omega
theorem sound_lc {G : Tab} {n : Nat} (ih : Snd G n) {c : CC} {elt tg iter : Expr} {ifs : List Expr} {scope : Scope} {lpos : Pos} {E1 : E} (h : cE G (n + 1) c (.ListComp elt [⟨tg, iter, ifs, 0⟩] scope lpos) = some E1) :
    ∃ I p t L, E1 = .lc ((cOwn c.N scope).map (·.2)) I p t L ∧ ∀ X k cl, Ag X c k → Glob X G k cl →
      (PII X tg iter (evI cl I) ∧ BlkOk X.N X.env.scope scope (cOwn c.N scope) ∧ (∀ i ∈ p.slots, i ∈ (cOwn c.N scope).map (·.2)) ∧
      (∀ (s : Shared) (H : Hp) (C : Addr) (ce : List (Str × Addr)) (fp : List Addr), PG (X.blk s H scope (compEnvC scope ce C X.env) fp) tg (gP X.K p)) ∧
      (∀ (s : Shared) (H : Hp) (C : Addr) (ce : List (Str × Addr)) (fp : List Addr), PTsI (X.blk s H scope (compEnvC scope ce C X.env) fp) ifs (evC cl t)) ∧
      (∀ (s : Shared) (H : Hp) (C : Addr) (ce : List (Str × Addr)) (fp : List Addr), PEI (X.blk s H scope (compEnvC scope ce C X.env) fp) elt (evE cl L)) ∧ (∀ x, foldedSetIterable iter X.env x = pure x)) := by
  unfold cE at h
  dsimp only at h
  split at h
  · rename_i heq
    cases heq
    split at h
    · rename_i hc
      split at h
      · rename_i I p t L h1 h2 h3 h4
        split at h
        · rename_i hp
          cases h
          refine ⟨I, p, t, L, rfl, fun X k cl A B => ⟨ih.i _ _ _ _ h1 X k cl A B tg (fun h => h), ?_, ?_, fun s H C ce fp => ?_, fun s H C ce fp => ?_, fun s H C ce fp => ?_, folded_ok hc.2 _⟩⟩
          · rw [A.N, A.sc]; exact blkOk_by hc.1
          · intro i hi
            exact of_decide_eq_true (List.all_eq_true.mp hp i hi)
          · exact pt_sound (blk_ag A s H C ce fp) n tg p h2
          · exact ih.c _ _ _ h3 _ k cl (blk_ag A s H C ce fp) (blk_glob B s H C ce fp)
          · exact (ih.e _ _ _ h4 _ k cl (blk_ag A s H C ce fp) (blk_glob B s H C ce fp)).1
        · cases h
      · cases h
    · cases h
  · cases h
theorem sound_e {G : Tab} {n : Nat} (ih : Snd G n) {c : CC} {e : Expr} {E1 : E} (h : cE G (n + 1) c e = some E1) {X : Cx} {k : Nat} {cl : Calls} (A : Ag X c k) (B : Glob X G k cl) : PEI X e (evE cl E1) ∧ PTI X e (asT (evE cl E1)) := by
  cases e with
  | Name x p =>
    refine pti_of ?_ fun _ => rfl
    unfold cE at h
    dsimp only at h
    split at h
    · rename_i hn
      obtain ⟨n1, n2, n3⟩ := nm_ok hn
      split at h
      · rename_i hv
        obtain ⟨i, hi, rfl⟩ := Option.map_eq_some_iff.mp h
        rw [ev_var]
        exact pei_var (A.cal hi) (by rw [A.sc]; exact vis_ok hv) n1 n2
      · split at h
        · rename_i hg
          obtain ⟨v, hv, rfl⟩ := Option.map_eq_some_iff.mp h
          rw [ev_cst]
          obtain ⟨u, w, h1, h2, h3⟩ := B.cts x v hv
          exact pei_cst (pe_glob (gl_ok A hg) h1 h2 n1) h3
        · cases h
    · cases h
  | Constant v j p =>
    refine pti_of ?_ fun _ => rfl
    unfold cE at h
    dsimp only at h
    split at h
    · cases h; rw [ev_cst]; exact pei_int
    · cases h; rw [ev_cst]; exact pei_bl
    · cases h; rw [ev_cst]; exact pei_non
    · cases h; rw [ev_cst]; exact pei_str
    · cases h
  | BinOp a op b p =>
    refine pti_of ?_ fun _ => rfl
    unfold cE at h
    dsimp only at h
    split at h
    · rename_i A1 B1 h1 h2
      cases h
      rw [ev_bin]
      exact pei_op (op_binV op) (ih.e _ _ _ h1 X k cl A B).1 (ih.e _ _ _ h2 X k cl A B).1
    · cases h
  | UnaryOp op a p =>
    unfold cE at h
    dsimp only at h
    split at h
    · rename_i A1 h1
      cases h
      refine pti_of ?_ fun _ => rfl
      rw [ev_neg]
      exact pei_neg (ih.e _ _ _ h1 X k cl A B).1
    · rename_i A1 h1
      cases h
      rw [ev_not]
      exact ⟨pei_not (ih.e _ _ _ h1 X k cl A B).1, pti_not (ih.e _ _ _ h1 X k cl A B).2⟩
    · cases h
  | Compare a ops bs p =>
    unfold cE at h
    dsimp only at h
    split at h
    · split at h
      · rename_i hm
        split at h
        · rename_i A1 B1 h1 h2
          cases h
          rw [ev_cmp]
          exact ⟨pei_cmp (op_cmpV (cmp_hu A) _) (ih.e _ _ _ h1 X k cl A B).1 (ih.e _ _ _ h2 X k cl A B).1 hm, pti_cmp (bools_cmp _) (op_cmpV (cmp_hu A) _) (ih.e _ _ _ h1 X k cl A B).1 (ih.e _ _ _ h2 X k cl A B).1 hm⟩
        · cases h
      · cases h
    · split at h
      · rename_i hm
        split at h
        · rename_i A1 B1 D1 h1 h2 h3
          cases h
          rw [ev_chain]
          exact ⟨pei_chain (op_cmpV (cmp_hu A) _) (op_cmpV (cmp_hu A) _) (ih.e _ _ _ h1 X k cl A B).1 (ih.e _ _ _ h2 X k cl A B).1 (ih.e _ _ _ h3 X k cl A B).1 hm,
            pti_chain (bools_cmp _) (op_cmpV (cmp_hu A) _) (op_cmpV (cmp_hu A) _) (ih.e _ _ _ h1 X k cl A B).1 (ih.e _ _ _ h2 X k cl A B).1 (ih.e _ _ _ h3 X k cl A B).1 hm⟩
        · cases h
      · cases h
    · cases h
  | BoolOp op es p =>
    cases es with
    | nil => unfold cE at h; cases h
    | cons a rest =>
      obtain ⟨h1, h2⟩ := sound_bool ih h A B
      exact ⟨h1, h2.pti⟩
  | IfExp t a b p =>
    unfold cE at h
    dsimp only at h
    split at h
    · rename_i D1 A1 B1 h1 h2 h3
      cases h
      rw [ev_ite]
      exact ⟨pei_ite (ih.e _ _ _ h1 X k cl A B).2 (ih.e _ _ _ h2 X k cl A B).1 (ih.e _ _ _ h3 X k cl A B).1, pti_ite (ih.e _ _ _ h1 X k cl A B).2 (ih.e _ _ _ h2 X k cl A B).2 (ih.e _ _ _ h3 X k cl A B).2⟩
    · cases h
  | Tuple es j p =>
    refine pti_of ?_ fun _ => rfl
    unfold cE at h
    obtain ⟨Es, h1, rfl⟩ := Option.map_eq_some_iff.mp h
    rw [ev_tup]
    exact pei_tup (ih.es _ _ _ h1 X k cl A B)
  | List es p =>
    refine pti_of ?_ fun _ => rfl
    unfold cE at h
    obtain ⟨Es, h1, rfl⟩ := Option.map_eq_some_iff.mp h
    rw [ev_lst]
    exact pei_lst (ih.es _ _ _ h1 X k cl A B)
  | Subscript a i p =>
    refine pti_of ?_ fun _ => rfl
    unfold cE at h
    dsimp only at h
    split at h
    · split at h
      · rename_i A1 L1 H1 h1 h2 h3
        cases h
        rw [ev_sl]
        exact pei_sl (ih.e _ _ _ h1 X k cl A B).1 (ih.o _ _ _ h2 X k cl A B) (ih.o _ _ _ h3 X k cl A B)
      · cases h
    · split at h
      · rename_i hs
        split at h
        · rename_i A1 I1 h1 h2
          cases h
          rw [ev_ix]
          exact pei_ix (ih.e _ _ _ h1 X k cl A B).1 (ih.e _ _ _ h2 X k cl A B).1 (plainIx_ok hs)
        · cases h
      · cases h
  | Call f es kws p => exact pti_of (sound_call2 ih h A B) fun _ => rfl
  | ListComp elt gs scope p =>
    refine pti_of ?_ fun _ => rfl
    match gs, h with
    | [⟨tg, iter, ifs, 0⟩], h =>
      obtain ⟨I, q, t, L, rfl, hh⟩ := sound_lc ih h
      obtain ⟨h1, h2, h3, h4, h5, h6, h7⟩ := hh X k cl A B
      rw [ev_lc]
      exact (pei_lc A.calm (by rw [A.N]; exact A.nd) h1 h2 h3 h4 h5 h6 h7).1
    | [], h => unfold cE at h; cases h
    | ⟨_, _, _, .ofNat (_ + 1)⟩ :: [], h => unfold cE at h; cases h
    | ⟨_, _, _, .negSucc _⟩ :: [], h => unfold cE at h; cases h
    | _ :: _ :: _, h => unfold cE at h; simp only at h; cases h
  | _ => unfold cE at h; cases h
theorem snd_succ (G : Tab) (n : Nat) (ih : Snd G n) : Snd G (n + 1) where
  e := fun c e E h X k cl A B => sound_e ih h A B
  es := fun c es Es h X k cl A B => by
    unfold cEs at h
    cases es with
    | nil => cases h; rw [ev_nil]; exact pai_nil
    | cons a r =>
      dsimp only at h
      split at h
      · rename_i hs
        split at h
        · rename_i A1 R1 h1 h2
          cases h
          rw [ev_cons]
          exact pai_cons (ih.e _ _ _ h1 X k cl A B).1 (ih.es _ _ _ h2 X k cl A B) (star_one hs _ _)
        · cases h
      · cases h
  o := fun c o O h X k cl A B => by
    unfold cO at h
    cases o with
    | none => cases h; rw [ev_onone]; exact poi_none
    | some e =>
      obtain ⟨E1, h1, rfl⟩ := Option.map_eq_some_iff.mp h
      rw [ev_osome]
      exact poi_some (ih.e _ _ _ h1 X k cl A B).1
  c := fun c o O h X k cl A B => by
    unfold cC at h
    match o, h with
    | [], h => cases h; rw [ev_cnone]; exact ptsi_nil
    | [e], h =>
      obtain ⟨E1, h1, rfl⟩ := Option.map_eq_some_iff.mp h
      rw [ev_csome]
      exact ptsi_one (ih.e _ _ _ h1 X k cl A B).2
    | _ :: _ :: _, h => cases h
  i := fun c tp e I h X k cl A B tg htp => by
    have plain : ∀ {e : Expr}, (cE G n c e).map It.e = some I → PII X tg e (evI cl I) := fun {e} h => by
      obtain ⟨E1, h1, rfl⟩ := Option.map_eq_some_iff.mp h
      rw [ev_ie]
      exact pii_e (ih.e _ _ _ h1 X k cl A B).1
    cases e with
    | Call f es kws pos =>
      cases f with
      | Name x np =>
        cases kws with
        | nil =>
          unfold cI at h
          dsimp only at h
          split at h
          · rename_i hx
            subst hx
            split at h
            · rename_i hc
              obtain ⟨Es, h1, rfl⟩ := Option.map_eq_some_iff.mp h
              have hg := gl_ok A hc.1
              have hm := B.bts _ hc.2.1
              have ha := ih.es _ _ _ h1 X k cl A B
              have hst := ih.star _ _ _ h1
              rw [ev_rng]
              match es, hc.2.2.2.1, hc.2.2.2.2, h1, ha, hst with
              | [a], _, _, h1, ha, hst =>
                have h0 : Es.len = 1 := by
                  cases n with
                  | zero => unfold cEs at h1; cases h1
                  | succ n =>
                    unfold cEs at h1; dsimp only at h1
                    split at h1
                    · split at h1
                      · rename_i h3; cases h1
                        cases n with
                        | zero => unfold cEs at h3; cases h3
                        | succ n => unfold cEs at h3; cases h3; rfl
                      · cases h1
                    · cases h1
                rw [List.all_cons, Bool.and_eq_true] at hst
                refine PI.imp (pii_rng1 hg hm ha (star_one (by simpa using hst.1) _ _)) fun σ H Q ⟨φ, ρ, S, r, S', R, L, e, P⟩ => ⟨φ, ρ, S, r, S', R, L, ?_, P⟩
                rw [← e]; exact (len_if h0 ρ S).symm
              | [a, b], _, _, h1, ha, hst =>
                have h0 : Es.len = 2 := by
                  cases n with
                  | zero => unfold cEs at h1; cases h1
                  | succ n =>
                    unfold cEs at h1; dsimp only at h1
                    split at h1
                    · split at h1
                      · rename_i h3; cases h1
                        cases n with
                        | zero => unfold cEs at h3; cases h3
                        | succ n =>
                          unfold cEs at h3; dsimp only at h3
                          split at h3
                          · split at h3
                            · rename_i h4; cases h3
                              cases n with
                              | zero => unfold cEs at h4; cases h4
                              | succ n => unfold cEs at h4; cases h4; rfl
                            · cases h3
                          · cases h3
                      · cases h1
                    · cases h1
                rw [List.all_cons, List.all_cons, Bool.and_eq_true, Bool.and_eq_true] at hst
                have s1 : isStar a = false := by simpa using hst.1
                have s2 : isStar b = false := by simpa using hst.2.1
                refine PI.imp (pii_rng2 hg hm ha (by rw [star_one s1, star_one s2]; rfl) (star_one s2 _ _)) fun σ H Q ⟨φ, ρ, S, r, S', R, L, e, P⟩ => ⟨φ, ρ, S, r, S', R, L, ?_, P⟩
                rw [← e]; exact (len_if h0 ρ S).symm
              | [a, b, d], _, _, h1, ha, hst =>
                have h0 : Es.len = 3 := by
                  cases n with
                  | zero => unfold cEs at h1; cases h1
                  | succ n =>
                    unfold cEs at h1; dsimp only at h1
                    split at h1
                    · split at h1
                      · rename_i h3; cases h1
                        cases n with
                        | zero => unfold cEs at h3; cases h3
                        | succ n =>
                          unfold cEs at h3; dsimp only at h3
                          split at h3
                          · split at h3
                            · rename_i h4; cases h3
                              cases n with
                              | zero => unfold cEs at h4; cases h4
                              | succ n =>
                                unfold cEs at h4; dsimp only at h4
                                split at h4
                                · split at h4
                                  · rename_i h5; cases h4
                                    cases n with
                                    | zero => unfold cEs at h5; cases h5
                                    | succ n => unfold cEs at h5; cases h5; rfl
                                  · cases h4
                                · cases h4
                            · cases h3
                          · cases h3
                      · cases h1
                    · cases h1
                have hst' := hst
                rw [List.all_cons, Bool.and_eq_true] at hst
                have s1 : isStar a = false := by simpa using hst.1
                refine PI.imp (pii_rng3 hg hm ha (star_one s1 _ _) (star_none hst.2)) fun σ H Q ⟨φ, ρ, S, r, S', R, L, e, P⟩ => ⟨φ, ρ, S, r, S', R, L, ?_, P⟩
                rw [← e]; exact (len_if h0 ρ S).symm
              | _ :: _ :: _ :: _ :: _, _, hl, _, _, _ => simp at hl
            · cases h
          · split at h
            · rename_i hx
              obtain ⟨hx, htp2⟩ := hx
              subst hx
              split at h
              · rename_i hc
                have hg := gl_ok A hc.1
                have hm := B.bts _ hc.2
                split at h
                · rename_i a
                  split at h
                  · rename_i hst
                    obtain ⟨A1, h1, rfl⟩ := Option.map_eq_some_iff.mp h
                    have htup := htp htp2
                    cases tg with
                    | Tuple elts kk tpos =>
                      rw [ev_enu]
                      exact pii_enu hg hm (ih.e _ _ _ h1 X k cl A B).1 (star_one hst _ _)
                    | _ => cases htup
                  · cases h
                · cases h
              · cases h
            · exact plain h
        | cons _ _ => exact plain (by unfold cI at h; exact h)
      | _ => exact plain (by unfold cI at h; exact h)
    | _ => exact plain (by unfold cI at h; exact h)
  ks := fun c kws Es h X k cl A B => by
    cases kws with
    | nil => unfold cEs at h; cases h; rw [ev_nil]; exact pki_nil
    | cons kw kws =>
      obtain ⟨nm, e, kp⟩ := kw
      have h : cEs G (n + 1) c (e :: kws.map (·.value)) = some Es := h
      unfold cEs at h
      dsimp only at h
      split at h
      · rename_i hs
        split at h
        · rename_i A1 R1 h1 h2
          cases h
          rw [ev_cons]
          exact pki_cons (ih.e _ _ _ h1 X k cl A B).1 (ih.ks _ _ _ h2 X k cl A B)
        · cases h
      · cases h
  star := fun c es Es h => by
    unfold cEs at h
    cases es with
    | nil => rfl
    | cons a r =>
      dsimp only at h
      split at h
      · rename_i hs
        split at h
        · rename_i A1 R1 h1 h2
          rw [List.all_cons, hs, ih.star _ _ _ h2]; rfl
        · cases h
      · cases h
  b := fun c op a rest pos E h X k cl A B => (sound_bool ih h A B).2
theorem sound_all (G : Tab) : ∀ n, Snd G n
  | 0 => snd_zero G
  | n + 1 => snd_succ G n (sound_all G n)
end Mp

/-! Mp11: statements and defs. -/
namespace Mp
open PySem PySem.Spec PyProof.Rows L2

section
variable (G : Tab)
mutual
def cT : Nat → CC → Stmt → Option T
  | 0, _, _ => none
  | n + 1, c, st => match st with
    | .Pass _ => some .pass
    | .Break _ => some .brk
    | .Continue _ => some .cont
    | .Return o _ => match o with
      | some e => (cE G n c e).map .ret
      | none => some .retN
    | .Expr e _ => match e with
      | .Constant (.str _) _ _ => some .pass
      | e => if isLc e = false then (cE G n c e).map .expr else none
    | .Raise _ _ _ => some .never
    | .Assign ts e _ => match ts with
      | [t] => match t with
        | .Name y py => match cPt c n (.Name y py), cE G n c e with
          | some p, some A => (match e with
            | .ListComp _ gs scope lp => (match gs with
              | [⟨_, _, _, 0⟩] => if lcSwap c.sc y py lp scope = true then (if c.sc.names.lookup y = some .local then some (.asg (.pat p) A) else none) else some (.asg (.pat p) A)
              | _ => none)
            | e => if isLc e = false then some (.asg (.pat p) A) else none)
          | _, _ => none
        | .Tuple xs k tp => match e with
          | .Tuple vs _ _ => match swS c.sc xs vs with
            | some none => (match cPt c n (.Tuple xs k tp), cE G n c e with | some p, some A => some (.asg (.pat p) A) | _, _ => none)
            | some (some names) => (match xs, vs, cEs G n c vs with
              | [.Name x _, .Name y _], [_, _], some Es => if names = [x, y] ∧ c.sc.names.lookup x = some .local ∧ c.sc.names.lookup y = some .local then
                  (match slotOf c.N x, slotOf c.N y with | some i, some j => if i ≠ j then some (.par [i, j] Es) else none | _, _ => none) else none
              | [.Name x _, .Name y _, .Name z _], [_, _, _], some Es => if names = [x, y, z] ∧ c.sc.names.lookup x = some .local ∧ c.sc.names.lookup y = some .local ∧ c.sc.names.lookup z = some .local then
                  (match slotOf c.N x, slotOf c.N y, slotOf c.N z with | some i, some j, some l => if i ≠ j ∧ i ≠ l ∧ j ≠ l then some (.par [i, j, l] Es) else none | _, _, _ => none) else none
              | _, _, _ => none)
            | none => none
          | e => if isTup e = false then (match cPt c n (.Tuple xs k tp), cE G n c e with | some p, some A => some (.asg (.pat p) A) | _, _ => none) else none
        | .Subscript o i _ => if isSlice i = false then (match cE G n c o, cE G n c i, cE G n c e with | some O, some I, some A => some (.asg (.sub O I) A) | _, _, _ => none) else none
        | _ => none
      | _ => none
    | .AugAssign t op e _ => match t with
      | .Name x _ => if isLoc c x = true then (match slotOf c.N x, cE G n c e with | some i, some A => some (.aug i op A) | _, _ => none) else none
      | _ => none
    | .If d a b _ => match cE G n c d, cTs n c a, cTs n c b with
      | some D, some A, some B => some (.ite D A B) | _, _, _ => none
    | .While d b orelse _ => match orelse with
      | [] => (match cE G n c d, cTs n c b with | some D, some B => some (.whl D B) | _, _ => none)
      | _ => none
    | .For t it b orelse _ => match orelse with
      | [] => if isSet it = false then (match cI G n c (isTup t) it, cPt c n t, cTs n c b with | some I, some p, some B => some (.frr I (.pat p) B) | _, _, _ => none) else none
      | _ => none
    | _ => none
def cTs : Nat → CC → List Stmt → Option Ts
  | 0, _, _ => none
  | n + 1, c, sts => match sts with
    | [] => some .nil
    | s :: r => match cT n c s, cTs n c r with | some A, some R => some (.cons A R) | _, _ => none
end
end
section
variable (c : Calls) (fu : Nat)
theorem ex_asg (p : Pt) (e : E) : exT c fu (.asg (.pat p) e) = fun ρ S => (evE c e ρ S).bind fun x S1 => (asPR p x ρ S1).bind fun ρ1 S2 => .ok (.next ρ1) S2 := by funext ρ S; simp only [exT, asG]
theorem ex_asgS (o i e : E) : exT c fu (.asg (.sub o i) e) = fun ρ S => (evE c e ρ S).bind fun x S1 => ((evE c o ρ S1).bind fun y S2 => (evE c i ρ S2).bind fun z S3 => (setV y z x S3).bind fun _ S4 => .ok ρ S4).bind fun ρ1 S2 => .ok (.next ρ1) S2 := by funext ρ S; simp only [exT, asG]
theorem ex_par (is : List Nat) (es : Es) : exT c fu (.par is es) = fun ρ S => (evEs c es ρ S).bind fun xs S1 => match setMany ρ is xs with | some ρ1 => .ok (.next ρ1) S1 | none => .bad := by funext ρ S; simp only [exT] <;> rfl
theorem ex_aug (i : Nat) (op : Operator) (e : E) : exT c fu (.aug i op e) = fun ρ S => (getL ρ i S).bind fun x S0 => (evE c e ρ S0).bind fun y S1 => (ibinV op x y S1).bind fun z S2 => .ok (.next (ρ.set i (some z))) S2 := by funext ρ S; simp only [exT]
theorem ex_ite (d : E) (a b : Ts) : exT c fu (.ite d a b) = fun ρ S => (evE c d ρ S).bind fun x S1 => (tru x S1).bind fun t S2 => if t = true then exTs c fu a ρ S2 else exTs c fu b ρ S2 := by funext ρ S; simp only [exT]
theorem ex_whl (d : E) (b : Ts) : exT c fu (.whl d b) = fun ρ S => whlN (asT (evE c d)) (exTs c fu b) fu ρ S := by funext ρ S; simp only [exT]; rfl
theorem ex_for (it : It) (p : Pt) (b : Ts) : exT c fu (.frr it (.pat p) b) = fun ρ S => (evI c it ρ S).bind fun r S1 => forN r (fun x ρ S => (asPR p x ρ S).bind fun ρ1 S2 => exTs c fu b ρ1 S2) (r.len S1 + 1) 0 ρ S1 := by funext ρ S; simp only [exT, asG]
theorem ex_expr (e : E) : exT c fu (.expr e) = fun ρ S => (evE c e ρ S).bind fun _ S1 => .ok (.next ρ) S1 := by funext ρ S; simp only [exT]
theorem ex_ret (e : E) : exT c fu (.ret e) = fun ρ S => (evE c e ρ S).bind fun x S1 => .ok (.ret x) S1 := by funext ρ S; simp only [exT]
theorem ex_retN : exT c fu .retN = fun _ S => .ok (.ret .non) S := by funext ρ S; simp only [exT]
theorem ex_pass : exT c fu .pass = fun ρ S => .ok (.next ρ) S := by funext ρ S; simp only [exT]
theorem ex_brk : exT c fu .brk = fun ρ S => .ok (.brk ρ) S := by funext ρ S; simp only [exT]
theorem ex_cont : exT c fu .cont = fun ρ S => .ok (.cont ρ) S := by funext ρ S; simp only [exT]
theorem ex_never : exT c fu .never = fun _ _ => .bad := by funext ρ S; simp only [exT]
theorem ex_nil : exTs c fu .nil = fun ρ S => .ok (.next ρ) S := by funext ρ S; simp only [exTs]
theorem ex_cons (t : T) (ts : Ts) : exTs c fu (.cons t ts) = fun ρ S => (exT c fu t ρ S).bind fun f S1 => match f with
    | .next ρ1 => exTs c fu ts ρ1 S1
    | f => .ok f S1 := by
  funext ρ S; simp only [exTs] <;> rfl
end
theorem sole_eq (t e : Expr) (l : Nat) (env : Env) : swapsWithSole [t] e l env = swapsWith e (some t) l env := by
  unfold swapsWithSole
  rfl
structure SndT (G : Tab) (n : Nat) : Prop where
  t : ∀ c st B, cT G n c st = some B → ∀ X k cl fu, Ag X c k → Glob X G k cl → PassesOwn (model X.prog X.w) X.A X.env X.xe → PSI X st (exT cl fu B)
  ts : ∀ c sts B, cTs G n c sts = some B → ∀ X k cl fu, Ag X c k → Glob X G k cl → PassesOwn (model X.prog X.w) X.A X.env X.xe → PSsI X sts (exTs cl fu B)
theorem pt_name {c : CC} {n : Nat} {y : Str} {py : Pos} {p : Pt} (h : cPt c n (.Name y py) = some p) : ∃ i, slotOf c.N y = some i ∧ p = .name i := by
  cases n with
  | zero => unfold cPt at h; cases h
  | succ n =>
    unfold cPt at h
    dsimp only at h
    split at h
    · obtain ⟨i, hi, rfl⟩ := Option.map_eq_some_iff.mp h
      exact ⟨i, hi, rfl⟩
    · cases h
theorem snd_asg {G : Tab} {n : Nat} {c : CC} {t e : Expr} {sp : Pos} {B : T} (h : cT G (n + 1) c (.Assign [t] e sp) = some B) {X : Cx} {k : Nat} {cl : Calls} {fu : Nat} (A : Ag X c k) (C : Glob X G k cl) : PSI X (.Assign [t] e sp) (exT cl fu B) := by
  have S := sound_all G n
  cases t with
  | Name y py =>
    unfold cT at h
    dsimp only at h
    split at h
    · rename_i p A1 h1 h2
      have hp := pt_sound A n _ _ h1
      have gen : swapsWithSole [.Name y py] e sp.line X.env = pure false → PSI X (.Assign [.Name y py] e sp) (exT cl fu (.asg (.pat p) A1)) := fun hs => by
        rw [ex_asg]
        exact psi_asg (S.e _ _ _ h2 X k cl A C).1 hp hs (sw_name _ _) (asgE_one rfl _ _)
      split at h
      · split at h
        · rename_i elt scope lp gs tg iter ifs
          split at h
          · rename_i hsw
            split at h
            · rename_i hl
              cases h
              obtain ⟨i, hi, rfl⟩ := pt_name h1
              cases n with
              | zero => unfold cE at h2; cases h2
              | succ n =>
                obtain ⟨I, q, t1, L, rfl, hh⟩ := sound_lc (sound_all G n) h2
                obtain ⟨g1, g2, g3, g4, g5, g6, g7⟩ := hh X k cl A C
                rw [ex_asg, ev_lc]
                refine psi_setLc A.calm (by rw [A.N]; exact A.nd) (A.cal hi) (by rw [A.sc]; exact hl) ?_ g1 g2 g3 g4 g5 g6 g7
                rw [lcSwap_ok, A.sc, hsw]
            · cases h
          · rename_i hsw
            cases h
            refine gen ?_
            rw [sole_eq, lcSwap_ok, A.sc]
            cases hq : lcSwap c.sc y py lp scope with
            | true => exact absurd hq hsw
            | false => rfl
        · cases h
      · split at h
        · rename_i hl
          cases h
          exact gen (by rw [sole_eq]; exact swaps_plain hl _ _ _)
        · cases h
    · cases h
  | Tuple xs j tp =>
    unfold cT at h
    dsimp only at h
    split at h
    · rename_i vs j2 p2
      split at h
      · rename_i hsw
        split at h
        · rename_i p A1 h1 h2
          cases h
          rw [ex_asg]
          exact psi_asg (S.e _ _ _ h2 X k cl A C).1 (pt_sound A n _ _ h1) (by rw [sole_eq]; exact swaps_tup _ _ _) (swS_ok (by rw [A.sc]; exact hsw)) (asgE_one rfl _ _)
        · cases h
      · rename_i names hsw
        split at h
        · rename_i x px y py a b Es h1
          split at h
          · rename_i hc
            split at h
            · rename_i i j hi hj
              split at h
              · rename_i hij
                cases h
                rw [ex_par]
                refine psi_par A.calm (by rw [A.N]; exact A.nd) (A.cal hi) (A.cal hj) hij (by rw [A.sc]; exact hc.2.1) (by rw [A.sc]; exact hc.2.2) (S.es _ _ _ h1 X k cl A C) ?_ (by rw [sole_eq]; exact swaps_tup _ _ _)
                have := swS_ok (env := X.env) (k := j) (k2 := j2) (p := tp) (p2 := p2) (by rw [A.sc]; exact hsw)
                rw [hc.1] at this
                exact this
              · cases h
            · cases h
          · cases h
        · rename_i x px y py z pz a b d Es h1
          split at h
          · rename_i hc
            split at h
            · rename_i i j l hi hj hl
              split at h
              · rename_i hij
                cases h
                rw [ex_par]
                refine psi_par3 A.calm (by rw [A.N]; exact A.nd) (A.cal hi) (A.cal hj) (A.cal hl) hij.1 hij.2.1 hij.2.2 (by rw [A.sc]; exact hc.2.1) (by rw [A.sc]; exact hc.2.2.1) (by rw [A.sc]; exact hc.2.2.2) (S.es _ _ _ h1 X k cl A C) ?_ (by rw [sole_eq]; exact swaps_tup _ _ _)
                have := swS_ok (env := X.env) (k := j) (k2 := j2) (p := tp) (p2 := p2) (by rw [A.sc]; exact hsw)
                rw [hc.1] at this
                exact this
              · cases h
            · cases h
          · cases h
        · cases h
      · cases h
    · split at h
      · rename_i ht
        split at h
        · rename_i p A1 h1 h2
          cases h
          rw [ex_asg]
          exact psi_asg (S.e _ _ _ h2 X k cl A C).1 (pt_sound A n _ _ h1) (by rw [sole_eq]; exact swaps_tup _ _ _) (sw_plainV ht _) (asgE_one rfl _ _)
        · cases h
      · cases h
  | Subscript o i tp =>
    unfold cT at h
    dsimp only at h
    split at h
    · rename_i hs
      split at h
      · rename_i O I A1 h1 h2 h3
        cases h
        rw [ex_asgS]
        refine psi_asgS (S.e _ _ _ h3 X k cl A C).1 (S.e _ _ _ h1 X k cl A C).1 (S.e _ _ _ h2 X k cl A C).1 (by rw [sole_eq]; exact swaps_sub _ _ _) (sw_sub _ _) (asgE_one rfl _ _) ?_
        intro v
        cases i <;> first | rfl | cases hs
      · cases h
    · cases h
  | _ => unfold cT at h; cases h
theorem snd_t {G : Tab} {n : Nat} (ih : SndT G n) : SndT G (n + 1) where
  ts := fun c sts B h X k cl fu A C hp => by
    unfold cTs at h
    cases sts with
    | nil => cases h; rw [ex_nil]; exact pssi_nil
    | cons s r =>
      dsimp only at h
      split at h
      · rename_i A1 R1 h1 h2
        cases h
        rw [ex_cons]
        exact pssi_cons (ih.t _ _ _ h1 X k cl fu A C hp) (ih.ts _ _ _ h2 X k cl fu A C hp)
      · cases h
  t := fun c st B h X k cl fu A C hp => by
    have S := sound_all G n
    cases st with
    | Pass p => unfold cT at h; cases h; rw [ex_pass]; exact psi_pass
    | Break p => unfold cT at h; cases h; rw [ex_brk]; exact psi_brk
    | Continue p => unfold cT at h; cases h; rw [ex_cont]; exact psi_cont
    | Raise a b p => unfold cT at h; cases h; rw [ex_never]; exact psi_never
    | Return o p =>
      unfold cT at h
      cases o with
      | none => cases h; rw [ex_retN]; exact psi_retN
      | some e =>
        obtain ⟨E1, h1, rfl⟩ := Option.map_eq_some_iff.mp h
        rw [ex_ret]
        exact psi_ret (S.e _ _ _ h1 X k cl A C).1
    | Expr e p =>
      unfold cT at h
      dsimp only at h
      split at h
      · cases h; rw [ex_pass]; exact psi_doc
      · split at h
        · rename_i hl
          obtain ⟨E1, h1, rfl⟩ := Option.map_eq_some_iff.mp h
          rw [ex_expr]
          exact psi_expr (S.e _ _ _ h1 X k cl A C).1 (swaps_plain hl _ _ _)
        · cases h
    | Assign ts e p =>
      match ts, h with
      | [t], h => exact snd_asg h A C
      | [], h => unfold cT at h; cases h
      | _ :: _ :: _, h => unfold cT at h; cases h
    | AugAssign t op e p =>
      cases t with
      | Name x np =>
        unfold cT at h
        dsimp only at h
        split at h
        · rename_i hl
          split at h
          · rename_i i A1 hi h1
            cases h
            obtain ⟨g1, g2⟩ := loc_ok A hl
            rw [ex_aug]
            exact psi_aug (by rw [A.N]; exact A.nd) (A.cal hi) g1 (S.e _ _ _ h1 X k cl A C).1 (op_ibinV op) g2
          · cases h
        · cases h
      | _ => unfold cT at h; cases h
    | If d a b p =>
      unfold cT at h
      dsimp only at h
      split at h
      · rename_i D1 A1 B1 h1 h2 h3
        cases h
        rw [ex_ite]
        exact psi_if (S.e _ _ _ h1 X k cl A C).2 (ih.ts _ _ _ h2 X k cl fu A C hp) (ih.ts _ _ _ h3 X k cl fu A C hp)
      · cases h
    | While d b orelse p =>
      cases orelse with
      | nil =>
        unfold cT at h
        dsimp only at h
        split at h
        · rename_i D1 B1 h1 h2
          cases h
          rw [ex_whl]
          exact psi_whl hp (S.e _ _ _ h1 X k cl A C).2 (ih.ts _ _ _ h2 X k cl fu A C hp)
        · cases h
      | cons _ _ => unfold cT at h; cases h
    | For t it b orelse p =>
      cases orelse with
      | nil =>
        unfold cT at h
        dsimp only at h
        split at h
        · rename_i hs
          split at h
          · rename_i I p B1 h1 h2 h3
            cases h
            rw [ex_for]
            exact psi_for hp A.calm (S.i _ _ _ _ h1 X k cl A C t (fun h => h)) (pt_sound A n _ _ h2) (ih.ts _ _ _ h3 X k cl fu A C hp) (folded_ok hs _)
          · cases h
        · cases h
      | cons _ _ => unfold cT at h; cases h
    | _ => unfold cT at h; cases h
theorem sndT_all (G : Tab) : ∀ n, SndT G n
  | 0 => { t := fun _ _ _ h => (by unfold cT at h; cases h), ts := fun _ _ _ h => (by unfold cTs at h; cases h) }
  | n + 1 => snd_t (sndT_all G n)
/-! ### defs -/
structure PDef where
  name : Str
  qual : Str
  st : Stmt
  N : List Str
  ps : List Str
  B : Ts
def PDef.fn (d : PDef) : Fn := ⟨d.N.length, d.ps.length, d.B⟩
def scopeB (N P : List Str) (sc : Scope) : Bool :=
  (match sc.kind with | .function => true | _ => false) && !sc.isCoroutine && !sc.isGenerator && decide N.Nodup && decide (N.take P.length = P) &&
  (P.all fun x => match sc.names.lookup x with | some .local => true | some .cell => true | _ => false) && (sc.names.all fun y => match y.2 with | .free => false | _ => true)
theorem scopeB_ok {N P : List Str} {sc : Scope} (h : scopeB N P sc = true) : FnScope N P sc := by
  unfold scopeB at h
  simp only [Bool.and_eq_true, List.all_eq_true, decide_eq_true_eq, Bool.not_eq_true'] at h
  obtain ⟨⟨⟨⟨⟨⟨h1, h2⟩, h3⟩, h4⟩, h5⟩, h6⟩, h7⟩ := h
  refine ⟨?_, h2, h3, h4, h5, fun x hx => ?_, fun y hy e => ?_⟩
  · split at h1
    · assumption
    · cases h1
  · have := h6 x hx
    split at this
    · left; assumption
    · right; assumption
    · cases this
  · have := h7 y hy
    rw [e] at this; cases this
theorem start_rel {K : PySem.W.Frag} {φ : List Addr} {H : Hp} : ∀ {xs : List PV} {vs : List V} (N : List Str), relVs K φ H xs vs → RelL K φ H (xs.map some ++ List.replicate (N.length - xs.length) none) (L2.start N vs) := by
  intro xs vs N r
  have hl := relVs_len r
  refine ⟨by unfold L2.start; simp [hl], fun i x h => ?_⟩
  by_cases hi : i < xs.length
  · rw [List.getElem?_append_left (by simpa using hi), List.getElem?_map] at h
    obtain ⟨y, hy, e⟩ := Option.map_eq_some_iff.mp h
    cases e
    obtain ⟨v, hv, rv⟩ := relVs_get r hy
    refine ⟨v, ?_, rv⟩
    unfold L2.start
    rw [List.getElem?_append_left (by simpa [← hl] using hi), List.getElem?_map, hv]; rfl
  · rw [List.getElem?_append_right (by simpa using hi), List.getElem?_replicate] at h
    split at h <;> cases h
theorem run_takes {c : Calls} {fu : Nat} {f : Fn} : Takes1 f.pars (runFn c fu f) := by
  intro xs S r S' h
  unfold runFn at h
  split at h
  · assumption
  · cases h
section
variable {P : Program} {w : World} {K : PySem.W.Frag} {mg : Str → Option Value} {base : Heap}
theorem def_ok {G : Tab} {n : Nat} {d : PDef} {f : Addr} {fd : FuncData} {k fu : Nat} {cl : Calls} (F : Fun K d.name d.qual d.st f fd) (hS : scopeB d.N d.ps (defScope d.st) = true) (hB : cTs G n ⟨d.N, defScope d.st, fun _ => true⟩ (defBody d.st) = some d.B)
    (hG : ∀ X : Cx, X.prog = P → X.w = w → X.K = K → X.mg = mg → X.base = base → Glob X G k cl) : FnOk P w K mg base CX0 (k + 1) f fd d.ps (spI K d.ps.length (runFn cl fu d.fn)) := by
  have S := scopeB_ok hS
  refine F.ok S (fun vs H Q E h => h.1) fun cdv A outer s H vs Q E hr h => ?_
  obtain ⟨hl, φ, S0, xs, r, S', R, rv, e, P0⟩ := h
  refine ⟨_, (sndT_all G n).ts _ _ _ hB (cxOf CX0 P w K mg base d.N d.qual (defScope d.st) f cdv A outer s H E).nox k cl fu ⟨rfl, S.nd, rfl, fun _ _ => rfl, rfl, hr⟩ (hG _ rfl rfl rfl rfl rfl) PassesOwn.never, ?_⟩
  unfold runFn at e
  split at e
  · obtain ⟨fl, S1, e1, e2⟩ := bind_inv e
    refine ⟨φ, _, S0, fl, S1, R, start_rel d.N rv, e1, ?_⟩
    cases fl with
    | next ρ => cases e2; exact fun φ' σ' H' E' R' _ => P0 φ' _ H' E' R' rfl
    | ret v => cases e2; exact P0
    | brk ρ => cases e2
    | cont ρ => cases e2
  · cases e
/-- what one must know of a program -/
structure Prog (P : Program) (w : World) (K : PySem.W.Frag) (mg : Str → Option Value) (ds : List PDef) (G : Tab) (n : Nat) : Prop where
  fun_ : ∀ (i : Nat) (d : PDef), ds[i]? = some d → ∃ (f : Addr) (fd : FuncData), Fun K d.name d.qual d.st f fd ∧ mg d.name = some (.ref f) ∧ Binds K fd d.ps [] ∧ KB fd d.ps
  scope : ∀ d ∈ ds, scopeB d.N d.ps (defScope d.st) = true
  body : ∀ d ∈ ds, cTs G n ⟨d.N, defScope d.st, fun _ => true⟩ (defBody d.st) = some d.B
  names : ∀ x i ps, G.fns.lookup x = some (i, ps) → ∃ d : PDef, ds[i]? = some d ∧ d.name = x ∧ d.ps = ps
  cts : ∀ x v, G.cts.lookup x = some v → ∃ (u : Value) (z : V), mg x = some u ∧ RelV z u ∧ ∀ φ H, relV K φ H v z
  bts : ∀ x, G.bts.contains x = true → mg x = none
theorem callN_takes {fs : List Fn} {fu k i : Nat} {f : Fn} (h : fs[i]? = some f) : Takes1 f.pars (callN fs fu k i) := by
  intro xs S r S' e
  cases k with
  | zero => cases e
  | succ k =>
    simp only [callN, h] at e
    exact run_takes xs S r S' e
theorem prog_ok {ds : List PDef} {G : Tab} {n fu : Nat} (T : Prog P w K mg ds G n) : ∀ (k i : Nat) (d : PDef), ds[i]? = some d → ∀ (f : Addr) (fd : FuncData), Fun K d.name d.qual d.st f fd → FnOk P w K mg base CX0 k f fd d.ps (spI K d.ps.length (callN (ds.map PDef.fn) fu k i)) := by
  intro k
  induction k with
  | zero => exact fun i d hd f fd F => ⟨fun vs H Q E h => h.1, fun A outer s H args us vs Q E hr e0 hb hv h => by
      obtain ⟨_, _, _, _, _, _, _, _, e, _⟩ := h
      cases e⟩
  | succ k ih =>
    intro i d hd f fd F
    have hm := List.mem_of_getElem? hd
    have hf : (ds.map PDef.fn)[i]? = some d.fn := by rw [List.getElem?_map, hd]; rfl
    have e : callN (ds.map PDef.fn) fu (k + 1) i = runFn (callN (ds.map PDef.fn) fu k) fu d.fn := by
      funext xs S
      simp only [callN, hf]
    rw [e]
    refine def_ok F (T.scope d hm) (T.body d hm) fun X hP hw hK hmg hbase => ?_
    subst hP hw hK hmg hbase
    refine ⟨fun x j ps hx => ?_, T.cts, T.bts⟩
    obtain ⟨d', hd', rfl, rfl⟩ := T.names x j ps hx
    obtain ⟨f', fd', F', g1, g2, g3⟩ := T.fun_ j d' hd'
    refine ⟨f', fd', ih j d' hd' f' fd' F', ?_, g1, F'.kp, g2, g3⟩
    exact callN_takes (f := d'.fn) (by rw [List.getElem?_map, hd']; rfl)
end
end Mp

/-! Mp12: a law's end. -/
namespace Mp
open PySem PySem.Spec PyProof.Rows L2

theorem mk_fun {K : PySem.W.Frag} {mg : Str → Option Value} {h : Heap} {name qual : Str} {st : Stmt} {ps : List Str} {f : Addr} {oc kV doc pm cdv ct : Value} {od an : Option Addr} {osl : Array (Option Value)}
    (X : K.In h) (G : h.Ns mainGlobals mg) (a : PySem.W.nsIn K mainGlobals name = some (some (.ref f)))
    (l : K.lookup f = some ⟨oc, od, .func (PySem.W.fnOf name qual (defArgs st) (defBody st) (defScope st) .none kV doc pm an cdv ct), osl⟩) (c : PySem.W.codeIn K cdv qual = true) (k : PySem.W.keepIn K (.ref f) = true)
    (hb : ∀ (kV doc pm : Value) (an : Option Addr) (cdv ct : Value) (us : List Value), us.length = ps.length → bindArgs (PySem.W.fnOf name qual (defArgs st) (defBody st) (defScope st) .none kV doc pm an cdv ct) ⟨us, []⟩ = pure (ps.zip us))
    (hk : ∀ (kV doc pm : Value) (an : Option Addr) (cdv ct : Value) (us : List Value), us.length = ps.length → bindArgs (PySem.W.fnOf name qual (defArgs st) (defBody st) (defScope st) .none kV doc pm an cdv ct) ⟨[], ps.zip us⟩ = pure (ps.zip us)) :
    ∃ (f : Addr) (fd : FuncData), Fun K name qual st f fd ∧ mg name = some (.ref f) ∧ Binds K fd ps [] ∧ KB fd ps := by
  have F := fun_mk (st := st) l c k
  exact ⟨f, _, F, PySem.W.mg_of X G a, F.binds hb, fun s ws hl => .of_eq (hk _ _ _ _ _ _ ws hl)⟩
theorem only_frz {K : PySem.W.Frag} {H : Hp} {a : Addr} {xs : List V} (hO : Only H) (h : SqL K H a xs) : imL K H a xs := by
  rcases h with (h | h) | h
  · rcases hO a with e | ⟨o, ys, e⟩
    · rw [h] at e; cases e
    · rw [h] at e; cases e
  · exact .inl h
  · exact .inr (.inr h)
theorem ints_relV {K : PySem.W.Frag} {φ : List Addr} {H : Hp} : ∀ ns : List Int, relVs K φ H (ns.map PV.int) (ns.map V.int)
  | [] => rfl
  | n :: ns => ⟨_, _, rfl, rfl, ints_relV ns⟩
/-- the end: from what is known of the program and the evaluator's answer -/
theorem law_end {l : PySem.W.OpenLaw} {q : Program} {loose : List Str} {XP : (Str → Option Value) → Heap → Prop} {YP : World → Heap → Prop} {d : DefRec} {K : Params → PySem.W.Frag} {ds : List PDef} {G : Tab} {n fu k iL : Nat} {dL : PDef}
    (hn : l.most = some 63) (hdf : d.params.defaults = []) (hY : ∀ (w : World) (h : Heap), YP w h → (K w.params).In h)
    (hL : ds[iL]? = some dL) (hps : dL.ps = [("script" : Str)]) (hname : d.name = dL.name) (hr : Room k callerA)
    (T : ∀ (w : World) (mg : Str → Option Value) (h : Heap), (K w.params).In h → h.Ns mainGlobals mg → Prog l.prog w (K w.params) mg ds G n)
    (hb : ∀ (kV doc pm : Value) (an : Option Addr) (cdv ct u : Value), bindArgs (PySem.W.fnOf dL.name dL.qual (defArgs dL.st) (defBody dL.st) (defScope dL.st) .none kV doc pm an cdv ct) ⟨[u], []⟩ = pure [(("script" : Str), u)])
    (pure_ : ∀ ns : List Int, ns.length ≤ 63 → ∃ S', callN (ds.map PDef.fn) fu k iL [.ltc (ns.map .int)] [] = .ok (.bl true) S') :
    PySem.W.WalkO q loose XP YP l.row.toRowW d [] (fun f vs => PySem.call f vs) := by
  refine L2.walk_of (n := 63) (k := k) (x := "script") (CX := fun _ => CX0) (sp := fun w => spI (K w.params) 1 (callN (ds.map PDef.fn) fu k iL)) hn (by rw [lim_eq]; decide) hdf hr hY (fun w mg fa h KX Gh hfa => ?_) (fun w H a ns hl hO hS => ?_) fun _ _ _ _ _ z => z
  · have TT := T w mg h KX Gh
    obtain ⟨f, fd, F, hm, _, _⟩ := TT.fun_ iL dL hL
    have hfa' : mg dL.name = some (.ref fa) := by rw [← hname]; exact hfa
    rw [hm] at hfa'
    cases hfa'
    obtain ⟨oc, od, kV, doc, pm, an, cdv, ct, osl, efd, lk, hcd⟩ := id F.ex
    refine ⟨fd, fun s u => .of_eq (by rw [efd]; exact hb _ _ _ _ _ _ _), fun base hKb hGb => ?_⟩
    have := prog_ok (P := l.prog) (w := w) (K := K w.params) (mg := mg) (base := base) (fu := fu) TT k iL dL hL _ fd F
    rw [hps] at this
    exact this
  · obtain ⟨S', e⟩ := pure_ ns hl
    refine ⟨rfl, [], [], [.ltc (ns.map .int)], .bl true, S', ⟨rfl, by simp, fun _ _ _ h => by simp at h⟩, ⟨_, [], rfl, ⟨a, _, rfl, only_frz hO hS, ints_relV ns⟩, rfl⟩, e, fun φ' v H' _ _ r => r⟩
/-! ### the module's constants -/
def CtV (K : PySem.W.Frag) (v : PV) (u : Value) : Prop := ∃ z : V, RelV z u ∧ ∀ φ H, relV K φ H v z
def CtVs (K : PySem.W.Frag) (vs : List PV) (us : List Value) : Prop := ∃ zs : List V, Vals zs us ∧ ∀ φ H, relVs K φ H vs zs
theorem ctv_int {K : PySem.W.Frag} {i : Int} {t : Tok} : CtV K (.int i) (.int i t) := ⟨.int i, ⟨t, rfl⟩, fun _ _ => rfl⟩
theorem ctv_str {K : PySem.W.Frag} {x : List Nat} {t : Tok} : CtV K (.str x) (.str ⟨x.toArray⟩ t) := ⟨.str ⟨x.toArray⟩, ⟨t, rfl⟩, fun _ _ => rfl⟩
theorem ctv_bl {K : PySem.W.Frag} {b : Bool} : CtV K (.bl b) (.bool b) := ⟨.bl b, rfl, fun _ _ => rfl⟩
theorem ctv_non {K : PySem.W.Frag} : CtV K .non .none := ⟨.non, rfl, fun _ _ => rfl⟩
theorem ctvs_nil {K : PySem.W.Frag} : CtVs K [] [] := ⟨[], .nil, fun _ _ => rfl⟩
theorem ctvs_cons {K : PySem.W.Frag} {v : PV} {vs : List PV} {u : Value} {us : List Value} (h : CtV K v u) (t : CtVs K vs us) : CtVs K (v :: vs) (u :: us) := by
  obtain ⟨z, r, q⟩ := h
  obtain ⟨zs, rs, qs⟩ := t
  exact ⟨z :: zs, .cons r rs, fun φ H => ⟨z, zs, rfl, q φ H, qs φ H⟩⟩
theorem ctv_tup {K : PySem.W.Frag} {a : Addr} {xs : List PV} {od : Option Addr} {its : Array Value} {n : Nat} {sl : Array (Option Value)} (l : K.lookup a = some ⟨.type "tuple", od, .seq its n, sl⟩) (hs : its.size ≤ sizeLine) (h : CtVs K xs its.toList) : CtV K (.tup xs) (.ref a) := by
  obtain ⟨zs, rs, qs⟩ := h
  exact ⟨.ref a, rfl, fun φ H => ⟨a, zs, rfl, .inr ⟨_, its, n, l, rfl, rfl, hs, rs⟩, qs φ H⟩⟩
theorem ct_of {K : PySem.W.Frag} {mg : Str → Option Value} {h : Heap} {n : Str} {v : PV} {u : Value} (X : K.In h) (G : h.Ns mainGlobals mg) (a : PySem.W.nsIn K mainGlobals n = some (some u)) (c : CtV K v u) :
    ∃ (u : Value) (z : V), mg n = some u ∧ RelV z u ∧ ∀ φ H, relV K φ H v z := by
  obtain ⟨z, r, q⟩ := c
  exact ⟨u, z, PySem.W.mg_of X G a, r, q⟩
theorem lookup_mem {β : Type} {x : Str} {v : β} : ∀ {l : List (Str × β)}, l.lookup x = some v → (x, v) ∈ l
  | [], h => by cases h
  | (y, w) :: l, h => by
    rw [List.lookup_cons] at h
    split at h
    · rename_i e
      cases h
      have : x = y := by simpa using e
      subst this
      exact List.mem_cons_self ..
    · exact List.mem_cons_of_mem _ (lookup_mem h)
def namesB (ds : List PDef) (fns : List (Str × (Nat × List Str))) : Bool := fns.all fun p => match ds[p.2.1]? with
  | some d => decide (d.name = p.1) && decide (d.ps = p.2.2)
  | none => false
theorem names_ok {ds : List PDef} {G : Tab} (h : namesB ds G.fns = true) {x : Str} {i : Nat} {ps : List Str} (hx : G.fns.lookup x = some (i, ps)) : ∃ d : PDef, ds[i]? = some d ∧ d.name = x ∧ d.ps = ps := by
  have := List.all_eq_true.mp h _ (lookup_mem hx)
  dsimp only at this
  split at this
  · rename_i d e
    obtain ⟨h1, h2⟩ := (Bool.and_eq_true ..).mp this
    exact ⟨d, e, of_decide_eq_true h1, of_decide_eq_true h2⟩
  · cases this
end Mp

/-! Mq0: what a run gives: W, its rules; the store as it is kept. -/
namespace Mp
open PySem PySem.Spec L2
structure W {α : Type} (r : Res α) (Q : α → Store → Prop) : Prop where
  get : ∃ a S, r = .ok a S ∧ Q a S
theorem W_ok {α : Type} {a : α} {S : Store} {Q : α → Store → Prop} : W (.ok a S) Q ↔ Q a S :=
  ⟨fun ⟨b, S1, e, q⟩ => by cases e; exact q, fun q => ⟨a, S, rfl, q⟩⟩
theorem W.ok {α : Type} {a : α} {S : Store} {Q : α → Store → Prop} (q : Q a S) : W (.ok a S) Q := ⟨a, S, rfl, q⟩
theorem W_bind {α β : Type} {r : Res α} {f : α → Store → Res β} {Q : β → Store → Prop} : W (r.bind f) Q ↔ W r (fun a S => W (f a S) Q) :=
  ⟨fun ⟨b, S1, e, q⟩ => by
    obtain ⟨a, S2, e1, e2⟩ := bind_inv e
    exact ⟨a, S2, e1, b, S1, e2, q⟩, fun ⟨a, S2, e1, b, S1, e2, q⟩ => ⟨b, S1, by rw [e1]; exact e2, q⟩⟩
theorem W.mono {α : Type} {r : Res α} {P Q : α → Store → Prop} (h : W r P) (i : ∀ a S, P a S → Q a S) : W r Q := by
  obtain ⟨a, S, e, p⟩ := h
  exact ⟨a, S, e, i a S p⟩
theorem bnd_ok {α β : Type} (a : α) (S : Store) (f : α → Store → Res β) : (Res.ok a S).bind f = f a S := (rfl)
theorem W_if {α : Type} {p : Prop} [Decidable p] {a b : Res α} {Q : α → Store → Prop} : W (if p then a else b) Q ↔ (p → W a Q) ∧ (¬p → W b Q) := by
  by_cases h : p
  · rw [if_pos h]; exact ⟨fun x => ⟨fun _ => x, fun n => absurd h n⟩, fun x => x.1 h⟩
  · rw [if_neg h]; exact ⟨fun x => ⟨fun n => absurd n h, fun _ => x⟩, fun x => x.2 h⟩
def fin (Q : PV → Store → Prop) : Fl → Store → Prop
  | .next _, S => Q .non S
  | .ret v, S => Q v S
  | _, _ => False
theorem fin_ret {Q : PV → Store → Prop} {v : PV} {S : Store} : fin Q (.ret v) S ↔ Q v S := Iff.rfl
theorem fin_next {Q : PV → Store → Prop} {ρ : Loc} {S : Store} : fin Q (.next ρ) S ↔ Q .non S := Iff.rfl
theorem W_fn {fs : List Fn} {fu k i : Nat} {f : Fn} {xs : List PV} {S : Store} {Q : PV → Store → Prop} (hf : fs[i]? = some f) (hp : xs.length = f.pars)
    (h : W (exTs (callN fs fu k) fu f.body (xs.map some ++ List.replicate (f.slots - xs.length) none) S) (fin Q)) : W (callN fs fu (k + 1) i xs S) Q := by
  simp only [callN, hf, runFn]
  rw [if_pos hp, W_bind]
  refine h.mono fun r S1 q => ?_
  cases r with
  | next ρ => exact .ok q
  | ret v => exact .ok q
  | brk ρ => exact q.elim
  | cont ρ => exact q.elim
/-! ### ends of steps -/
def chK (z : PV) (r : Res PV) (S : Store) : Res PV := match z with
  | .bl true => r
  | .bl false => .ok (.bl false) S
  | _ => .bad
theorem chK_bl {b : Bool} {r : Res PV} {S : Store} : chK (.bl b) r S = if b = true then r else .ok (.bl false) S := by cases b <;> rfl
def sqK (c : Calls) (fu : Nat) (ts : Ts) (f : Fl) (S : Store) : Res Fl := match f with
  | .next ρ => exTs c fu ts ρ S
  | f => .ok f S
section
variable {c : Calls} {fu : Nat} {ts : Ts} {ρ : Loc} {S : Store} {v : PV}
theorem sq_next : sqK c fu ts (.next ρ) S = exTs c fu ts ρ S := (rfl)
theorem sq_ret : sqK c fu ts (.ret v) S = .ok (.ret v) S := (rfl)
theorem sq_brk : sqK c fu ts (.brk ρ) S = .ok (.brk ρ) S := (rfl)
theorem sq_cont : sqK c fu ts (.cont ρ) S = .ok (.cont ρ) S := (rfl)
theorem ex_cons' (t : T) (ts : Ts) : exTs c fu (.cons t ts) ρ S = (exT c fu t ρ S).bind fun f S1 => sqK c fu ts f S1 := by
  rw [ex_cons]
  show (exT c fu t ρ S).bind _ = _
  refine congrArg _ (funext fun f => funext fun S1 => ?_)
  cases f <;> rfl
theorem ev_chain' (op op' : CmpOp) (a b d : E) : evE c (.chain op op' a b d) ρ S = (evE c a ρ S).bind fun x S1 => (evE c b ρ S1).bind fun y S2 => (cmpV op x y S2).bind fun z S3 => chK z ((evE c d ρ S3).bind fun w S4 => cmpV op' y w S4) S3 := by
  rw [ev_chain]
  show (evE c a ρ S).bind _ = _
  refine congrArg _ (funext fun x => funext fun S1 => congrArg _ (funext fun y => funext fun S2 => congrArg _ (funext fun z => funext fun S3 => ?_)))
  cases z with
  | bl b => cases b <;> rfl
  | _ => rfl
end
section
variable {i j : Int} {S : Store}
theorem b_add : binV .Add (.int i) (.int j) S = .ok (.int (i + j)) S := (rfl)
theorem b_sub : binV .Sub (.int i) (.int j) S = .ok (.int (i - j)) S := (rfl)
theorem b_mul (h : -18446744073709551616 < j ∧ j < 18446744073709551616) : binV .Mult (.int i) (.int j) S = .ok (.int (i * j)) S := by
  show (if cMul i j = true then _ else _) = _
  exact if_pos (decide_eq_true (.inl h))
theorem b_mulL (h : -18446744073709551616 < i ∧ i < 18446744073709551616) : binV .Mult (.int i) (.int j) S = .ok (.int (i * j)) S := by
  show (if cMul i j = true then _ else _) = _
  exact if_pos (decide_eq_true (.inr (.inl h)))
theorem b_mod (h : 0 < j) : binV .Mod (.int i) (.int j) S = .ok (.int (i % j)) S := by
  show (if cMod i j = true then _ else _) = _
  exact if_pos (decide_eq_true h)
theorem b_div (h : 0 < j ∧ j < 1073741824) : binV .FloorDiv (.int i) (.int j) S = .ok (.int (i / j)) S := by
  show (if cDiv i j = true then _ else _) = _
  exact if_pos (decide_eq_true ⟨h.1, .inl h.2⟩)
theorem i_add : ibinV .Add (.int i) (.int j) S = .ok (.int (i + j)) S := (rfl)
theorem i_sub : ibinV .Sub (.int i) (.int j) S = .ok (.int (i - j)) S := (rfl)
theorem c_lt : cmpV .Lt (.int i) (.int j) S = .ok (.bl (decide (i < j))) S := (rfl)
theorem c_le : cmpV .LtE (.int i) (.int j) S = .ok (.bl (decide (i ≤ j))) S := (rfl)
theorem c_gt : cmpV .Gt (.int i) (.int j) S = .ok (.bl (decide (j < i))) S := (rfl)
theorem c_ge : cmpV .GtE (.int i) (.int j) S = .ok (.bl (decide (j ≤ i))) S := (rfl)
theorem c_eq : cmpV .Eq (.int i) (.int j) S = .ok (.bl (decide (i = j))) S := (rfl)
theorem c_ne : cmpV .NotEq (.int i) (.int j) S = .ok (.bl (!decide (i = j))) S := (rfl)
theorem c_eqs {a b : List Nat} : cmpV .Eq (.str a) (.str b) S = .ok (.bl (decide (a = b))) S := (rfl)
theorem c_nes {a b : List Nat} : cmpV .NotEq (.str a) (.str b) S = .ok (.bl (!decide (a = b))) S := (rfl)
theorem c_eqb {a b : Bool} : cmpV .Eq (.bl a) (.bl b) S = .ok (.bl (decide (a = b))) S := (rfl)
theorem t_bl {b : Bool} : tru (.bl b) S = .ok b S := (rfl)
theorem t_int : tru (.int i) S = .ok (i != 0) S := (rfl)
theorem t_non : tru .non S = .ok false S := (rfl)
theorem p_int : partV (.int i) S = .ok (some i) S := (rfl)
theorem f_int : btF .int [.int i] S = .ok (.int i) S := (rfl)
theorem r_1 (h : -big62 ≤ i ∧ i < big62) : rngV [.int i] S = .ok (.vals (rngL 0 i.toNat)) S := if_pos h
theorem r_2 (h : -big62 ≤ i ∧ i < big62 ∧ -big62 ≤ j ∧ j < big62) : rngV [.int i, .int j] S = .ok (.vals (rngL i (j - i).toNat)) S := if_pos h
theorem as_t2 {p q : Nat} {v w : PV} {ρ : Loc} : asPR (.tup (.cons (.name p) (.cons (.name q) .nil))) (.tup [v, w]) ρ S = .ok ((ρ.set p (some v)).set q (some w)) S := by simp [asPR, asP, asPs]
theorem as_t3 {p q r : Nat} {v w u : PV} {ρ : Loc} : asPR (.tup (.cons (.name p) (.cons (.name q) (.cons (.name r) .nil)))) (.tup [v, w, u]) ρ S = .ok (((ρ.set p (some v)).set q (some w)).set r (some u)) S := by simp [asPR, asP, asPs]
theorem W_r1 {Q : Ir → Store → Prop} (h : -big62 ≤ i ∧ i < big62) (q : Q (.vals (rngL 0 i.toNat)) S) : W (rngV [.int i] S) Q := by rw [r_1 h]; exact .ok q
theorem W_r2 {Q : Ir → Store → Prop} (h : -big62 ≤ i ∧ i < big62 ∧ -big62 ≤ j ∧ j < big62) (q : Q (.vals (rngL i (j - i).toNat)) S) : W (rngV [.int i, .int j] S) Q := by rw [r_2 h]; exact .ok q
theorem tl0 {α : Type} {x y : α} : (if ([] : List PV).length ≤ lim then x else y) = x := if_pos (show 0 ≤ lim by decide)
theorem tl1 {α : Type} {a : PV} {x y : α} : (if ([a] : List PV).length ≤ lim then x else y) = x := if_pos (show 1 ≤ lim by decide)
theorem tl2 {α : Type} {a b : PV} {x y : α} : (if ([a, b] : List PV).length ≤ lim then x else y) = x := if_pos (show 2 ≤ lim by decide)
theorem tl3 {α : Type} {a b c : PV} {x y : α} : (if ([a, b, c] : List PV).length ≤ lim then x else y) = x := if_pos (show 3 ≤ lim by decide)
theorem tl4 {α : Type} {a b c d : PV} {x y : α} : (if ([a, b, c, d] : List PV).length ≤ lim then x else y) = x := if_pos (show 4 ≤ lim by decide)
theorem tl5 {α : Type} {a b c d e : PV} {x y : α} : (if ([a, b, c, d, e] : List PV).length ≤ lim then x else y) = x := if_pos (show 5 ≤ lim by decide)
theorem tl6 {α : Type} {a b c d e f : PV} {x y : α} : (if ([a, b, c, d, e, f] : List PV).length ≤ lim then x else y) = x := if_pos (show 6 ≤ lim by decide)
theorem as_n {p : Nat} {v : PV} {ρ : Loc} : asPR (.name p) v ρ S = .ok (ρ.set p (some v)) S := by simp [asPR, asP]
end
/-! ### what is kept -/
/-- all that stood stands, but at p -/
def Kp (p : Nat → Prop) (S S' : Store) : Prop := ∀ n o, p n → S[n]? = some o → S'[n]? = some o
abbrev Sub (S S' : Store) : Prop := Kp (fun _ => True) S S'
section
variable {p : Nat → Prop} {S S1 S' : Store}
theorem Kp.refl : Kp p S S := fun _ _ _ h => h
theorem Kp.trans (a : Kp p S S1) (b : Kp p S1 S') : Kp p S S' := fun n o h e => b n o h (a n o h e)
theorem Kp.of (h : Sub S S') : Kp p S S' := fun n o _ e => h n o trivial e
theorem Kp.push {o : SO} : Kp p S (S ++ [o]) := fun n o' _ e => by
  have : n < S.length := (List.getElem?_eq_some_iff.mp e).1
  rw [List.getElem?_append_left this]; exact e
theorem Kp.set {n : Nat} {o : SO} (h : ¬p n) : Kp p S (S.set n o) := fun m o' hp e => by
  rw [List.getElem?_set_ne (fun q => h (by rw [q]; exact hp))]; exact e
theorem at_push {o : SO} : (S ++ [o])[S.length]? = some o := by simp
/-- not the written one -/
def NotR (p : Nat → Prop) : PV → Prop
  | .ref n => p n
  | _ => True
theorem items_kp {x : PV} {xs : List PV} (k : Kp p S S') (hx : NotR p x) (h : itemsOf S x = some xs) : itemsOf S' x = some xs := by
  cases x with
  | ref n =>
    unfold itemsOf at h ⊢
    dsimp only at h ⊢
    split at h
    · rename_i ys e
      rw [k n _ hx e]; exact h
    · cases h
  | _ => exact h
theorem items_sub {x : PV} {xs : List PV} (k : Sub S S') (h : itemsOf S x = some xs) : itemsOf S' x = some xs := items_kp k (by cases x <;> exact trivial) h
theorem items_ref {n : Nat} {xs : List PV} (h : S[n]? = some (.lst xs)) : itemsOf S (.ref n) = some xs := by unfold itemsOf; dsimp only; rw [h]
theorem items_tup {xs : List PV} : itemsOf S (.tup xs) = some xs := rfl
theorem not_str {x : PV} {xs : List PV} (h : itemsOf S x = some xs) : ∀ z, x ≠ .str z := by intro z e; rw [e] at h; cases h
theorem f_len {x : PV} {xs : List PV} (h : itemsOf S x = some xs) : btF .len [x] S = .ok (.int xs.length) S := by
  show lenF [x] S = _
  unfold lenF
  split
  · rename_i e; cases e; cases h
  · rename_i e; cases e; rw [h]
  · rename_i h1 h2; exact absurd rfl (h2 x)
theorem f_lens {a : List Nat} (h : a.length ≤ lim) : btF .len [.str a] S = .ok (.int a.length) S := by
  show lenF [.str a] S = _
  unfold lenF
  dsimp only
  rw [if_pos h]
theorem f_tuple {x : PV} {xs : List PV} (h : itemsOf S x = some xs) : btF .tuple [x] S = .ok (.tup xs) S := by show tupleF [x] S = _; unfold tupleF; dsimp only; rw [h]
theorem f_list {x : PV} {xs : List PV} (h : itemsOf S x = some xs) : btF .list [x] S = .ok (.ref S.length) (S ++ [.lst xs]) := by show listF [x] S = _; unfold listF; dsimp only; rw [h]
theorem ints_of : ∀ ns : List Int, intsOf (ns.map .int) = some ns
  | [] => rfl
  | n :: ns => by
    show intsOf (.int n :: ns.map .int) = _
    unfold intsOf
    rw [ints_of ns]; rfl
theorem bls_of : ∀ ns : List Bool, blsOf (ns.map .bl) = some ns
  | [] => rfl
  | n :: ns => by
    show blsOf (.bl n :: ns.map .bl) = _
    unfold blsOf
    rw [bls_of ns]; rfl
theorem lit_ref {n : Nat} {xs : List PV} (h : S[n]? = some (.lst xs)) : litems S (.ref n) = some xs := by unfold litems; dsimp only; rw [h]
theorem f_sum {n : Nat} {ns : List Int} (h : S[n]? = some (.lst (ns.map .int))) : btF .sum [.ref n] S = .ok (.int ns.sum) S := by
  show sumF [.ref n] S = _
  unfold sumF
  dsimp only
  rw [lit_ref h, Option.bind_some, ints_of]
theorem f_max {n : Nat} {ns : List Int} (h : S[n]? = some (.lst (ns.map .int))) (h0 : 0 < ns.length) : btF .max [.ref n] S = .ok (.int (maxL ns)) S := by
  show maxF [.ref n] S = _
  unfold maxF
  dsimp only
  rw [lit_ref h, Option.bind_some, ints_of]
  exact if_pos h0
theorem f_min {n : Nat} {ns : List Int} (h : S[n]? = some (.lst (ns.map .int))) (h0 : 0 < ns.length) : btF .min [.ref n] S = .ok (.int (minL ns)) S := by
  show minF [.ref n] S = _
  unfold minF
  dsimp only
  rw [lit_ref h, Option.bind_some, ints_of]
  exact if_pos h0
theorem f_all {n : Nat} {ns : List Bool} (h : S[n]? = some (.lst (ns.map .bl))) : btF .all [.ref n] S = .ok (.bl (ns.all id)) S := by
  show boolsF _ [.ref n] S = _
  unfold boolsF
  dsimp only
  rw [lit_ref h, Option.bind_some, bls_of]
theorem f_any {n : Nat} {ns : List Bool} (h : S[n]? = some (.lst (ns.map .bl))) : btF .any [.ref n] S = .ok (.bl (ns.any id)) S := by
  show boolsF _ [.ref n] S = _
  unfold boolsF
  dsimp only
  rw [lit_ref h, Option.bind_some, bls_of]
theorem at_nat {α : Type} {xs : List α} {i : Int} (h0 : 0 ≤ i) (h1 : i < xs.length) : atI xs i = xs[i.toNat]? := by
  unfold atI ixN
  rw [if_pos h0, if_pos h1]
  rfl
theorem ix_at {x v : PV} {xs : List PV} {i : Int} (h : itemsOf S x = some xs) (h0 : 0 ≤ i) (e : xs[i.toNat]? = some v) : ixV x (.int i) S = .ok v S := by
  have h1 : i < xs.length := by have := (List.getElem?_eq_some_iff.mp e).1; omega
  unfold ixV
  dsimp only
  split
  · cases h
  · rw [h]; dsimp only; rw [at_nat h0 h1, e]
theorem sl_items {x : PV} {xs : List PV} {lo hi : Option Int} (h : itemsOf S x = some xs) : W (slV x lo hi S) (fun y S' => Sub S S' ∧ itemsOf S' y = some (cut xs lo hi)) := by
  cases x with
  | tup ys => cases h; exact .ok ⟨.refl, rfl⟩
  | ltc ys => cases h; exact .ok ⟨.push, items_ref at_push⟩
  | ref n =>
    unfold itemsOf at h
    dsimp only at h
    split at h
    · rename_i ys e
      cases h
      unfold slV
      dsimp only
      rw [e]
      exact .ok ⟨.push, items_ref at_push⟩
    · cases h
  | _ => cases h
theorem m_append {n : Nat} {xs : List PV} {y : PV} (h : S[n]? = some (.lst xs)) (hl : xs.length < lim) : mtF .append (.ref n) [y] S = .ok .non (S.set n (.lst (xs ++ [y]))) := by
  show appendM (.ref n) [y] S = _
  unfold appendM
  dsimp only
  rw [h]
  exact if_pos hl
theorem ty_ref {n : Nat} {xs : List PV} (h : S[n]? = some (.lst xs)) : tyOf S (.ref n) = some .list := by unfold tyOf; dsimp only; rw [h]
theorem ty_items {x : PV} {xs : List PV} (h : itemsOf S x = some xs) : tyOf S x = some .tuple ∨ tyOf S x = some .list := by
  cases x with
  | tup ys => exact .inl rfl
  | ltc ys => exact .inr rfl
  | ref n =>
    unfold itemsOf at h
    dsimp only at h
    split at h
    · rename_i ys e
      exact .inr (ty_ref e)
    · cases h
  | _ => cases h
theorem set_at {n : Nat} {xs : List PV} {k : Int} {v : PV} (h : S[n]? = some (.lst xs)) (h0 : 0 ≤ k) (h1 : k < xs.length) : setV (.ref n) (.int k) v S = .ok () (S.set n (.lst (xs.set k.toNat v))) := by
  unfold setV
  dsimp only
  rw [h]
  dsimp only [ixN]
  rw [if_pos h0, if_pos h1]
end
/-! ### turns -/
/-- the items with their places -/
def enumL (ys : List PV) : List PV := ys.mapIdx fun i x => .tup [.int (i : Int), x]
/-- an iterator that gives xs -/
def IrIs (S : Store) : Ir → List PV → Prop
  | .vals ys, xs => ys = xs
  | .live n, xs => S[n]? = some (.lst xs)
  | .enu r, xs => ∃ ys, IrIs S r ys ∧ xs = enumL ys
section
variable {p : Nat → Prop} {S S' : Store} {it : Ir} {xs : List PV}
def NotI (p : Nat → Prop) : Ir → Prop
  | .vals _ => True
  | .live n => p n
  | .enu r => NotI p r
theorem IrIs.kp : ∀ {it : Ir} {xs : List PV}, IrIs S it xs → NotI p it → Kp p S S' → IrIs S' it xs
  | .vals ys, _, h, _, _ => h
  | .live n, _, h, hp, k => k n _ hp h
  | .enu r, _, h, hp, k => by
    obtain ⟨ys, h1, h2⟩ := h
    exact ⟨ys, IrIs.kp h1 hp k, h2⟩
theorem IrIs.get : ∀ {it : Ir} {xs : List PV}, IrIs S it xs → ∀ i : Nat, it.get S i = xs[i]?
  | .vals ys, _, h, i => by cases h; rfl
  | .live n, xs, h, i => by show (match S[n]? with | some (.lst xs) => xs[i]? | _ => none) = _; rw [show S[n]? = _ from h]
  | .enu r, _, h, i => by
    obtain ⟨ys, h1, rfl⟩ := h
    show (r.get S i).map _ = _
    rw [IrIs.get h1 i]
    unfold enumL
    rw [List.getElem?_mapIdx]
theorem IrIs.fin : ∀ {it : Ir} {xs : List PV}, IrIs S it xs → ∀ i : Nat, it.fin S i = decide (xs.length ≤ i)
  | .vals ys, _, h, i => by cases h; rfl
  | .live n, xs, h, i => by show (match S[n]? with | some (.lst xs) => decide (xs.length ≤ i) | _ => false) = _; rw [show S[n]? = _ from h]
  | .enu r, _, h, i => by
    obtain ⟨ys, h1, rfl⟩ := h
    show r.fin S i = _
    rw [IrIs.fin h1 i]
    unfold enumL
    rw [List.length_mapIdx]
theorem IrIs.len : ∀ {it : Ir} {xs : List PV}, IrIs S it xs → it.len S = xs.length
  | .vals ys, _, h => by cases h; rfl
  | .live n, xs, h => by show (match S[n]? with | some (.lst xs) => xs.length | _ => 0) = _; rw [show S[n]? = _ from h]
  | .enu r, _, h => by
    obtain ⟨ys, h1, rfl⟩ := h
    show r.len S = _
    rw [IrIs.len h1]
    unfold enumL
    rw [List.length_mapIdx]
theorem it_items {x : PV} (h : itemsOf S x = some xs) : W (iterV x S) (fun r S' => S' = S ∧ IrIs S r xs ∧ ∀ p, NotR p x → NotI p r) := by
  cases x with
  | tup ys => cases h; exact .ok ⟨rfl, rfl, fun _ _ => trivial⟩
  | ltc ys => cases h; exact .ok ⟨rfl, rfl, fun _ _ => trivial⟩
  | ref n =>
    unfold itemsOf at h
    dsimp only at h
    split at h
    · rename_i ys e
      cases h
      exact .ok ⟨rfl, e, fun _ h => h⟩
    · cases h
  | _ => cases h
theorem W_lcI {turn : PV → Store → Res (Option PV)} (I : Nat → List PV → Store → Prop) (hg : ∀ i acc S, I i acc S → IrIs S it xs)
    (hs : ∀ i x acc S, xs[i]? = some x → I i acc S → W (turn x S) (fun r S' => match r with | some y => acc.length < lim ∧ I (i + 1) (acc ++ [y]) S' | none => I (i + 1) acc S')) :
    ∀ (k i : Nat) (acc : List PV) (S : Store), i ≤ xs.length → xs.length < k + i → I i acc S → W (lcN it turn k i acc S) (fun ys S' => I xs.length ys S')
  | 0, i, acc, S, h1, h2, _ => by omega
  | k + 1, i, acc, S, h1, h2, h => by
    have hi := hg i acc S h
    unfold lcN
    rw [hi.get]
    by_cases hl : i < xs.length
    · have e : xs[i]? = some xs[i] := List.getElem?_eq_getElem hl
      rw [e]
      dsimp only
      rw [W_bind]
      refine (hs i _ acc S e h).mono fun r S' q => ?_
      cases r with
      | some y => dsimp only at q ⊢; rw [if_pos q.1]; exact W_lcI I hg hs k (i + 1) _ S' hl (by omega) q.2
      | none => exact W_lcI I hg hs k (i + 1) _ S' hl (by omega) q
    · have e : xs[i]? = none := List.getElem?_eq_none_iff.mpr (by omega)
      rw [e]
      dsimp only
      rw [hi.fin, if_pos (decide_eq_true (by omega))]
      have : i = xs.length := by omega
      subst this
      exact .ok h
/-- a comprehension whose turns write nothing that stood -/
theorem W_lc {turn : PV → Store → Res (Option PV)} (f : PV → Option PV) (hi : IrIs S it xs) (hp : NotI p it) (hl : xs.length ≤ lim)
    (h : ∀ x, x ∈ xs → ∀ S1, Kp p S S1 → W (turn x S1) (fun r S2 => r = f x ∧ Kp p S1 S2)) :
    W (lcN it turn (it.len S + 1) 0 [] S) (fun ys S' => ys = xs.filterMap f ∧ Kp p S S') := by
  rw [hi.len]
  refine (W_lcI (it := it) (xs := xs) (fun i acc S1 => acc = (xs.take i).filterMap f ∧ Kp p S S1 ∧ i ≤ xs.length) (fun i acc S1 q => hi.kp hp q.2.1) (fun i x acc S1 e q => ?_) (xs.length + 1) 0 [] S (Nat.zero_le _) (by omega) ⟨by simp, .refl, Nat.zero_le _⟩).mono fun ys S' q => ⟨by rw [q.1, List.take_length], q.2.1⟩
  have hx := List.mem_of_getElem? e
  have hlt := (List.getElem?_eq_some_iff.mp e).1
  have hal : acc.length ≤ i := by rw [q.1]; exact Nat.le_trans (List.length_filterMap_le _ _) (by rw [List.length_take]; omega)
  refine (h x hx S1 q.2.1).mono fun r S2 q2 => ?_
  have ht : xs.take (i + 1) = xs.take i ++ [x] := by rw [List.take_add_one, e]; rfl
  have hf : (xs.take (i + 1)).filterMap f = acc ++ (f x).toList := by
    rw [ht, List.filterMap_append, ← q.1]
    simp [List.filterMap_cons]
    cases f x <;> rfl
  rw [q2.1] at *
  cases hfx : f x with
  | some y => rw [hfx] at hf; exact ⟨by omega, hf.symm, q.2.1.trans q2.2, hlt⟩
  | none => rw [hfx] at hf; exact ⟨by rw [hf]; simp, q.2.1.trans q2.2, hlt⟩
/-- a for's turns -/
theorem W_for {body : PV → Loc → Store → Res Fl} {Q : Fl → Store → Prop} (I : Nat → Loc → Store → Prop) (hg : ∀ i ρ S, I i ρ S → IrIs S it xs)
    (hs : ∀ i x ρ S, xs[i]? = some x → I i ρ S → W (body x ρ S) (fun f S' => match f with | .next ρ' => I (i + 1) ρ' S' | .cont ρ' => I (i + 1) ρ' S' | .brk ρ' => Q (.next ρ') S' | .ret v => Q (.ret v) S'))
    (he : ∀ ρ S, I xs.length ρ S → Q (.next ρ) S) :
    ∀ (k i : Nat) (ρ : Loc) (S : Store), i ≤ xs.length → xs.length < k + i → I i ρ S → W (forN it body k i ρ S) Q
  | 0, i, ρ, S, h1, h2, _ => by omega
  | k + 1, i, ρ, S, h1, h2, h => by
    have hi := hg i ρ S h
    unfold forN
    rw [hi.get]
    by_cases hl : i < xs.length
    · have e : xs[i]? = some xs[i] := List.getElem?_eq_getElem hl
      rw [e]
      dsimp only
      rw [W_bind]
      refine (hs i _ ρ S e h).mono fun f S' q => ?_
      cases f with
      | next ρ' => exact W_for I hg hs he k (i + 1) _ S' hl (by omega) q
      | cont ρ' => exact W_for I hg hs he k (i + 1) _ S' hl (by omega) q
      | brk ρ' => exact .ok q
      | ret v => exact .ok q
    · have e : xs[i]? = none := List.getElem?_eq_none_iff.mpr (by omega)
      rw [e]
      dsimp only
      rw [hi.fin, if_pos (decide_eq_true (by omega))]
      have : i = xs.length := by omega
      subst this
      exact .ok (he ρ S h)
theorem W_for0 {body : PV → Loc → Store → Res Fl} {Q : Fl → Store → Prop} {ρ : Loc} (hi : IrIs S it xs) (I : Nat → Loc → Store → Prop) (h0 : I 0 ρ S) (hg : ∀ i ρ S, I i ρ S → IrIs S it xs)
    (hs : ∀ i x ρ S, xs[i]? = some x → I i ρ S → W (body x ρ S) (fun f S' => match f with | .next ρ' => I (i + 1) ρ' S' | .cont ρ' => I (i + 1) ρ' S' | .brk ρ' => Q (.next ρ') S' | .ret v => Q (.ret v) S'))
    (he : ∀ ρ S, I xs.length ρ S → Q (.next ρ) S) : W (forN it body (it.len S + 1) 0 ρ S) Q := by
  rw [hi.len]
  exact W_for I hg hs he _ 0 ρ S (Nat.zero_le _) (by omega) h0
end
end Mp

/-! Mq1: the small defs that all the laws share. -/
namespace Mp
open PySem PySem.Spec L2
theorem eq_of_W {r : Res PV} {S : Store} {v : PV} (h : W r (fun v' S' => v' = v ∧ S' = S)) : r = .ok v S := by
  obtain ⟨a, S1, e, rfl, rfl⟩ := h.get
  exact e
theorem W_fn2 {fs : List Fn} {fu k i n m : Nat} {b : Ts} {xs : List PV} {ρ : Loc} {S : Store} {Q : PV → Store → Prop} (hf : fs[i]? = some ⟨n, m, b⟩) (hp : xs.length = m) (hρ : xs.map some ++ List.replicate (n - xs.length) none = ρ)
    (h : W (exTs (callN fs fu k) fu b ρ S) (fin Q)) : W (callN fs fu (k + 1) i xs S) Q := W_fn hf hp (by subst hρ; exact h)
def bDemand : Ts := Ts.cons (T.ite (E.not (E.var 0)) (Ts.cons (T.never) (Ts.nil)) (Ts.nil)) (Ts.nil)
def bIsInteger : Ts := Ts.cons (T.ret (E.and (E.isi (E.var 0) [Ty.int]) (E.not (E.isi (E.var 0) [Ty.bool])))) (Ts.nil)
def bIsWithin (i : Nat) : Ts := Ts.cons (T.ret (E.and (E.call i (Es.cons (E.var 0) (Es.nil))) (E.chain (CmpOp.LtE) (CmpOp.LtE) (E.var 1) (E.var 0) (E.var 2)))) (Ts.nil)
def bIsSequence : Ts := Ts.cons (T.ret (E.isi (E.var 0) [Ty.list, Ty.tuple])) (Ts.nil)
def bIsRow (i : Nat) : Ts := Ts.cons (T.ret (E.and (E.call i (Es.cons (E.var 0) (Es.nil))) (E.chain (CmpOp.LtE) (CmpOp.LtE) (E.var 1) (E.bt (Bt.len) (Es.cons (E.var 0) (Es.nil))) (E.var 2)))) (Ts.nil)
def bSo (i : Nat) : Ts := Ts.cons (T.ite (E.cmp (CmpOp.Is) (E.var 1) (E.cst (PV.non))) (Ts.cons (T.ret (E.cmp (CmpOp.Is) (E.var 0) (E.cst (PV.non)))) (Ts.nil)) (Ts.nil)) (Ts.cons (T.ite (E.isi (E.var 1) [Ty.tuple]) (Ts.cons (T.ite (E.or (E.not (E.isi (E.var 0) [Ty.tuple])) (E.cmp (CmpOp.NotEq) (E.bt (Bt.len) (Es.cons (E.var 0) (Es.nil))) (E.bt (Bt.len) (Es.cons (E.var 1) (Es.nil))))) (Ts.cons (T.ret (E.cst (PV.bl false))) (Ts.nil)) (Ts.nil)) (Ts.cons (T.frr (It.rng (Es.cons (E.bt (Bt.len) (Es.cons (E.var 1) (Es.nil))) (Es.nil))) (Tg.pat (Pt.name 2)) (Ts.cons (T.ite (E.not (E.call i (Es.cons (E.ix (E.var 0) (E.var 2)) (Es.cons (E.ix (E.var 1) (E.var 2)) (Es.nil))))) (Ts.cons (T.ret (E.cst (PV.bl false))) (Ts.nil)) (Ts.nil)) (Ts.nil))) (Ts.cons (T.ret (E.cst (PV.bl true))) (Ts.nil)))) (Ts.nil)) (Ts.cons (T.ite (E.or (E.isi (E.var 1) [Ty.bool]) (E.isi (E.var 0) [Ty.bool])) (Ts.cons (T.ret (E.and (E.isi (E.var 1) [Ty.bool]) (E.and (E.isi (E.var 0) [Ty.bool]) (E.cmp (CmpOp.Eq) (E.var 0) (E.var 1))))) (Ts.nil)) (Ts.nil)) (Ts.cons (T.ite (E.isi (E.var 1) [Ty.int]) (Ts.cons (T.ret (E.and (E.isi (E.var 0) [Ty.int]) (E.cmp (CmpOp.Eq) (E.var 0) (E.var 1)))) (Ts.nil)) (Ts.nil)) (Ts.cons (T.ret (E.and (E.isi (E.var 1) [Ty.str]) (E.and (E.isi (E.var 0) [Ty.str]) (E.cmp (CmpOp.Eq) (E.var 0) (E.var 1))))) (Ts.nil)))))
def bNumbers : Ts := Ts.cons (T.asg (Tg.pat (Pt.name 1)) (E.lst (Es.nil))) (Ts.cons (T.frr (It.e (E.sl (E.var 0) (Oe.none) (Oe.some (E.cst (PV.int 63))))) (Tg.pat (Pt.name 2)) (Ts.cons (T.ite (E.cmp (CmpOp.GtE) (E.var 2) (E.bin (Operator.Pow) (E.cst (PV.int 10)) (E.cst (PV.int 18)))) (Ts.cons (T.asg (Tg.pat (Pt.name 3)) (E.var 2)) (Ts.cons (T.frr (It.rng (Es.cons (E.cst (PV.int 60)) (Es.nil))) (Tg.pat (Pt.name 4)) (Ts.cons (T.ite (E.cmp (CmpOp.Eq) (E.var 3) (E.cst (PV.int 0))) (Ts.cons (T.brk) (Ts.nil)) (Ts.nil)) (Ts.cons (T.expr (E.mt (Mt.append) (E.var 1) (Es.cons (E.bin (Operator.Mod) (E.bt (Bt.int) (Es.cons (E.var 3) (Es.nil))) (E.cst (PV.int 997))) (Es.nil)))) (Ts.cons (T.asg (Tg.pat (Pt.name 3)) (E.bin (Operator.FloorDiv) (E.var 3) (E.cst (PV.int 997)))) (Ts.nil))))) (Ts.nil))) (Ts.cons (T.frr (It.rng (Es.cons (E.cst (PV.int 4)) (Es.nil))) (Tg.pat (Pt.name 4)) (Ts.cons (T.asg (Tg.pat (Pt.name 5)) (E.bin (Operator.Mod) (E.bt (Bt.int) (Es.cons (E.bin (Operator.Add) (E.bin (Operator.Add) (E.bin (Operator.Mult) (E.var 2) (E.cst (PV.int 48271))) (E.bin (Operator.Mult) (E.var 4) (E.cst (PV.int 69621)))) (E.cst (PV.int 11))) (Es.nil))) (E.cst (PV.int 2147483647)))) (Ts.cons (T.expr (E.mt (Mt.append) (E.var 1) (Es.cons (E.bin (Operator.Mod) (E.bt (Bt.int) (Es.cons (E.bin (Operator.Add) (E.bin (Operator.Mult) (E.var 5) (E.cst (PV.int 16807))) (E.var 4)) (Es.nil))) (E.cst (PV.int 2147483629))) (Es.nil)))) (Ts.nil)))) (Ts.nil))) (Ts.nil))) (Ts.cons (T.ite (E.cmp (CmpOp.Eq) (E.bt (Bt.len) (Es.cons (E.var 1) (Es.nil))) (E.cst (PV.int 0))) (Ts.cons (T.expr (E.mt (Mt.append) (E.var 1) (Es.cons (E.cst (PV.int 0)) (Es.nil)))) (Ts.nil)) (Ts.nil)) (Ts.cons (T.ret (E.var 1)) (Ts.nil))))
def bDraw : Ts := Ts.cons (T.ite (E.cmp (CmpOp.Lt) (E.var 1) (E.bt (Bt.len) (Es.cons (E.var 0) (Es.nil)))) (Ts.cons (T.ret (E.bin (Operator.Mod) (E.bt (Bt.int) (Es.cons (E.ix (E.var 0) (E.var 1)) (Es.nil))) (E.var 2))) (Ts.nil)) (Ts.nil)) (Ts.cons (T.asg (Tg.pat (Pt.name 3)) (E.bin (Operator.Mod) (E.bt (Bt.int) (Es.cons (E.bin (Operator.Add) (E.bin (Operator.Add) (E.bin (Operator.Mult) (E.ix (E.var 0) (E.bin (Operator.Mod) (E.bt (Bt.int) (Es.cons (E.var 1) (Es.nil))) (E.bt (Bt.len) (Es.cons (E.var 0) (Es.nil))))) (E.cst (PV.int 40692))) (E.bin (Operator.Mult) (E.var 1) (E.cst (PV.int 7919)))) (E.cst (PV.int 3))) (Es.nil))) (E.cst (PV.int 2147483399)))) (Ts.cons (T.ret (E.bin (Operator.Mod) (E.bt (Bt.int) (Es.cons (E.bin (Operator.Mod) (E.bt (Bt.int) (Es.cons (E.bin (Operator.Add) (E.bin (Operator.Mult) (E.var 3) (E.cst (PV.int 48271))) (E.var 1)) (Es.nil))) (E.cst (PV.int 2147483647))) (Es.nil))) (E.var 2))) (Ts.nil)))
def bTake (i : Nat) : Ts := Ts.cons (T.asg (Tg.sub (E.var 1) (E.cst (PV.int 0))) (E.bin (Operator.Add) (E.ix (E.var 1) (E.cst (PV.int 0))) (E.cst (PV.int 1)))) (Ts.cons (T.ret (E.call i (Es.cons (E.var 0) (Es.cons (E.bin (Operator.Sub) (E.ix (E.var 1) (E.cst (PV.int 0))) (E.cst (PV.int 1))) (Es.cons (E.var 2) (Es.nil)))))) (Ts.nil))
def bListed (i : Nat) : Ts := Ts.cons (T.ite (E.isi (E.var 0) [Ty.tuple]) (Ts.cons (T.ret (E.lc [1] (It.e (E.var 0)) (Pt.name 1) (Oe.none) (E.call i (Es.cons (E.var 1) (Es.nil))))) (Ts.nil)) (Ts.nil)) (Ts.cons (T.ret (E.var 0)) (Ts.nil))
def bHanded (i j : Nat) : Ts := Ts.cons (T.ret (E.ite (E.cmp (CmpOp.Eq) (E.call i (Es.cons (E.var 0) (Es.cons (E.var 1) (Es.cons (E.cst (PV.int 2)) (Es.nil))))) (E.cst (PV.int 0))) (E.call j (Es.cons (E.var 2) (Es.nil))) (E.var 2))) (Ts.nil)
section
variable {fs : List Fn} {fu k i j : Nat} {S : Store}
theorem demand_eq (hf : fs[i]? = some ⟨2, 2, bDemand⟩) {a : PV} : callN fs fu (k + 1) i [.bl true, a] S = .ok .non S := by
  refine eq_of_W ?_
  refine W_fn2 hf rfl rfl ?_; simp only [List.map_cons, List.map_nil, List.length_cons, List.length_nil, List.cons_append, List.nil_append, List.append_nil, List.replicate_succ, List.replicate_zero, Nat.reduceAdd, Nat.reduceSub, Nat.zero_add]
  unfold bDemand
  simp only [ev_var, ev_cst, ev_bin, ev_neg, ev_cmp, ev_chain', ev_and, ev_or, ev_not, ev_ite, ev_tup, ev_lst, ev_ix, ev_sl, ev_call, ev_bt, ev_mt, ev_isi, ev_lc, ev_nil, ev_cons, ev_onone, ev_osome, ev_cnone, ev_csome, ev_ie, ev_rng, ev_enu, asT, ex_asg, ex_asgS, ex_par, ex_aug, ex_ite, ex_whl, ex_for, ex_expr, ex_ret, ex_retN, ex_pass, ex_brk, ex_cont, ex_never, ex_nil, ex_cons', W_ok, W_bind, fin_ret, fin_next, chK_bl, sq_next, sq_ret, sq_brk, sq_cont, bnd_ok, b_add, b_sub, i_add, i_sub, c_lt, c_le, c_gt, c_ge, c_eq, c_ne, c_eqs, c_nes, c_eqb, t_bl, t_int, t_non, p_int, f_int, as_n, as_t2, as_t3, setMany, getL, List.getElem?_cons_zero, List.getElem?_cons_succ, List.set_cons_zero, List.set_cons_succ, wipeL, tl0, tl1, tl2, tl3, tl4, tl5, tl6, Bool.not_true, Bool.not_false, decide_eq_true_eq, if_true, if_false, ite_true, ite_false, eq_self, Bool.false_eq_true, and_self]
theorem is_integer_eq (hf : fs[i]? = some ⟨1, 1, bIsInteger⟩) {n : Int} : callN fs fu (k + 1) i [.int n] S = .ok (.bl true) S := by
  refine eq_of_W ?_
  refine W_fn2 hf rfl rfl ?_; simp only [List.map_cons, List.map_nil, List.length_cons, List.length_nil, List.cons_append, List.nil_append, List.append_nil, List.replicate_succ, List.replicate_zero, Nat.reduceAdd, Nat.reduceSub, Nat.zero_add]
  unfold bIsInteger
  simp only [ev_var, ev_cst, ev_bin, ev_neg, ev_cmp, ev_chain', ev_and, ev_or, ev_not, ev_ite, ev_tup, ev_lst, ev_ix, ev_sl, ev_call, ev_bt, ev_mt, ev_isi, ev_lc, ev_nil, ev_cons, ev_onone, ev_osome, ev_cnone, ev_csome, ev_ie, ev_rng, ev_enu, asT, ex_asg, ex_asgS, ex_par, ex_aug, ex_ite, ex_whl, ex_for, ex_expr, ex_ret, ex_retN, ex_pass, ex_brk, ex_cont, ex_never, ex_nil, ex_cons', W_ok, W_bind, fin_ret, fin_next, chK_bl, sq_next, sq_ret, sq_brk, sq_cont, bnd_ok, b_add, b_sub, i_add, i_sub, c_lt, c_le, c_gt, c_ge, c_eq, c_ne, c_eqs, c_nes, c_eqb, t_bl, t_int, t_non, p_int, f_int, as_n, as_t2, as_t3, setMany, getL, List.getElem?_cons_zero, List.getElem?_cons_succ, List.set_cons_zero, List.set_cons_succ, wipeL, tl0, tl1, tl2, tl3, tl4, tl5, tl6, Bool.not_true, Bool.not_false, decide_eq_true_eq, if_true, if_false, ite_true, ite_false, eq_self, Bool.false_eq_true, isiF, tyOf, List.any_cons, List.any_nil, isaT, Bool.or_false, decide_true, and_self]
  exact ⟨rfl, trivial⟩
theorem is_within_eq (hf : fs[i]? = some ⟨3, 3, bIsWithin j⟩) (hj : fs[j]? = some ⟨1, 1, bIsInteger⟩) {n lo hi : Int} : callN fs fu (k + 2) i [.int n, .int lo, .int hi] S = .ok (.bl (decide (lo ≤ n ∧ n ≤ hi))) S := by
  refine eq_of_W ?_
  refine W_fn2 hf rfl rfl ?_; simp only [List.map_cons, List.map_nil, List.length_cons, List.length_nil, List.cons_append, List.nil_append, List.append_nil, List.replicate_succ, List.replicate_zero, Nat.reduceAdd, Nat.reduceSub, Nat.zero_add]
  unfold bIsWithin
  simp only [ev_var, ev_cst, ev_bin, ev_neg, ev_cmp, ev_chain', ev_and, ev_or, ev_not, ev_ite, ev_tup, ev_lst, ev_ix, ev_sl, ev_call, ev_bt, ev_mt, ev_isi, ev_lc, ev_nil, ev_cons, ev_onone, ev_osome, ev_cnone, ev_csome, ev_ie, ev_rng, ev_enu, asT, ex_asg, ex_asgS, ex_par, ex_aug, ex_ite, ex_whl, ex_for, ex_expr, ex_ret, ex_retN, ex_pass, ex_brk, ex_cont, ex_never, ex_nil, ex_cons', W_ok, W_bind, fin_ret, fin_next, chK_bl, sq_next, sq_ret, sq_brk, sq_cont, bnd_ok, b_add, b_sub, i_add, i_sub, c_lt, c_le, c_gt, c_ge, c_eq, c_ne, c_eqs, c_nes, c_eqb, t_bl, t_int, t_non, p_int, f_int, as_n, as_t2, as_t3, setMany, getL, List.getElem?_cons_zero, List.getElem?_cons_succ, List.set_cons_zero, List.set_cons_succ, wipeL, tl0, tl1, tl2, tl3, tl4, tl5, tl6, Bool.not_true, Bool.not_false, decide_eq_true_eq, if_true, if_false, ite_true, ite_false, eq_self, Bool.false_eq_true, is_integer_eq hj]
  by_cases h : lo ≤ n
  · rw [if_pos h]; try simp only [ev_var, ev_cst, ev_bin, ev_neg, ev_cmp, ev_chain', ev_and, ev_or, ev_not, ev_ite, ev_tup, ev_lst, ev_ix, ev_sl, ev_call, ev_bt, ev_mt, ev_isi, ev_lc, ev_nil, ev_cons, ev_onone, ev_osome, ev_cnone, ev_csome, ev_ie, ev_rng, ev_enu, asT, ex_asg, ex_asgS, ex_par, ex_aug, ex_ite, ex_whl, ex_for, ex_expr, ex_ret, ex_retN, ex_pass, ex_brk, ex_cont, ex_never, ex_nil, ex_cons', W_ok, W_bind, fin_ret, fin_next, chK_bl, sq_next, sq_ret, sq_brk, sq_cont, bnd_ok, b_add, b_sub, i_add, i_sub, c_lt, c_le, c_gt, c_ge, c_eq, c_ne, c_eqs, c_nes, c_eqb, t_bl, t_int, t_non, p_int, f_int, as_n, as_t2, as_t3, setMany, getL, List.getElem?_cons_zero, List.getElem?_cons_succ, List.set_cons_zero, List.set_cons_succ, wipeL, tl0, tl1, tl2, tl3, tl4, tl5, tl6, Bool.not_true, Bool.not_false, decide_eq_true_eq, if_true, if_false, ite_true, ite_false, eq_self, Bool.false_eq_true]; simp [h]
  · rw [if_neg h]; try simp only [ev_var, ev_cst, ev_bin, ev_neg, ev_cmp, ev_chain', ev_and, ev_or, ev_not, ev_ite, ev_tup, ev_lst, ev_ix, ev_sl, ev_call, ev_bt, ev_mt, ev_isi, ev_lc, ev_nil, ev_cons, ev_onone, ev_osome, ev_cnone, ev_csome, ev_ie, ev_rng, ev_enu, asT, ex_asg, ex_asgS, ex_par, ex_aug, ex_ite, ex_whl, ex_for, ex_expr, ex_ret, ex_retN, ex_pass, ex_brk, ex_cont, ex_never, ex_nil, ex_cons', W_ok, W_bind, fin_ret, fin_next, chK_bl, sq_next, sq_ret, sq_brk, sq_cont, bnd_ok, b_add, b_sub, i_add, i_sub, c_lt, c_le, c_gt, c_ge, c_eq, c_ne, c_eqs, c_nes, c_eqb, t_bl, t_int, t_non, p_int, f_int, as_n, as_t2, as_t3, setMany, getL, List.getElem?_cons_zero, List.getElem?_cons_succ, List.set_cons_zero, List.set_cons_succ, wipeL, tl0, tl1, tl2, tl3, tl4, tl5, tl6, Bool.not_true, Bool.not_false, decide_eq_true_eq, if_true, if_false, ite_true, ite_false, eq_self, Bool.false_eq_true]; simp [h]
theorem is_sequence_eq (hf : fs[i]? = some ⟨1, 1, bIsSequence⟩) {x : PV} {xs : List PV} (h : itemsOf S x = some xs) : callN fs fu (k + 1) i [x] S = .ok (.bl true) S := by
  refine eq_of_W ?_
  refine W_fn2 hf rfl rfl ?_; simp only [List.map_cons, List.map_nil, List.length_cons, List.length_nil, List.cons_append, List.nil_append, List.append_nil, List.replicate_succ, List.replicate_zero, Nat.reduceAdd, Nat.reduceSub, Nat.zero_add]
  unfold bIsSequence
  simp only [ev_var, ev_cst, ev_bin, ev_neg, ev_cmp, ev_chain', ev_and, ev_or, ev_not, ev_ite, ev_tup, ev_lst, ev_ix, ev_sl, ev_call, ev_bt, ev_mt, ev_isi, ev_lc, ev_nil, ev_cons, ev_onone, ev_osome, ev_cnone, ev_csome, ev_ie, ev_rng, ev_enu, asT, ex_asg, ex_asgS, ex_par, ex_aug, ex_ite, ex_whl, ex_for, ex_expr, ex_ret, ex_retN, ex_pass, ex_brk, ex_cont, ex_never, ex_nil, ex_cons', W_ok, W_bind, fin_ret, fin_next, chK_bl, sq_next, sq_ret, sq_brk, sq_cont, bnd_ok, b_add, b_sub, i_add, i_sub, c_lt, c_le, c_gt, c_ge, c_eq, c_ne, c_eqs, c_nes, c_eqb, t_bl, t_int, t_non, p_int, f_int, as_n, as_t2, as_t3, setMany, getL, List.getElem?_cons_zero, List.getElem?_cons_succ, List.set_cons_zero, List.set_cons_succ, wipeL, tl0, tl1, tl2, tl3, tl4, tl5, tl6, Bool.not_true, Bool.not_false, decide_eq_true_eq, if_true, if_false, ite_true, ite_false, eq_self, Bool.false_eq_true, isiF]
  rcases ty_items h with e | e <;> rw [e] <;> exact .ok ⟨rfl, rfl⟩
theorem is_row_eq (hf : fs[i]? = some ⟨3, 3, bIsRow j⟩) (hj : fs[j]? = some ⟨1, 1, bIsSequence⟩) {x : PV} {xs : List PV} {lo hi : Int} (h : itemsOf S x = some xs) : callN fs fu (k + 2) i [x, .int lo, .int hi] S = .ok (.bl (decide (lo ≤ (xs.length : Int) ∧ (xs.length : Int) ≤ hi))) S := by
  refine eq_of_W ?_
  refine W_fn2 hf rfl rfl ?_; simp only [List.map_cons, List.map_nil, List.length_cons, List.length_nil, List.cons_append, List.nil_append, List.append_nil, List.replicate_succ, List.replicate_zero, Nat.reduceAdd, Nat.reduceSub, Nat.zero_add]
  unfold bIsRow
  simp only [ev_var, ev_cst, ev_bin, ev_neg, ev_cmp, ev_chain', ev_and, ev_or, ev_not, ev_ite, ev_tup, ev_lst, ev_ix, ev_sl, ev_call, ev_bt, ev_mt, ev_isi, ev_lc, ev_nil, ev_cons, ev_onone, ev_osome, ev_cnone, ev_csome, ev_ie, ev_rng, ev_enu, asT, ex_asg, ex_asgS, ex_par, ex_aug, ex_ite, ex_whl, ex_for, ex_expr, ex_ret, ex_retN, ex_pass, ex_brk, ex_cont, ex_never, ex_nil, ex_cons', W_ok, W_bind, fin_ret, fin_next, chK_bl, sq_next, sq_ret, sq_brk, sq_cont, bnd_ok, b_add, b_sub, i_add, i_sub, c_lt, c_le, c_gt, c_ge, c_eq, c_ne, c_eqs, c_nes, c_eqb, t_bl, t_int, t_non, p_int, f_int, as_n, as_t2, as_t3, setMany, getL, List.getElem?_cons_zero, List.getElem?_cons_succ, List.set_cons_zero, List.set_cons_succ, wipeL, tl0, tl1, tl2, tl3, tl4, tl5, tl6, Bool.not_true, Bool.not_false, decide_eq_true_eq, if_true, if_false, ite_true, ite_false, eq_self, Bool.false_eq_true, is_sequence_eq hj h, f_len h]
  by_cases h : lo ≤ (xs.length : Int)
  · rw [if_pos h]; try simp only [ev_var, ev_cst, ev_bin, ev_neg, ev_cmp, ev_chain', ev_and, ev_or, ev_not, ev_ite, ev_tup, ev_lst, ev_ix, ev_sl, ev_call, ev_bt, ev_mt, ev_isi, ev_lc, ev_nil, ev_cons, ev_onone, ev_osome, ev_cnone, ev_csome, ev_ie, ev_rng, ev_enu, asT, ex_asg, ex_asgS, ex_par, ex_aug, ex_ite, ex_whl, ex_for, ex_expr, ex_ret, ex_retN, ex_pass, ex_brk, ex_cont, ex_never, ex_nil, ex_cons', W_ok, W_bind, fin_ret, fin_next, chK_bl, sq_next, sq_ret, sq_brk, sq_cont, bnd_ok, b_add, b_sub, i_add, i_sub, c_lt, c_le, c_gt, c_ge, c_eq, c_ne, c_eqs, c_nes, c_eqb, t_bl, t_int, t_non, p_int, f_int, as_n, as_t2, as_t3, setMany, getL, List.getElem?_cons_zero, List.getElem?_cons_succ, List.set_cons_zero, List.set_cons_succ, wipeL, tl0, tl1, tl2, tl3, tl4, tl5, tl6, Bool.not_true, Bool.not_false, decide_eq_true_eq, if_true, if_false, ite_true, ite_false, eq_self, Bool.false_eq_true]; simp [h]
  · rw [if_neg h]; try simp only [ev_var, ev_cst, ev_bin, ev_neg, ev_cmp, ev_chain', ev_and, ev_or, ev_not, ev_ite, ev_tup, ev_lst, ev_ix, ev_sl, ev_call, ev_bt, ev_mt, ev_isi, ev_lc, ev_nil, ev_cons, ev_onone, ev_osome, ev_cnone, ev_csome, ev_ie, ev_rng, ev_enu, asT, ex_asg, ex_asgS, ex_par, ex_aug, ex_ite, ex_whl, ex_for, ex_expr, ex_ret, ex_retN, ex_pass, ex_brk, ex_cont, ex_never, ex_nil, ex_cons', W_ok, W_bind, fin_ret, fin_next, chK_bl, sq_next, sq_ret, sq_brk, sq_cont, bnd_ok, b_add, b_sub, i_add, i_sub, c_lt, c_le, c_gt, c_ge, c_eq, c_ne, c_eqs, c_nes, c_eqb, t_bl, t_int, t_non, p_int, f_int, as_n, as_t2, as_t3, setMany, getL, List.getElem?_cons_zero, List.getElem?_cons_succ, List.set_cons_zero, List.set_cons_succ, wipeL, tl0, tl1, tl2, tl3, tl4, tl5, tl6, Bool.not_true, Bool.not_false, decide_eq_true_eq, if_true, if_false, ite_true, ite_false, eq_self, Bool.false_eq_true]; simp [h]
/-! ### _law_so -/
mutual
def plain : Nat → PV → Bool
  | _, .non => true
  | _, .bl _ => true
  | _, .int _ => true
  | _, .str _ => true
  | 0, .tup _ => false
  | n + 1, .tup xs => decide (xs.length ≤ lim) && plains n xs
  | _, _ => false
def plains : Nat → List PV → Bool
  | _, [] => true
  | n, x :: xs => plain n x && plains n xs
end
theorem plains_all {n : Nat} : ∀ {xs : List PV}, plains n xs = true ↔ ∀ x, x ∈ xs → plain n x = true
  | [] => by simp [plains]
  | x :: xs => by simp [plains, plains_all (xs := xs)]
theorem plain_tup {n : Nat} {xs : List PV} (hl : xs.length ≤ lim) (h : ∀ x, x ∈ xs → plain n x = true) : plain (n + 1) (.tup xs) = true := by
  unfold plain
  rw [decide_eq_true hl, plains_all.mpr h]
  rfl
theorem plain_ints {n : Nat} {ns : List Int} (hl : ns.length ≤ lim) : plain (n + 1) (.tup (ns.map .int)) = true := plain_tup (by simpa using hl) fun x hx => by
  obtain ⟨i, _, rfl⟩ := List.mem_map.mp hx
  cases n <;> rfl
theorem rngL_get {lo : Int} {n i : Nat} {x : PV} (h : (rngL lo n)[i]? = some x) : x = .int (lo + i) ∧ i < n := by
  unfold rngL at h
  rw [List.getElem?_map] at h
  obtain ⟨a, e, rfl⟩ := Option.map_eq_some_iff.mp h
  have := List.getElem?_eq_some_iff.mp e
  obtain ⟨hl, e2⟩ := this
  rw [List.length_range] at hl
  rw [List.getElem_range] at e2
  subst e2
  exact ⟨rfl, hl⟩
theorem rngL_len {lo : Int} {n : Nat} : (rngL lo n).length = n := by unfold rngL; rw [List.length_map, List.length_range]
end
end Mp

/-! Mq2: _law_so and the draws. -/
namespace Mp
open PySem PySem.Spec L2
section
variable {fs : List Fn} {fu k i j : Nat} {S : Store}
theorem so_scal (hf : fs[i]? = some ⟨3, 2, bSo i⟩) (v : PV) (h : scalar v = true) : callN fs fu (k + 1) i [v, v] S = .ok (.bl true) S := by
  refine eq_of_W ?_
  refine W_fn2 hf rfl rfl ?_; simp only [List.map_cons, List.map_nil, List.length_cons, List.length_nil, List.cons_append, List.nil_append, List.append_nil, List.replicate_succ, List.replicate_zero, Nat.reduceAdd, Nat.reduceSub, Nat.zero_add]
  unfold bSo
  cases v with
  | non => simp only [ev_var, ev_cst, ev_bin, ev_neg, ev_cmp, ev_chain', ev_and, ev_or, ev_not, ev_ite, ev_tup, ev_lst, ev_ix, ev_sl, ev_call, ev_bt, ev_mt, ev_isi, ev_lc, ev_nil, ev_cons, ev_onone, ev_osome, ev_cnone, ev_csome, ev_ie, ev_rng, ev_enu, asT, ex_asg, ex_asgS, ex_par, ex_aug, ex_ite, ex_whl, ex_for, ex_expr, ex_ret, ex_retN, ex_pass, ex_brk, ex_cont, ex_never, ex_nil, ex_cons', W_ok, W_bind, fin_ret, fin_next, chK_bl, sq_next, sq_ret, sq_brk, sq_cont, bnd_ok, b_add, b_sub, i_add, i_sub, c_lt, c_le, c_gt, c_ge, c_eq, c_ne, c_eqs, c_nes, c_eqb, t_bl, t_int, t_non, p_int, f_int, as_n, as_t2, as_t3, setMany, getL, List.getElem?_cons_zero, List.getElem?_cons_succ, List.set_cons_zero, List.set_cons_succ, wipeL, tl0, tl1, tl2, tl3, tl4, tl5, tl6, Bool.not_true, Bool.not_false, decide_eq_true_eq, if_true, if_false, ite_true, ite_false, eq_self, Bool.false_eq_true, cmpV, isV, isiF, tyOf, List.any_cons, List.any_nil, isaT]; exact ⟨trivial, trivial⟩
  | bl b => simp only [ev_var, ev_cst, ev_bin, ev_neg, ev_cmp, ev_chain', ev_and, ev_or, ev_not, ev_ite, ev_tup, ev_lst, ev_ix, ev_sl, ev_call, ev_bt, ev_mt, ev_isi, ev_lc, ev_nil, ev_cons, ev_onone, ev_osome, ev_cnone, ev_csome, ev_ie, ev_rng, ev_enu, asT, ex_asg, ex_asgS, ex_par, ex_aug, ex_ite, ex_whl, ex_for, ex_expr, ex_ret, ex_retN, ex_pass, ex_brk, ex_cont, ex_never, ex_nil, ex_cons', W_ok, W_bind, fin_ret, fin_next, chK_bl, sq_next, sq_ret, sq_brk, sq_cont, bnd_ok, b_add, b_sub, i_add, i_sub, c_lt, c_le, c_gt, c_ge, c_eq, c_ne, c_eqs, c_nes, c_eqb, t_bl, t_int, t_non, p_int, f_int, as_n, as_t2, as_t3, setMany, getL, List.getElem?_cons_zero, List.getElem?_cons_succ, List.set_cons_zero, List.set_cons_succ, wipeL, tl0, tl1, tl2, tl3, tl4, tl5, tl6, Bool.not_true, Bool.not_false, decide_eq_true_eq, if_true, if_false, ite_true, ite_false, eq_self, Bool.false_eq_true, cmpV, isV, isiF, tyOf, List.any_cons, List.any_nil, isaT, Bool.or_false, reduceCtorEq, decide_true, decide_false, eqV, eqB, toB]; exact ⟨trivial, trivial⟩
  | int b => simp only [ev_var, ev_cst, ev_bin, ev_neg, ev_cmp, ev_chain', ev_and, ev_or, ev_not, ev_ite, ev_tup, ev_lst, ev_ix, ev_sl, ev_call, ev_bt, ev_mt, ev_isi, ev_lc, ev_nil, ev_cons, ev_onone, ev_osome, ev_cnone, ev_csome, ev_ie, ev_rng, ev_enu, asT, ex_asg, ex_asgS, ex_par, ex_aug, ex_ite, ex_whl, ex_for, ex_expr, ex_ret, ex_retN, ex_pass, ex_brk, ex_cont, ex_never, ex_nil, ex_cons', W_ok, W_bind, fin_ret, fin_next, chK_bl, sq_next, sq_ret, sq_brk, sq_cont, bnd_ok, b_add, b_sub, i_add, i_sub, c_lt, c_le, c_gt, c_ge, c_eq, c_ne, c_eqs, c_nes, c_eqb, t_bl, t_int, t_non, p_int, f_int, as_n, as_t2, as_t3, setMany, getL, List.getElem?_cons_zero, List.getElem?_cons_succ, List.set_cons_zero, List.set_cons_succ, wipeL, tl0, tl1, tl2, tl3, tl4, tl5, tl6, Bool.not_true, Bool.not_false, decide_eq_true_eq, if_true, if_false, ite_true, ite_false, eq_self, Bool.false_eq_true, cmpV, isV, isiF, tyOf, List.any_cons, List.any_nil, isaT, Bool.or_false, reduceCtorEq, decide_true, decide_false, eqV, eqB, toB]; exact ⟨trivial, trivial⟩
  | str b => simp only [ev_var, ev_cst, ev_bin, ev_neg, ev_cmp, ev_chain', ev_and, ev_or, ev_not, ev_ite, ev_tup, ev_lst, ev_ix, ev_sl, ev_call, ev_bt, ev_mt, ev_isi, ev_lc, ev_nil, ev_cons, ev_onone, ev_osome, ev_cnone, ev_csome, ev_ie, ev_rng, ev_enu, asT, ex_asg, ex_asgS, ex_par, ex_aug, ex_ite, ex_whl, ex_for, ex_expr, ex_ret, ex_retN, ex_pass, ex_brk, ex_cont, ex_never, ex_nil, ex_cons', W_ok, W_bind, fin_ret, fin_next, chK_bl, sq_next, sq_ret, sq_brk, sq_cont, bnd_ok, b_add, b_sub, i_add, i_sub, c_lt, c_le, c_gt, c_ge, c_eq, c_ne, c_eqs, c_nes, c_eqb, t_bl, t_int, t_non, p_int, f_int, as_n, as_t2, as_t3, setMany, getL, List.getElem?_cons_zero, List.getElem?_cons_succ, List.set_cons_zero, List.set_cons_succ, wipeL, tl0, tl1, tl2, tl3, tl4, tl5, tl6, Bool.not_true, Bool.not_false, decide_eq_true_eq, if_true, if_false, ite_true, ite_false, eq_self, Bool.false_eq_true, cmpV, isV, isiF, tyOf, List.any_cons, List.any_nil, isaT, Bool.or_false, reduceCtorEq, decide_true, decide_false, eqV, eqB, toB]; exact ⟨trivial, trivial⟩
  | _ => cases h
theorem so_eq (hf : fs[i]? = some ⟨3, 2, bSo i⟩) : ∀ (n k : Nat) (v : PV), plain n v = true → callN fs fu (k + n + 1) i [v, v] S = .ok (.bl true) S := by
  intro n
  induction n with
  | zero =>
    intro k v hv
    exact so_scal hf v (by cases v <;> first | rfl | cases hv)
  | succ n ih =>
    intro k v hv
    cases v with
    | tup xs =>
      unfold plain at hv
      obtain ⟨hl, hv⟩ := (Bool.and_eq_true ..).mp hv
      have hl : xs.length ≤ lim := of_decide_eq_true hl
      have hi : itemsOf S (.tup xs) = some xs := rfl
      refine eq_of_W ?_
      rw [show k + (n + 1) + 1 = (k + n + 1) + 1 by omega]
      refine W_fn2 hf rfl rfl ?_; simp only [List.map_cons, List.map_nil, List.length_cons, List.length_nil, List.cons_append, List.nil_append, List.append_nil, List.replicate_succ, List.replicate_zero, Nat.reduceAdd, Nat.reduceSub, Nat.zero_add]
      unfold bSo
      simp only [ev_var, ev_cst, ev_bin, ev_neg, ev_cmp, ev_chain', ev_and, ev_or, ev_not, ev_ite, ev_tup, ev_lst, ev_ix, ev_sl, ev_call, ev_bt, ev_mt, ev_isi, ev_lc, ev_nil, ev_cons, ev_onone, ev_osome, ev_cnone, ev_csome, ev_ie, ev_rng, ev_enu, asT, ex_asg, ex_asgS, ex_par, ex_aug, ex_ite, ex_whl, ex_for, ex_expr, ex_ret, ex_retN, ex_pass, ex_brk, ex_cont, ex_never, ex_nil, ex_cons', W_ok, W_bind, fin_ret, fin_next, chK_bl, sq_next, sq_ret, sq_brk, sq_cont, bnd_ok, b_add, b_sub, i_add, i_sub, c_lt, c_le, c_gt, c_ge, c_eq, c_ne, c_eqs, c_nes, c_eqb, t_bl, t_int, t_non, p_int, f_int, as_n, as_t2, as_t3, setMany, getL, List.getElem?_cons_zero, List.getElem?_cons_succ, List.set_cons_zero, List.set_cons_succ, wipeL, tl0, tl1, tl2, tl3, tl4, tl5, tl6, Bool.not_true, Bool.not_false, decide_eq_true_eq, if_true, if_false, ite_true, ite_false, eq_self, Bool.false_eq_true, show cmpV .Is (.tup xs) .non S = .ok (.bl false) S from rfl, isiF, tyOf, List.any_cons, List.any_nil, isaT, Bool.or_false, reduceCtorEq, decide_true, decide_false, f_len hi, neV, eqB, toB]
      refine W_r1 (by unfold big62; unfold lim at hl; omega) ?_
      refine W_for0 (xs := rngL 0 xs.length) (by exact rfl) (fun i ρ S' => S' = S ∧ ∃ z, ρ = [some (.tup xs), some (.tup xs), z]) ⟨rfl, _, rfl⟩ (fun _ _ _ _ => rfl) (fun m x ρ S1 hx hI => ?_) fun ρ S1 hI => ?_
      · obtain ⟨rfl, z, rfl⟩ := hI
        obtain ⟨rfl, hm⟩ := rngL_get hx
        have hx : xs[((0 : Int) + (m : Int)).toNat]? = some xs[m] := by
          rw [show ((0 : Int) + (m : Int)).toNat = m by omega]; exact List.getElem?_eq_getElem hm
        have hpl := plains_all.mp hv _ (List.getElem_mem hm)
        have hix := ix_at (S := S1) (x := .tup xs) (xs := xs) (i := (0 : Int) + (m : Int)) rfl (by omega) hx
        simp only [ev_var, ev_cst, ev_bin, ev_neg, ev_cmp, ev_chain', ev_and, ev_or, ev_not, ev_ite, ev_tup, ev_lst, ev_ix, ev_sl, ev_call, ev_bt, ev_mt, ev_isi, ev_lc, ev_nil, ev_cons, ev_onone, ev_osome, ev_cnone, ev_csome, ev_ie, ev_rng, ev_enu, asT, ex_asg, ex_asgS, ex_par, ex_aug, ex_ite, ex_whl, ex_for, ex_expr, ex_ret, ex_retN, ex_pass, ex_brk, ex_cont, ex_never, ex_nil, ex_cons', W_ok, W_bind, fin_ret, fin_next, chK_bl, sq_next, sq_ret, sq_brk, sq_cont, bnd_ok, b_add, b_sub, i_add, i_sub, c_lt, c_le, c_gt, c_ge, c_eq, c_ne, c_eqs, c_nes, c_eqb, t_bl, t_int, t_non, p_int, f_int, as_n, as_t2, as_t3, setMany, getL, List.getElem?_cons_zero, List.getElem?_cons_succ, List.set_cons_zero, List.set_cons_succ, wipeL, tl0, tl1, tl2, tl3, tl4, tl5, tl6, Bool.not_true, Bool.not_false, decide_eq_true_eq, if_true, if_false, ite_true, ite_false, eq_self, Bool.false_eq_true, hix, ih k _ hpl]
        exact ⟨trivial, _, rfl⟩
      · obtain ⟨rfl, z, rfl⟩ := hI
        simp only [ev_var, ev_cst, ev_bin, ev_neg, ev_cmp, ev_chain', ev_and, ev_or, ev_not, ev_ite, ev_tup, ev_lst, ev_ix, ev_sl, ev_call, ev_bt, ev_mt, ev_isi, ev_lc, ev_nil, ev_cons, ev_onone, ev_osome, ev_cnone, ev_csome, ev_ie, ev_rng, ev_enu, asT, ex_asg, ex_asgS, ex_par, ex_aug, ex_ite, ex_whl, ex_for, ex_expr, ex_ret, ex_retN, ex_pass, ex_brk, ex_cont, ex_never, ex_nil, ex_cons', W_ok, W_bind, fin_ret, fin_next, chK_bl, sq_next, sq_ret, sq_brk, sq_cont, bnd_ok, b_add, b_sub, i_add, i_sub, c_lt, c_le, c_gt, c_ge, c_eq, c_ne, c_eqs, c_nes, c_eqb, t_bl, t_int, t_non, p_int, f_int, as_n, as_t2, as_t3, setMany, getL, List.getElem?_cons_zero, List.getElem?_cons_succ, List.set_cons_zero, List.set_cons_succ, wipeL, tl0, tl1, tl2, tl3, tl4, tl5, tl6, Bool.not_true, Bool.not_false, decide_eq_true_eq, if_true, if_false, ite_true, ite_false, eq_self, Bool.false_eq_true, and_self]
    | ltc xs => cases hv
    | ref m => cases hv
    | _ => exact so_scal hf _ rfl
end
end Mp

/-! Mq3: the draws. -/
namespace Mp
open PySem PySem.Spec L2
section
variable {fs : List Fn} {fu k i j : Nat} {S : Store}
/-! ### draws -/
theorem draw_ok (hf : fs[i]? = some ⟨4, 3, bDraw⟩) {rw_ : Nat} {R : List Int} (hr : S[rw_]? = some (.lst (R.map .int))) (hR : 0 < R.length) {at_ lim_ : Int} (h0 : 0 ≤ at_) (hl : 0 < lim_) :
    ∃ d : Int, (0 ≤ d ∧ d < lim_) ∧ callN fs fu (k + 1) i [.ref rw_, .int at_, .int lim_] S = .ok (.int d) S := by
  have hi := items_ref hr
  have key : W (callN fs fu (k + 1) i [.ref rw_, .int at_, .int lim_] S) (fun v S' => ∃ d : Int, (0 ≤ d ∧ d < lim_) ∧ v = .int d ∧ S' = S) := by
    refine W_fn2 hf rfl rfl ?_; simp only [List.map_cons, List.map_nil, List.length_cons, List.length_nil, List.cons_append, List.nil_append, List.append_nil, List.replicate_succ, List.replicate_zero, Nat.reduceAdd, Nat.reduceSub, Nat.zero_add]
    unfold bDraw
    have hlen : ((R.map PV.int).length : Int) = R.length := by rw [List.length_map]
    simp only [ev_var, ev_cst, ev_bin, ev_neg, ev_cmp, ev_chain', ev_and, ev_or, ev_not, ev_ite, ev_tup, ev_lst, ev_ix, ev_sl, ev_call, ev_bt, ev_mt, ev_isi, ev_lc, ev_nil, ev_cons, ev_onone, ev_osome, ev_cnone, ev_csome, ev_ie, ev_rng, ev_enu, asT, ex_asg, ex_asgS, ex_par, ex_aug, ex_ite, ex_whl, ex_for, ex_expr, ex_ret, ex_retN, ex_pass, ex_brk, ex_cont, ex_never, ex_nil, ex_cons', W_ok, W_bind, fin_ret, fin_next, chK_bl, sq_next, sq_ret, sq_brk, sq_cont, bnd_ok, b_add, b_sub, i_add, i_sub, c_lt, c_le, c_gt, c_ge, c_eq, c_ne, c_eqs, c_nes, c_eqb, t_bl, t_int, t_non, p_int, f_int, as_n, as_t2, as_t3, setMany, getL, List.getElem?_cons_zero, List.getElem?_cons_succ, List.set_cons_zero, List.set_cons_succ, wipeL, tl0, tl1, tl2, tl3, tl4, tl5, tl6, Bool.not_true, Bool.not_false, decide_eq_true_eq, if_true, if_false, ite_true, ite_false, eq_self, Bool.false_eq_true, f_len hi, hlen]
    by_cases h : at_ < (R.length : Int)
    · have e : (R.map PV.int)[at_.toNat]? = some (.int (R[at_.toNat]'(by omega))) := by rw [List.getElem?_map, List.getElem?_eq_getElem (by omega)]; rfl
      rw [if_pos h]
      simp only [ev_var, ev_cst, ev_bin, ev_neg, ev_cmp, ev_chain', ev_and, ev_or, ev_not, ev_ite, ev_tup, ev_lst, ev_ix, ev_sl, ev_call, ev_bt, ev_mt, ev_isi, ev_lc, ev_nil, ev_cons, ev_onone, ev_osome, ev_cnone, ev_csome, ev_ie, ev_rng, ev_enu, asT, ex_asg, ex_asgS, ex_par, ex_aug, ex_ite, ex_whl, ex_for, ex_expr, ex_ret, ex_retN, ex_pass, ex_brk, ex_cont, ex_never, ex_nil, ex_cons', W_ok, W_bind, fin_ret, fin_next, chK_bl, sq_next, sq_ret, sq_brk, sq_cont, bnd_ok, b_add, b_sub, i_add, i_sub, c_lt, c_le, c_gt, c_ge, c_eq, c_ne, c_eqs, c_nes, c_eqb, t_bl, t_int, t_non, p_int, f_int, as_n, as_t2, as_t3, setMany, getL, List.getElem?_cons_zero, List.getElem?_cons_succ, List.set_cons_zero, List.set_cons_succ, wipeL, tl0, tl1, tl2, tl3, tl4, tl5, tl6, Bool.not_true, Bool.not_false, decide_eq_true_eq, if_true, if_false, ite_true, ite_false, eq_self, Bool.false_eq_true, ix_at hi h0 e, b_mod hl]
      exact ⟨_, ⟨Int.emod_nonneg _ (by omega), Int.emod_lt_of_pos _ hl⟩, rfl, trivial⟩
    · rw [if_neg h]
      have hRp : (0 : Int) < R.length := by omega
      have hm0 : 0 ≤ at_ % (R.length : Int) := Int.emod_nonneg _ (by omega)
      have hm1 : at_ % (R.length : Int) < R.length := Int.emod_lt_of_pos _ hRp
      have e : (R.map PV.int)[(at_ % (R.length : Int)).toNat]? = some (.int (R[(at_ % (R.length : Int)).toNat]'(by omega))) := by rw [List.getElem?_map, List.getElem?_eq_getElem (by omega)]; rfl
      simp only [ev_var, ev_cst, ev_bin, ev_neg, ev_cmp, ev_chain', ev_and, ev_or, ev_not, ev_ite, ev_tup, ev_lst, ev_ix, ev_sl, ev_call, ev_bt, ev_mt, ev_isi, ev_lc, ev_nil, ev_cons, ev_onone, ev_osome, ev_cnone, ev_csome, ev_ie, ev_rng, ev_enu, asT, ex_asg, ex_asgS, ex_par, ex_aug, ex_ite, ex_whl, ex_for, ex_expr, ex_ret, ex_retN, ex_pass, ex_brk, ex_cont, ex_never, ex_nil, ex_cons', W_ok, W_bind, fin_ret, fin_next, chK_bl, sq_next, sq_ret, sq_brk, sq_cont, bnd_ok, b_add, b_sub, i_add, i_sub, c_lt, c_le, c_gt, c_ge, c_eq, c_ne, c_eqs, c_nes, c_eqb, t_bl, t_int, t_non, p_int, f_int, as_n, as_t2, as_t3, setMany, getL, List.getElem?_cons_zero, List.getElem?_cons_succ, List.set_cons_zero, List.set_cons_succ, wipeL, tl0, tl1, tl2, tl3, tl4, tl5, tl6, Bool.not_true, Bool.not_false, decide_eq_true_eq, if_true, if_false, ite_true, ite_false, eq_self, Bool.false_eq_true, f_len hi, hlen, b_mod hRp, ix_at hi hm0 e, b_mul (show (-18446744073709551616 : Int) < 40692 ∧ (40692 : Int) < 18446744073709551616 by decide), b_mul (show (-18446744073709551616 : Int) < 7919 ∧ (7919 : Int) < 18446744073709551616 by decide), b_mul (show (-18446744073709551616 : Int) < 48271 ∧ (48271 : Int) < 18446744073709551616 by decide), b_mod (show (0 : Int) < 2147483399 by decide), b_mod (show (0 : Int) < 2147483647 by decide), b_mod hl]
      exact ⟨_, ⟨Int.emod_nonneg _ (by omega), Int.emod_lt_of_pos _ hl⟩, rfl, trivial⟩
  obtain ⟨v, S', e, d, hd, rfl, rfl⟩ := key.get
  exact ⟨d, hd, e⟩
/-- the row and the spot -/
structure Dr (R : List Int) (rw_ sp : Nat) (S : Store) : Prop where
  row : S[rw_]? = some (.lst (R.map .int))
  pos : 0 < R.length
  ne : rw_ ≠ sp
  spot : ∃ s : Nat, S[sp]? = some (.lst [.int (s : Int)])
abbrev Ks (sp : Nat) (S S' : Store) : Prop := Kp (fun n => n ≠ sp) S S'
theorem Dr.kp {R : List Int} {rw_ sp : Nat} {S S' : Store} (D : Dr R rw_ sp S) (k : Sub S S') : Dr R rw_ sp S' := by
  obtain ⟨s, h⟩ := D.spot
  exact ⟨k _ _ trivial D.row, D.pos, D.ne, s, k _ _ trivial h⟩
theorem take_ok (hf : fs[i]? = some ⟨3, 3, bTake j⟩) (hj : fs[j]? = some ⟨4, 3, bDraw⟩) {rw_ sp : Nat} {R : List Int} (D : Dr R rw_ sp S) {lim_ : Int} (hl : 0 < lim_) :
    W (callN fs fu (k + 2) i [.ref rw_, .ref sp, .int lim_] S) (fun v S' => ∃ d : Int, v = .int d ∧ 0 ≤ d ∧ d < lim_ ∧ Dr R rw_ sp S' ∧ Ks sp S S') := by
  obtain ⟨s, hs⟩ := D.spot
  have hlt : sp < S.length := (List.getElem?_eq_some_iff.mp hs).1
  have hi := items_ref hs
  have hs' : (S.set sp (.lst [.int ((s : Int) + 1)]))[sp]? = some (.lst [.int ((s : Int) + 1)]) := by rw [List.getElem?_set_self hlt]
  have hD : Dr R rw_ sp (S.set sp (.lst [.int ((s : Int) + 1)])) := ⟨by rw [List.getElem?_set_ne (fun e => D.ne e.symm)]; exact D.row, D.pos, D.ne, s + 1, by rw [hs']; simp⟩
  obtain ⟨d, hd, e⟩ := draw_ok (fu := fu) (k := k) hj hD.row hD.pos (at_ := (s : Int) + 1 - 1) (lim_ := lim_) (by omega) hl
  refine W_fn2 hf rfl rfl ?_; simp only [List.map_cons, List.map_nil, List.length_cons, List.length_nil, List.cons_append, List.nil_append, List.append_nil, List.replicate_succ, List.replicate_zero, Nat.reduceAdd, Nat.reduceSub, Nat.zero_add]
  unfold bTake
  simp only [ev_var, ev_cst, ev_bin, ev_neg, ev_cmp, ev_chain', ev_and, ev_or, ev_not, ev_ite, ev_tup, ev_lst, ev_ix, ev_sl, ev_call, ev_bt, ev_mt, ev_isi, ev_lc, ev_nil, ev_cons, ev_onone, ev_osome, ev_cnone, ev_csome, ev_ie, ev_rng, ev_enu, asT, ex_asg, ex_asgS, ex_par, ex_aug, ex_ite, ex_whl, ex_for, ex_expr, ex_ret, ex_retN, ex_pass, ex_brk, ex_cont, ex_never, ex_nil, ex_cons', W_ok, W_bind, fin_ret, fin_next, chK_bl, sq_next, sq_ret, sq_brk, sq_cont, bnd_ok, b_add, b_sub, i_add, i_sub, c_lt, c_le, c_gt, c_ge, c_eq, c_ne, c_eqs, c_nes, c_eqb, t_bl, t_int, t_non, p_int, f_int, as_n, as_t2, as_t3, setMany, getL, List.getElem?_cons_zero, List.getElem?_cons_succ, List.set_cons_zero, List.set_cons_succ, wipeL, tl0, tl1, tl2, tl3, tl4, tl5, tl6, Bool.not_true, Bool.not_false, decide_eq_true_eq, if_true, if_false, ite_true, ite_false, eq_self, Bool.false_eq_true, ix_at hi (Int.le_refl 0) (show ([PV.int (s : Int)])[(0 : Int).toNat]? = some (.int (s : Int)) from rfl), set_at hs (Int.le_refl 0) (show (0 : Int) < (([PV.int (s : Int)]).length : Int) from Int.one_pos), Int.toNat_zero, ix_at (items_ref hs') (Int.le_refl 0) (show ([PV.int ((s : Int) + 1)])[(0 : Int).toNat]? = some (.int ((s : Int) + 1)) from rfl), e]
  exact ⟨d, rfl, hd.1, hd.2, hD, Kp.set (fun h => h rfl)⟩
end
end Mp

/-! Mq4: _law_numbers, _law_listed, _law_handed. -/
namespace Mp
open PySem PySem.Spec L2
section
variable {fs : List Fn} {fu k i j : Nat} {S : Store}
theorem cut_sub {α : Type} {xs : List α} {lo hi : Option Int} {x : α} (h : x ∈ cut xs lo hi) : x ∈ xs := List.mem_of_mem_drop (List.mem_of_mem_take h)
theorem cut_len {α : Type} {xs : List α} {lo hi : Option Int} : (cut xs lo hi).length ≤ xs.length := by
  unfold cut
  rw [List.length_take, List.length_drop]
  omega
theorem pow18 : binV .Pow (.int 10) (.int 18) S = .ok (.int (10 ^ 18)) S := by
  show (if cPow 10 18 = true then Res.ok (PV.int (10 ^ (18 : Int).toNat)) S else .bad) = _
  exact if_pos (by decide)
theorem sm (j : Int) (h : -18446744073709551616 < j ∧ j < 18446744073709551616 := by decide) : -18446744073709551616 < j ∧ j < 18446744073709551616 := h
theorem b62 (j : Int) (h : -4611686018427387904 ≤ j ∧ j < 4611686018427387904) : -big62 ≤ j ∧ j < big62 := h
theorem ty_at {n : Nat} {xs : List PV} (h : S[n]? = some (.lst xs)) : (tyOf S (.ref n) = some (mtTy .append)) = True := eq_true (ty_ref h)
theorem map_snoc (R : List Int) (x : Int) : R.map PV.int ++ [.int x] = (R ++ [x]).map PV.int := by simp
theorem numbers_ok (hf : fs[i]? = some ⟨6, 1, bNumbers⟩) {ns : List Int} (hn : ns.length ≤ 63) :
    W (callN fs fu (k + 1) i [.ltc (ns.map .int)] []) (fun v S' => ∃ (R : List Int) (ys : List PV), v = .ref 0 ∧ 0 < R.length ∧ S' = [.lst (R.map .int), .lst ys]) := by
  refine W_fn2 hf rfl rfl ?_; simp only [List.map_cons, List.map_nil, List.length_cons, List.length_nil, List.cons_append, List.nil_append, List.append_nil, List.replicate_succ, List.replicate_zero, Nat.reduceAdd, Nat.reduceSub, Nat.zero_add]
  unfold bNumbers
  simp only [ev_var, ev_cst, ev_bin, ev_neg, ev_cmp, ev_chain', ev_and, ev_or, ev_not, ev_ite, ev_tup, ev_lst, ev_ix, ev_sl, ev_call, ev_bt, ev_mt, ev_isi, ev_lc, ev_nil, ev_cons, ev_onone, ev_osome, ev_cnone, ev_csome, ev_ie, ev_rng, ev_enu, asT, ex_asg, ex_asgS, ex_par, ex_aug, ex_ite, ex_whl, ex_for, ex_expr, ex_ret, ex_retN, ex_pass, ex_brk, ex_cont, ex_never, ex_nil, ex_cons', W_ok, W_bind, fin_ret, fin_next, chK_bl, sq_next, sq_ret, sq_brk, sq_cont, bnd_ok, b_add, b_sub, i_add, i_sub, c_lt, c_le, c_gt, c_ge, c_eq, c_ne, c_eqs, c_nes, c_eqb, t_bl, t_int, t_non, p_int, f_int, as_n, as_t2, as_t3, setMany, getL, List.getElem?_cons_zero, List.getElem?_cons_succ, List.set_cons_zero, List.set_cons_succ, wipeL, tl0, tl1, tl2, tl3, tl4, tl5, tl6, Bool.not_true, Bool.not_false, decide_eq_true_eq, if_true, if_false, ite_true, ite_false, eq_self, Bool.false_eq_true, slV, List.length_nil, Nat.zero_le, List.nil_append, List.length_cons, Nat.zero_add, List.cons_append]
  generalize hxs : cut (ns.map PV.int) none (some 63) = xs
  have hxl : xs.length ≤ 63 := by rw [← hxs]; exact Nat.le_trans cut_len (by rw [List.length_map]; exact hn)
  have hxm : ∀ x, x ∈ xs → ∃ c : Int, x = .int c := fun x hx => by
    rw [← hxs] at hx
    obtain ⟨c, _, e⟩ := List.mem_map.mp (cut_sub hx)
    exact ⟨c, e.symm⟩
  have hit : IrIs [.lst [], .lst xs] (.live 1) xs := rfl
  simp only [ev_var, ev_cst, ev_bin, ev_neg, ev_cmp, ev_chain', ev_and, ev_or, ev_not, ev_ite, ev_tup, ev_lst, ev_ix, ev_sl, ev_call, ev_bt, ev_mt, ev_isi, ev_lc, ev_nil, ev_cons, ev_onone, ev_osome, ev_cnone, ev_csome, ev_ie, ev_rng, ev_enu, asT, ex_asg, ex_asgS, ex_par, ex_aug, ex_ite, ex_whl, ex_for, ex_expr, ex_ret, ex_retN, ex_pass, ex_brk, ex_cont, ex_never, ex_nil, ex_cons', W_ok, W_bind, fin_ret, fin_next, chK_bl, sq_next, sq_ret, sq_brk, sq_cont, bnd_ok, b_add, b_sub, i_add, i_sub, c_lt, c_le, c_gt, c_ge, c_eq, c_ne, c_eqs, c_nes, c_eqb, t_bl, t_int, t_non, p_int, f_int, as_n, as_t2, as_t3, setMany, getL, List.getElem?_cons_zero, List.getElem?_cons_succ, List.set_cons_zero, List.set_cons_succ, wipeL, tl0, tl1, tl2, tl3, tl4, tl5, tl6, Bool.not_true, Bool.not_false, decide_eq_true_eq, if_true, if_false, ite_true, ite_false, eq_self, Bool.false_eq_true, if_pos (show 0 ≤ lim by decide), List.nil_append, List.cons_append, List.length_cons, List.length_nil, Nat.zero_add, iterV]
  refine W_for0 hit (fun m ρ S' => ∃ (R : List Int) (z2 z3 z4 z5 : Option PV), S' = [.lst (R.map .int), .lst xs] ∧ R.length ≤ 60 * m ∧ ρ = [some (.ltc (ns.map .int)), some (.ref 0), z2, z3, z4, z5]) ⟨[], none, none, none, none, rfl, Nat.zero_le _, rfl⟩ (fun m ρ S' h => ?_) (fun m x ρ S' hx h => ?_) fun ρ S' h => ?_
  · obtain ⟨R, _, _, _, _, rfl, _, _⟩ := h; rfl
  · obtain ⟨R, z2, z3, z4, z5, rfl, hR, rfl⟩ := h
    obtain ⟨c, rfl⟩ := hxm x (List.mem_of_getElem? hx)
    have hm : m < 63 := by have := (List.getElem?_eq_some_iff.mp hx).1; omega
    simp only [ev_var, ev_cst, ev_bin, ev_neg, ev_cmp, ev_chain', ev_and, ev_or, ev_not, ev_ite, ev_tup, ev_lst, ev_ix, ev_sl, ev_call, ev_bt, ev_mt, ev_isi, ev_lc, ev_nil, ev_cons, ev_onone, ev_osome, ev_cnone, ev_csome, ev_ie, ev_rng, ev_enu, asT, ex_asg, ex_asgS, ex_par, ex_aug, ex_ite, ex_whl, ex_for, ex_expr, ex_ret, ex_retN, ex_pass, ex_brk, ex_cont, ex_never, ex_nil, ex_cons', W_ok, W_bind, fin_ret, fin_next, chK_bl, sq_next, sq_ret, sq_brk, sq_cont, bnd_ok, b_add, b_sub, i_add, i_sub, c_lt, c_le, c_gt, c_ge, c_eq, c_ne, c_eqs, c_nes, c_eqb, t_bl, t_int, t_non, p_int, f_int, as_n, as_t2, as_t3, setMany, getL, List.getElem?_cons_zero, List.getElem?_cons_succ, List.set_cons_zero, List.set_cons_succ, wipeL, tl0, tl1, tl2, tl3, tl4, tl5, tl6, Bool.not_true, Bool.not_false, decide_eq_true_eq, if_true, if_false, ite_true, ite_false, eq_self, Bool.false_eq_true, pow18]
    by_cases hc : (10 : Int) ^ 18 ≤ c
    · rw [if_pos hc]
      try simp only [ev_var, ev_cst, ev_bin, ev_neg, ev_cmp, ev_chain', ev_and, ev_or, ev_not, ev_ite, ev_tup, ev_lst, ev_ix, ev_sl, ev_call, ev_bt, ev_mt, ev_isi, ev_lc, ev_nil, ev_cons, ev_onone, ev_osome, ev_cnone, ev_csome, ev_ie, ev_rng, ev_enu, asT, ex_asg, ex_asgS, ex_par, ex_aug, ex_ite, ex_whl, ex_for, ex_expr, ex_ret, ex_retN, ex_pass, ex_brk, ex_cont, ex_never, ex_nil, ex_cons', W_ok, W_bind, fin_ret, fin_next, chK_bl, sq_next, sq_ret, sq_brk, sq_cont, bnd_ok, b_add, b_sub, i_add, i_sub, c_lt, c_le, c_gt, c_ge, c_eq, c_ne, c_eqs, c_nes, c_eqb, t_bl, t_int, t_non, p_int, f_int, as_n, as_t2, as_t3, setMany, getL, List.getElem?_cons_zero, List.getElem?_cons_succ, List.set_cons_zero, List.set_cons_succ, wipeL, tl0, tl1, tl2, tl3, tl4, tl5, tl6, Bool.not_true, Bool.not_false, decide_eq_true_eq, if_true, if_false, ite_true, ite_false, eq_self, Bool.false_eq_true]
      refine W_r1 (b62 _ (by decide)) ?_
      refine W_for0 (xs := rngL 0 60) (by exact rfl) (fun q ρ S' => ∃ (R1 : List Int) (r : Int) (z4 z5 : Option PV), S' = [.lst (R1.map .int), .lst xs] ∧ R1.length ≤ 60 * m + q ∧ ρ = [some (.ltc (ns.map .int)), some (.ref 0), some (.int c), some (.int r), z4, z5]) ⟨R, c, z4, z5, rfl, by omega, rfl⟩ (fun _ _ _ _ => rfl) (fun q x ρ S' hx h => ?_) fun ρ S' h => ?_
      · obtain ⟨R1, r, z4, z5, rfl, hR1, rfl⟩ := h
        obtain ⟨rfl, hq⟩ := rngL_get hx
        try simp only [ev_var, ev_cst, ev_bin, ev_neg, ev_cmp, ev_chain', ev_and, ev_or, ev_not, ev_ite, ev_tup, ev_lst, ev_ix, ev_sl, ev_call, ev_bt, ev_mt, ev_isi, ev_lc, ev_nil, ev_cons, ev_onone, ev_osome, ev_cnone, ev_csome, ev_ie, ev_rng, ev_enu, asT, ex_asg, ex_asgS, ex_par, ex_aug, ex_ite, ex_whl, ex_for, ex_expr, ex_ret, ex_retN, ex_pass, ex_brk, ex_cont, ex_never, ex_nil, ex_cons', W_ok, W_bind, fin_ret, fin_next, chK_bl, sq_next, sq_ret, sq_brk, sq_cont, bnd_ok, b_add, b_sub, i_add, i_sub, c_lt, c_le, c_gt, c_ge, c_eq, c_ne, c_eqs, c_nes, c_eqb, t_bl, t_int, t_non, p_int, f_int, as_n, as_t2, as_t3, setMany, getL, List.getElem?_cons_zero, List.getElem?_cons_succ, List.set_cons_zero, List.set_cons_succ, wipeL, tl0, tl1, tl2, tl3, tl4, tl5, tl6, Bool.not_true, Bool.not_false, decide_eq_true_eq, if_true, if_false, ite_true, ite_false, eq_self, Bool.false_eq_true]
        by_cases hr : r = 0
        · rw [if_pos hr]
          try simp only [ev_var, ev_cst, ev_bin, ev_neg, ev_cmp, ev_chain', ev_and, ev_or, ev_not, ev_ite, ev_tup, ev_lst, ev_ix, ev_sl, ev_call, ev_bt, ev_mt, ev_isi, ev_lc, ev_nil, ev_cons, ev_onone, ev_osome, ev_cnone, ev_csome, ev_ie, ev_rng, ev_enu, asT, ex_asg, ex_asgS, ex_par, ex_aug, ex_ite, ex_whl, ex_for, ex_expr, ex_ret, ex_retN, ex_pass, ex_brk, ex_cont, ex_never, ex_nil, ex_cons', W_ok, W_bind, fin_ret, fin_next, chK_bl, sq_next, sq_ret, sq_brk, sq_cont, bnd_ok, b_add, b_sub, i_add, i_sub, c_lt, c_le, c_gt, c_ge, c_eq, c_ne, c_eqs, c_nes, c_eqb, t_bl, t_int, t_non, p_int, f_int, as_n, as_t2, as_t3, setMany, getL, List.getElem?_cons_zero, List.getElem?_cons_succ, List.set_cons_zero, List.set_cons_succ, wipeL, tl0, tl1, tl2, tl3, tl4, tl5, tl6, Bool.not_true, Bool.not_false, decide_eq_true_eq, if_true, if_false, ite_true, ite_false, eq_self, Bool.false_eq_true]
          exact ⟨R1, _, _, _, _, rfl, by omega, rfl⟩
        · rw [if_neg hr]
          have hS : ([SO.lst (R1.map .int), .lst xs])[0]? = some (.lst (R1.map .int)) := rfl
          simp only [ev_var, ev_cst, ev_bin, ev_neg, ev_cmp, ev_chain', ev_and, ev_or, ev_not, ev_ite, ev_tup, ev_lst, ev_ix, ev_sl, ev_call, ev_bt, ev_mt, ev_isi, ev_lc, ev_nil, ev_cons, ev_onone, ev_osome, ev_cnone, ev_csome, ev_ie, ev_rng, ev_enu, asT, ex_asg, ex_asgS, ex_par, ex_aug, ex_ite, ex_whl, ex_for, ex_expr, ex_ret, ex_retN, ex_pass, ex_brk, ex_cont, ex_never, ex_nil, ex_cons', W_ok, W_bind, fin_ret, fin_next, chK_bl, sq_next, sq_ret, sq_brk, sq_cont, bnd_ok, b_add, b_sub, i_add, i_sub, c_lt, c_le, c_gt, c_ge, c_eq, c_ne, c_eqs, c_nes, c_eqb, t_bl, t_int, t_non, p_int, f_int, as_n, as_t2, as_t3, setMany, getL, List.getElem?_cons_zero, List.getElem?_cons_succ, List.set_cons_zero, List.set_cons_succ, wipeL, tl0, tl1, tl2, tl3, tl4, tl5, tl6, Bool.not_true, Bool.not_false, decide_eq_true_eq, if_true, if_false, ite_true, ite_false, eq_self, Bool.false_eq_true, if_pos (ty_ref hS), b_mod (show (0 : Int) < 997 by decide), b_div (show (0 : Int) < 997 ∧ (997 : Int) < 1073741824 by decide), mtTy, m_append hS (show (R1.map PV.int).length < lim by rw [List.length_map]; unfold lim; omega), map_snoc]
          exact ⟨_, _, _, _, rfl, by rw [List.length_append]; exact Nat.succ_le_succ hR1, rfl⟩
      · obtain ⟨R1, r, z4, z5, rfl, hR1, rfl⟩ := h
        rw [rngL_len] at hR1
        try simp only [ev_var, ev_cst, ev_bin, ev_neg, ev_cmp, ev_chain', ev_and, ev_or, ev_not, ev_ite, ev_tup, ev_lst, ev_ix, ev_sl, ev_call, ev_bt, ev_mt, ev_isi, ev_lc, ev_nil, ev_cons, ev_onone, ev_osome, ev_cnone, ev_csome, ev_ie, ev_rng, ev_enu, asT, ex_asg, ex_asgS, ex_par, ex_aug, ex_ite, ex_whl, ex_for, ex_expr, ex_ret, ex_retN, ex_pass, ex_brk, ex_cont, ex_never, ex_nil, ex_cons', W_ok, W_bind, fin_ret, fin_next, chK_bl, sq_next, sq_ret, sq_brk, sq_cont, bnd_ok, b_add, b_sub, i_add, i_sub, c_lt, c_le, c_gt, c_ge, c_eq, c_ne, c_eqs, c_nes, c_eqb, t_bl, t_int, t_non, p_int, f_int, as_n, as_t2, as_t3, setMany, getL, List.getElem?_cons_zero, List.getElem?_cons_succ, List.set_cons_zero, List.set_cons_succ, wipeL, tl0, tl1, tl2, tl3, tl4, tl5, tl6, Bool.not_true, Bool.not_false, decide_eq_true_eq, if_true, if_false, ite_true, ite_false, eq_self, Bool.false_eq_true]
        exact ⟨R1, _, _, _, _, rfl, by omega, rfl⟩
    · rw [if_neg hc]
      try simp only [ev_var, ev_cst, ev_bin, ev_neg, ev_cmp, ev_chain', ev_and, ev_or, ev_not, ev_ite, ev_tup, ev_lst, ev_ix, ev_sl, ev_call, ev_bt, ev_mt, ev_isi, ev_lc, ev_nil, ev_cons, ev_onone, ev_osome, ev_cnone, ev_csome, ev_ie, ev_rng, ev_enu, asT, ex_asg, ex_asgS, ex_par, ex_aug, ex_ite, ex_whl, ex_for, ex_expr, ex_ret, ex_retN, ex_pass, ex_brk, ex_cont, ex_never, ex_nil, ex_cons', W_ok, W_bind, fin_ret, fin_next, chK_bl, sq_next, sq_ret, sq_brk, sq_cont, bnd_ok, b_add, b_sub, i_add, i_sub, c_lt, c_le, c_gt, c_ge, c_eq, c_ne, c_eqs, c_nes, c_eqb, t_bl, t_int, t_non, p_int, f_int, as_n, as_t2, as_t3, setMany, getL, List.getElem?_cons_zero, List.getElem?_cons_succ, List.set_cons_zero, List.set_cons_succ, wipeL, tl0, tl1, tl2, tl3, tl4, tl5, tl6, Bool.not_true, Bool.not_false, decide_eq_true_eq, if_true, if_false, ite_true, ite_false, eq_self, Bool.false_eq_true]
      refine W_r1 (b62 _ (by decide)) ?_
      refine W_for0 (xs := rngL 0 4) (by exact rfl) (fun q ρ S' => ∃ (R1 : List Int) (z3 z4 z5 : Option PV), S' = [.lst (R1.map .int), .lst xs] ∧ R1.length ≤ 60 * m + q ∧ ρ = [some (.ltc (ns.map .int)), some (.ref 0), some (.int c), z3, z4, z5]) ⟨R, z3, z4, z5, rfl, by omega, rfl⟩ (fun _ _ _ _ => rfl) (fun q x ρ S' hx h => ?_) fun ρ S' h => ?_
      · obtain ⟨R1, z3, z4, z5, rfl, hR1, rfl⟩ := h
        obtain ⟨rfl, hq⟩ := rngL_get hx
        have hS : ([SO.lst (R1.map .int), .lst xs])[0]? = some (.lst (R1.map .int)) := rfl
        simp only [ev_var, ev_cst, ev_bin, ev_neg, ev_cmp, ev_chain', ev_and, ev_or, ev_not, ev_ite, ev_tup, ev_lst, ev_ix, ev_sl, ev_call, ev_bt, ev_mt, ev_isi, ev_lc, ev_nil, ev_cons, ev_onone, ev_osome, ev_cnone, ev_csome, ev_ie, ev_rng, ev_enu, asT, ex_asg, ex_asgS, ex_par, ex_aug, ex_ite, ex_whl, ex_for, ex_expr, ex_ret, ex_retN, ex_pass, ex_brk, ex_cont, ex_never, ex_nil, ex_cons', W_ok, W_bind, fin_ret, fin_next, chK_bl, sq_next, sq_ret, sq_brk, sq_cont, bnd_ok, b_add, b_sub, i_add, i_sub, c_lt, c_le, c_gt, c_ge, c_eq, c_ne, c_eqs, c_nes, c_eqb, t_bl, t_int, t_non, p_int, f_int, as_n, as_t2, as_t3, setMany, getL, List.getElem?_cons_zero, List.getElem?_cons_succ, List.set_cons_zero, List.set_cons_succ, wipeL, tl0, tl1, tl2, tl3, tl4, tl5, tl6, Bool.not_true, Bool.not_false, decide_eq_true_eq, if_true, if_false, ite_true, ite_false, eq_self, Bool.false_eq_true, if_pos (ty_ref hS), b_mul (sm 48271), b_mul (sm 69621), b_mul (sm 16807), b_mod (show (0 : Int) < 2147483647 by decide), b_mod (show (0 : Int) < 2147483629 by decide), mtTy, m_append hS (show (R1.map PV.int).length < lim by rw [List.length_map]; unfold lim; omega), map_snoc]
        exact ⟨_, _, _, _, rfl, by rw [List.length_append]; exact Nat.succ_le_succ hR1, rfl⟩
      · obtain ⟨R1, z3, z4, z5, rfl, hR1, rfl⟩ := h
        rw [rngL_len] at hR1
        try simp only [ev_var, ev_cst, ev_bin, ev_neg, ev_cmp, ev_chain', ev_and, ev_or, ev_not, ev_ite, ev_tup, ev_lst, ev_ix, ev_sl, ev_call, ev_bt, ev_mt, ev_isi, ev_lc, ev_nil, ev_cons, ev_onone, ev_osome, ev_cnone, ev_csome, ev_ie, ev_rng, ev_enu, asT, ex_asg, ex_asgS, ex_par, ex_aug, ex_ite, ex_whl, ex_for, ex_expr, ex_ret, ex_retN, ex_pass, ex_brk, ex_cont, ex_never, ex_nil, ex_cons', W_ok, W_bind, fin_ret, fin_next, chK_bl, sq_next, sq_ret, sq_brk, sq_cont, bnd_ok, b_add, b_sub, i_add, i_sub, c_lt, c_le, c_gt, c_ge, c_eq, c_ne, c_eqs, c_nes, c_eqb, t_bl, t_int, t_non, p_int, f_int, as_n, as_t2, as_t3, setMany, getL, List.getElem?_cons_zero, List.getElem?_cons_succ, List.set_cons_zero, List.set_cons_succ, wipeL, tl0, tl1, tl2, tl3, tl4, tl5, tl6, Bool.not_true, Bool.not_false, decide_eq_true_eq, if_true, if_false, ite_true, ite_false, eq_self, Bool.false_eq_true]
        exact ⟨R1, _, _, _, _, rfl, by omega, rfl⟩
  · obtain ⟨R, z2, z3, z4, z5, rfl, hR, rfl⟩ := h
    have hS : ([SO.lst (R.map .int), .lst xs])[0]? = some (.lst (R.map .int)) := rfl
    simp only [ev_var, ev_cst, ev_bin, ev_neg, ev_cmp, ev_chain', ev_and, ev_or, ev_not, ev_ite, ev_tup, ev_lst, ev_ix, ev_sl, ev_call, ev_bt, ev_mt, ev_isi, ev_lc, ev_nil, ev_cons, ev_onone, ev_osome, ev_cnone, ev_csome, ev_ie, ev_rng, ev_enu, asT, ex_asg, ex_asgS, ex_par, ex_aug, ex_ite, ex_whl, ex_for, ex_expr, ex_ret, ex_retN, ex_pass, ex_brk, ex_cont, ex_never, ex_nil, ex_cons', W_ok, W_bind, fin_ret, fin_next, chK_bl, sq_next, sq_ret, sq_brk, sq_cont, bnd_ok, b_add, b_sub, i_add, i_sub, c_lt, c_le, c_gt, c_ge, c_eq, c_ne, c_eqs, c_nes, c_eqb, t_bl, t_int, t_non, p_int, f_int, as_n, as_t2, as_t3, setMany, getL, List.getElem?_cons_zero, List.getElem?_cons_succ, List.set_cons_zero, List.set_cons_succ, wipeL, tl0, tl1, tl2, tl3, tl4, tl5, tl6, Bool.not_true, Bool.not_false, decide_eq_true_eq, if_true, if_false, ite_true, ite_false, eq_self, Bool.false_eq_true, f_len (items_ref hS), List.length_map]
    by_cases h0 : (R.length : Int) = 0
    · rw [if_pos h0]
      simp only [ev_var, ev_cst, ev_bin, ev_neg, ev_cmp, ev_chain', ev_and, ev_or, ev_not, ev_ite, ev_tup, ev_lst, ev_ix, ev_sl, ev_call, ev_bt, ev_mt, ev_isi, ev_lc, ev_nil, ev_cons, ev_onone, ev_osome, ev_cnone, ev_csome, ev_ie, ev_rng, ev_enu, asT, ex_asg, ex_asgS, ex_par, ex_aug, ex_ite, ex_whl, ex_for, ex_expr, ex_ret, ex_retN, ex_pass, ex_brk, ex_cont, ex_never, ex_nil, ex_cons', W_ok, W_bind, fin_ret, fin_next, chK_bl, sq_next, sq_ret, sq_brk, sq_cont, bnd_ok, b_add, b_sub, i_add, i_sub, c_lt, c_le, c_gt, c_ge, c_eq, c_ne, c_eqs, c_nes, c_eqb, t_bl, t_int, t_non, p_int, f_int, as_n, as_t2, as_t3, setMany, getL, List.getElem?_cons_zero, List.getElem?_cons_succ, List.set_cons_zero, List.set_cons_succ, wipeL, tl0, tl1, tl2, tl3, tl4, tl5, tl6, Bool.not_true, Bool.not_false, decide_eq_true_eq, if_true, if_false, ite_true, ite_false, eq_self, Bool.false_eq_true, if_pos (ty_ref hS), mtTy, m_append hS (show (R.map PV.int).length < lim by rw [List.length_map]; unfold lim; omega), map_snoc]
      exact ⟨_, _, trivial, by rw [List.length_append]; exact Nat.succ_pos _, rfl⟩
    · rw [if_neg h0]
      try simp only [ev_var, ev_cst, ev_bin, ev_neg, ev_cmp, ev_chain', ev_and, ev_or, ev_not, ev_ite, ev_tup, ev_lst, ev_ix, ev_sl, ev_call, ev_bt, ev_mt, ev_isi, ev_lc, ev_nil, ev_cons, ev_onone, ev_osome, ev_cnone, ev_csome, ev_ie, ev_rng, ev_enu, asT, ex_asg, ex_asgS, ex_par, ex_aug, ex_ite, ex_whl, ex_for, ex_expr, ex_ret, ex_retN, ex_pass, ex_brk, ex_cont, ex_never, ex_nil, ex_cons', W_ok, W_bind, fin_ret, fin_next, chK_bl, sq_next, sq_ret, sq_brk, sq_cont, bnd_ok, b_add, b_sub, i_add, i_sub, c_lt, c_le, c_gt, c_ge, c_eq, c_ne, c_eqs, c_nes, c_eqb, t_bl, t_int, t_non, p_int, f_int, as_n, as_t2, as_t3, setMany, getL, List.getElem?_cons_zero, List.getElem?_cons_succ, List.set_cons_zero, List.set_cons_succ, wipeL, tl0, tl1, tl2, tl3, tl4, tl5, tl6, Bool.not_true, Bool.not_false, decide_eq_true_eq, if_true, if_false, ite_true, ite_false, eq_self, Bool.false_eq_true]
      exact ⟨R, _, trivial, by omega, rfl⟩
/-! ### handed as a list or as it is -/
theorem scal_ty {x : PV} (h : scalar x = true) : ∃ t, tyOf S x = some t ∧ isaT t .tuple = false := by
  cases x with
  | non => exact ⟨_, rfl, rfl⟩
  | bl b => exact ⟨_, rfl, rfl⟩
  | int b => exact ⟨_, rfl, rfl⟩
  | str b => exact ⟨_, rfl, rfl⟩
  | _ => cases h
theorem listed_scal (hf : fs[i]? = some ⟨2, 1, bListed i⟩) {x : PV} (h : scalar x = true) : callN fs fu (k + 1) i [x] S = .ok x S := by
  refine eq_of_W ?_
  refine W_fn2 hf rfl rfl ?_; simp only [List.map_cons, List.map_nil, List.length_cons, List.length_nil, List.cons_append, List.nil_append, List.append_nil, List.replicate_succ, List.replicate_zero, Nat.reduceAdd, Nat.reduceSub, Nat.zero_add]
  unfold bListed
  obtain ⟨t, e1, e2⟩ := scal_ty (S := S) h
  simp only [ev_var, ev_cst, ev_bin, ev_neg, ev_cmp, ev_chain', ev_and, ev_or, ev_not, ev_ite, ev_tup, ev_lst, ev_ix, ev_sl, ev_call, ev_bt, ev_mt, ev_isi, ev_lc, ev_nil, ev_cons, ev_onone, ev_osome, ev_cnone, ev_csome, ev_ie, ev_rng, ev_enu, asT, ex_asg, ex_asgS, ex_par, ex_aug, ex_ite, ex_whl, ex_for, ex_expr, ex_ret, ex_retN, ex_pass, ex_brk, ex_cont, ex_never, ex_nil, ex_cons', W_ok, W_bind, fin_ret, fin_next, chK_bl, sq_next, sq_ret, sq_brk, sq_cont, bnd_ok, b_add, b_sub, i_add, i_sub, c_lt, c_le, c_gt, c_ge, c_eq, c_ne, c_eqs, c_nes, c_eqb, t_bl, t_int, t_non, p_int, f_int, as_n, as_t2, as_t3, setMany, getL, List.getElem?_cons_zero, List.getElem?_cons_succ, List.set_cons_zero, List.set_cons_succ, wipeL, tl0, tl1, tl2, tl3, tl4, tl5, tl6, Bool.not_true, Bool.not_false, decide_eq_true_eq, if_true, if_false, ite_true, ite_false, eq_self, Bool.false_eq_true, isiF, e1, List.any_cons, List.any_nil, e2, Bool.or_false, and_self]
theorem filterMap_some {α : Type} (xs : List α) : xs.filterMap some = xs := by
  induction xs with
  | nil => rfl
  | cons x xs ih => simp
theorem Kp.len {S S' : Store} (k : Sub S S') : S.length ≤ S'.length := by
  cases hS : S.length with
  | zero => omega
  | succ n =>
    have e : S[n]? = some S[n] := List.getElem?_eq_getElem (by omega)
    have := (List.getElem?_eq_some_iff.mp (k _ _ trivial e)).1
    omega
theorem listed_flat (hf : fs[i]? = some ⟨2, 1, bListed i⟩) {xs : List PV} (h : ∀ x, x ∈ xs → scalar x = true) (hl : xs.length ≤ lim) :
    W (callN fs fu (k + 2) i [.tup xs] S) (fun v S' => Sub S S' ∧ ∃ n, v = .ref n ∧ S'[n]? = some (.lst xs) ∧ S.length ≤ n) := by
  refine W_fn2 hf rfl rfl ?_; simp only [List.map_cons, List.map_nil, List.length_cons, List.length_nil, List.cons_append, List.nil_append, List.append_nil, List.replicate_succ, List.replicate_zero, Nat.reduceAdd, Nat.reduceSub, Nat.zero_add]
  unfold bListed
  simp only [ev_var, ev_cst, ev_bin, ev_neg, ev_cmp, ev_chain', ev_and, ev_or, ev_not, ev_ite, ev_tup, ev_lst, ev_ix, ev_sl, ev_call, ev_bt, ev_mt, ev_isi, ev_lc, ev_nil, ev_cons, ev_onone, ev_osome, ev_cnone, ev_csome, ev_ie, ev_rng, ev_enu, asT, ex_asg, ex_asgS, ex_par, ex_aug, ex_ite, ex_whl, ex_for, ex_expr, ex_ret, ex_retN, ex_pass, ex_brk, ex_cont, ex_never, ex_nil, ex_cons', W_ok, W_bind, fin_ret, fin_next, chK_bl, sq_next, sq_ret, sq_brk, sq_cont, bnd_ok, b_add, b_sub, i_add, i_sub, c_lt, c_le, c_gt, c_ge, c_eq, c_ne, c_eqs, c_nes, c_eqb, t_bl, t_int, t_non, p_int, f_int, as_n, as_t2, as_t3, setMany, getL, List.getElem?_cons_zero, List.getElem?_cons_succ, List.set_cons_zero, List.set_cons_succ, wipeL, tl0, tl1, tl2, tl3, tl4, tl5, tl6, Bool.not_true, Bool.not_false, decide_eq_true_eq, if_true, if_false, ite_true, ite_false, eq_self, Bool.false_eq_true, isiF, tyOf, List.any_cons, List.any_nil, isaT, decide_true, Bool.or_false, iterV]
  refine (W_lc (p := fun _ => True) (it := .vals xs) (xs := xs) some rfl trivial hl fun x hx S1 k1 => ?_).mono fun ys S' q => ?_
  · simp only [ev_var, ev_cst, ev_bin, ev_neg, ev_cmp, ev_chain', ev_and, ev_or, ev_not, ev_ite, ev_tup, ev_lst, ev_ix, ev_sl, ev_call, ev_bt, ev_mt, ev_isi, ev_lc, ev_nil, ev_cons, ev_onone, ev_osome, ev_cnone, ev_csome, ev_ie, ev_rng, ev_enu, asT, ex_asg, ex_asgS, ex_par, ex_aug, ex_ite, ex_whl, ex_for, ex_expr, ex_ret, ex_retN, ex_pass, ex_brk, ex_cont, ex_never, ex_nil, ex_cons', W_ok, W_bind, fin_ret, fin_next, chK_bl, sq_next, sq_ret, sq_brk, sq_cont, bnd_ok, b_add, b_sub, i_add, i_sub, c_lt, c_le, c_gt, c_ge, c_eq, c_ne, c_eqs, c_nes, c_eqb, t_bl, t_int, t_non, p_int, f_int, as_n, as_t2, as_t3, setMany, getL, List.getElem?_cons_zero, List.getElem?_cons_succ, List.set_cons_zero, List.set_cons_succ, wipeL, tl0, tl1, tl2, tl3, tl4, tl5, tl6, Bool.not_true, Bool.not_false, decide_eq_true_eq, if_true, if_false, ite_true, ite_false, eq_self, Bool.false_eq_true, listed_scal hf (h x hx)]
    exact ⟨trivial, .refl⟩
  · obtain ⟨rfl, k1⟩ := q
    exact ⟨k1.trans .push, _, rfl, by rw [filterMap_some]; exact at_push, k1.len⟩
theorem handed_flat {l t dr : Nat} (hf : fs[i]? = some ⟨3, 3, bHanded t l⟩) (ht : fs[t]? = some ⟨3, 3, bTake dr⟩) (hd : fs[dr]? = some ⟨4, 3, bDraw⟩) (hls : fs[l]? = some ⟨2, 1, bListed l⟩)
    {rw_ sp : Nat} {R : List Int} (D : Dr R rw_ sp S) {xs : List PV} (h : ∀ x, x ∈ xs → scalar x = true) (hl : xs.length ≤ lim) :
    W (callN fs fu (k + 3) i [.ref rw_, .ref sp, .tup xs] S) (fun v S' => itemsOf S' v = some xs ∧ NotR (fun n => n ≠ sp) v ∧ Dr R rw_ sp S' ∧ Ks sp S S') := by
  refine W_fn2 hf rfl rfl ?_; simp only [List.map_cons, List.map_nil, List.length_cons, List.length_nil, List.cons_append, List.nil_append, List.append_nil, List.replicate_succ, List.replicate_zero, Nat.reduceAdd, Nat.reduceSub, Nat.zero_add]
  unfold bHanded
  try simp only [ev_var, ev_cst, ev_bin, ev_neg, ev_cmp, ev_chain', ev_and, ev_or, ev_not, ev_ite, ev_tup, ev_lst, ev_ix, ev_sl, ev_call, ev_bt, ev_mt, ev_isi, ev_lc, ev_nil, ev_cons, ev_onone, ev_osome, ev_cnone, ev_csome, ev_ie, ev_rng, ev_enu, asT, ex_asg, ex_asgS, ex_par, ex_aug, ex_ite, ex_whl, ex_for, ex_expr, ex_ret, ex_retN, ex_pass, ex_brk, ex_cont, ex_never, ex_nil, ex_cons', W_ok, W_bind, fin_ret, fin_next, chK_bl, sq_next, sq_ret, sq_brk, sq_cont, bnd_ok, b_add, b_sub, i_add, i_sub, c_lt, c_le, c_gt, c_ge, c_eq, c_ne, c_eqs, c_nes, c_eqb, t_bl, t_int, t_non, p_int, f_int, as_n, as_t2, as_t3, setMany, getL, List.getElem?_cons_zero, List.getElem?_cons_succ, List.set_cons_zero, List.set_cons_succ, wipeL, tl0, tl1, tl2, tl3, tl4, tl5, tl6, Bool.not_true, Bool.not_false, decide_eq_true_eq, if_true, if_false, ite_true, ite_false, eq_self, Bool.false_eq_true]
  refine (take_ok ht hd D (show (0 : Int) < 2 by decide)).mono fun v S1 q => ?_
  obtain ⟨d, rfl, _, _, D1, k1⟩ := q
  try simp only [ev_var, ev_cst, ev_bin, ev_neg, ev_cmp, ev_chain', ev_and, ev_or, ev_not, ev_ite, ev_tup, ev_lst, ev_ix, ev_sl, ev_call, ev_bt, ev_mt, ev_isi, ev_lc, ev_nil, ev_cons, ev_onone, ev_osome, ev_cnone, ev_csome, ev_ie, ev_rng, ev_enu, asT, ex_asg, ex_asgS, ex_par, ex_aug, ex_ite, ex_whl, ex_for, ex_expr, ex_ret, ex_retN, ex_pass, ex_brk, ex_cont, ex_never, ex_nil, ex_cons', W_ok, W_bind, fin_ret, fin_next, chK_bl, sq_next, sq_ret, sq_brk, sq_cont, bnd_ok, b_add, b_sub, i_add, i_sub, c_lt, c_le, c_gt, c_ge, c_eq, c_ne, c_eqs, c_nes, c_eqb, t_bl, t_int, t_non, p_int, f_int, as_n, as_t2, as_t3, setMany, getL, List.getElem?_cons_zero, List.getElem?_cons_succ, List.set_cons_zero, List.set_cons_succ, wipeL, tl0, tl1, tl2, tl3, tl4, tl5, tl6, Bool.not_true, Bool.not_false, decide_eq_true_eq, if_true, if_false, ite_true, ite_false, eq_self, Bool.false_eq_true]
  by_cases hd0 : d = 0
  · rw [if_pos hd0]
    try simp only [ev_var, ev_cst, ev_bin, ev_neg, ev_cmp, ev_chain', ev_and, ev_or, ev_not, ev_ite, ev_tup, ev_lst, ev_ix, ev_sl, ev_call, ev_bt, ev_mt, ev_isi, ev_lc, ev_nil, ev_cons, ev_onone, ev_osome, ev_cnone, ev_csome, ev_ie, ev_rng, ev_enu, asT, ex_asg, ex_asgS, ex_par, ex_aug, ex_ite, ex_whl, ex_for, ex_expr, ex_ret, ex_retN, ex_pass, ex_brk, ex_cont, ex_never, ex_nil, ex_cons', W_ok, W_bind, fin_ret, fin_next, chK_bl, sq_next, sq_ret, sq_brk, sq_cont, bnd_ok, b_add, b_sub, i_add, i_sub, c_lt, c_le, c_gt, c_ge, c_eq, c_ne, c_eqs, c_nes, c_eqb, t_bl, t_int, t_non, p_int, f_int, as_n, as_t2, as_t3, setMany, getL, List.getElem?_cons_zero, List.getElem?_cons_succ, List.set_cons_zero, List.set_cons_succ, wipeL, tl0, tl1, tl2, tl3, tl4, tl5, tl6, Bool.not_true, Bool.not_false, decide_eq_true_eq, if_true, if_false, ite_true, ite_false, eq_self, Bool.false_eq_true]
    refine (listed_flat hls h hl).mono fun v S2 q => ?_
    obtain ⟨k2, n, rfl, e, hn⟩ := q
    obtain ⟨s, hs⟩ := D1.spot
    have := (List.getElem?_eq_some_iff.mp hs).1
    exact ⟨items_ref e, (by show n ≠ sp; omega), D1.kp k2, k1.trans (.of k2)⟩
  · rw [if_neg hd0]
    try simp only [ev_var, ev_cst, ev_bin, ev_neg, ev_cmp, ev_chain', ev_and, ev_or, ev_not, ev_ite, ev_tup, ev_lst, ev_ix, ev_sl, ev_call, ev_bt, ev_mt, ev_isi, ev_lc, ev_nil, ev_cons, ev_onone, ev_osome, ev_cnone, ev_csome, ev_ie, ev_rng, ev_enu, asT, ex_asg, ex_asgS, ex_par, ex_aug, ex_ite, ex_whl, ex_for, ex_expr, ex_ret, ex_retN, ex_pass, ex_brk, ex_cont, ex_never, ex_nil, ex_cons', W_ok, W_bind, fin_ret, fin_next, chK_bl, sq_next, sq_ret, sq_brk, sq_cont, bnd_ok, b_add, b_sub, i_add, i_sub, c_lt, c_le, c_gt, c_ge, c_eq, c_ne, c_eqs, c_nes, c_eqb, t_bl, t_int, t_non, p_int, f_int, as_n, as_t2, as_t3, setMany, getL, List.getElem?_cons_zero, List.getElem?_cons_succ, List.set_cons_zero, List.set_cons_succ, wipeL, tl0, tl1, tl2, tl3, tl4, tl5, tl6, Bool.not_true, Bool.not_false, decide_eq_true_eq, if_true, if_false, ite_true, ite_false, eq_self, Bool.false_eq_true]
    exact ⟨rfl, trivial, D1, k1⟩
end
end Mp

/-! Mq5: more for the pure goals: drawn lists, cuts, index. -/
namespace Mp
open PySem PySem.Spec L2
section
variable {fs : List Fn} {fu k i j : Nat} {S : Store}
theorem W_lcD {p : Nat → Prop} {it : Ir} {xs : List PV} {turn : PV → Store → Res (Option PV)} (Iv : Store → Prop) (P : PV → Prop) (h0 : Iv S) (hi : IrIs S it xs) (hp : NotI p it) (hl : xs.length ≤ lim)
    (h : ∀ x, x ∈ xs → ∀ S1, Iv S1 → Kp p S S1 → W (turn x S1) (fun r S2 => (∃ y, r = some y ∧ P y) ∧ Iv S2 ∧ Kp p S1 S2)) :
    W (lcN it turn (it.len S + 1) 0 [] S) (fun ys S' => ys.length = xs.length ∧ (∀ y, y ∈ ys → P y) ∧ Iv S' ∧ Kp p S S') := by
  rw [hi.len]
  refine (W_lcI (it := it) (xs := xs) (fun i acc S1 => acc.length = i ∧ (∀ y, y ∈ acc → P y) ∧ Iv S1 ∧ Kp p S S1 ∧ i ≤ xs.length) (fun i acc S1 q => hi.kp hp q.2.2.2.1) (fun i x acc S1 e q => ?_) (xs.length + 1) 0 [] S (Nat.zero_le _) (by omega) ⟨rfl, by simp, h0, .refl, Nat.zero_le _⟩).mono fun ys S' q => ⟨q.1, q.2.1, q.2.2.1, q.2.2.2.1⟩
  have hx := List.mem_of_getElem? e
  have hlt := (List.getElem?_eq_some_iff.mp e).1
  refine (h x hx S1 q.2.2.1 q.2.2.2.1).mono fun r S2 q2 => ?_
  obtain ⟨⟨y, rfl, hy⟩, i2, k2⟩ := q2
  refine ⟨by omega, by rw [List.length_append, q.1]; rfl, fun z hz => ?_, i2, q.2.2.2.1.trans k2, hlt⟩
  rcases List.mem_append.mp hz with hz | hz
  · exact q.2.1 z hz
  · rw [List.mem_singleton] at hz; rw [hz]; exact hy
/-- values that are ints -/
theorem ints_map {P : Int → Prop} : ∀ {ys : List PV}, (∀ y, y ∈ ys → ∃ d : Int, y = .int d ∧ P d) → ∃ ns : List Int, ys = ns.map .int ∧ ∀ n, n ∈ ns → P n
  | [], _ => ⟨[], rfl, by simp⟩
  | y :: ys, h => by
    obtain ⟨d, rfl, hd⟩ := h y (List.mem_cons_self ..)
    obtain ⟨ns, rfl, hn⟩ := ints_map (P := P) fun z hz => h z (List.mem_cons_of_mem _ hz)
    refine ⟨d :: ns, rfl, fun n hn' => ?_⟩
    rcases List.mem_cons.mp hn' with rfl | hn'
    · exact hd
    · exact hn n hn'
theorem cut_map {α β : Type} (f : α → β) (xs : List α) (lo hi : Option Int) : cut (xs.map f) lo hi = (cut xs lo hi).map f := by
  unfold cut
  rw [List.length_map, List.map_take, List.map_drop]
theorem maxL_mem : ∀ {ns : List Int}, 0 < ns.length → maxL ns ∈ ns
  | [a], _ => by simp [maxL]
  | a :: b :: r, _ => by
    have ih := maxL_mem (ns := b :: r) (by simp)
    unfold maxL
    split
    · exact List.mem_cons_self ..
    · exact List.mem_cons_of_mem _ ih
theorem findIx_int {m : Int} : ∀ {ns : List Int}, m ∈ ns → ∃ j, findIx (.int m) (ns.map .int) = some j
  | n :: ns, h => by
    by_cases e : n = m
    · exact ⟨0, by subst e; simp [findIx, seqv]⟩
    · obtain ⟨j, hj⟩ := findIx_int (m := m) (ns := ns) (by rcases List.mem_cons.mp h with h | h; exact absurd h.symm e; exact h)
      exact ⟨j + 1, by simp [findIx, seqv, e, hj]⟩
theorem scal_ints (ns : List Int) : (ns.map PV.int).all scalar = true := by
  rw [List.all_eq_true]
  intro x hx
  obtain ⟨n, _, rfl⟩ := List.mem_map.mp hx
  rfl
theorem scal_ints' (ns : List Int) : ∀ x, x ∈ ns.map PV.int → scalar x = true := fun x hx => by
  obtain ⟨n, _, rfl⟩ := List.mem_map.mp hx
  rfl
theorem m_index {n : Nat} {ns : List Int} {m : Int} {j : Nat} (h : S[n]? = some (.lst (ns.map .int))) (e : findIx (.int m) (ns.map .int) = some j) : mtF .index (.ref n) [.int m] S = .ok (.int (j : Int)) S := by
  show indexM (.ref n) [.int m] S = _
  unfold indexM
  dsimp only
  rw [lit_ref h]
  dsimp only
  rw [if_pos ⟨rfl, scal_ints ns⟩, e]
theorem W_sl {x : PV} {xs : List PV} {lo hi : Option Int} {Q : PV → Store → Prop} (h : itemsOf S x = some xs) (q : ∀ y S', Sub S S' → itemsOf S' y = some (cut xs lo hi) → Q y S') : W (slV x lo hi S) Q :=
  (sl_items h).mono fun y S' r => q y S' r.1 r.2
theorem W_it {x : PV} {xs : List PV} {Q : Ir → Store → Prop} (h : itemsOf S x = some xs) (q : ∀ r, IrIs S r xs → (∀ p, NotR p x → NotI p r) → Q r S) : W (iterV x S) Q :=
  (it_items h).mono fun r S' z => by obtain ⟨rfl, z1, z2⟩ := z; exact q r z1 z2
theorem ns_at {ns : List Int} {i : Int} (h0 : 0 ≤ i) (h1 : i < ns.length) : (ns.map PV.int)[i.toNat]? = some (.int (ns.getD i.toNat 0)) := by
  rw [List.getElem?_map, List.getD_eq_getElem?_getD, List.getElem?_eq_getElem (show i.toNat < ns.length by omega)]
  rfl
theorem plain_scal {n : Nat} {xs : List PV} (hl : xs.length ≤ lim) (h : ∀ x, x ∈ xs → scalar x = true) : plain (n + 1) (.tup xs) = true := plain_tup hl fun x hx => by
  have := h x hx
  cases x <;> first | (cases n <;> rfl) | cases this
theorem lit_items {x : PV} {xs : List PV} (h : itemsOf S x = some xs) (ht : ∀ ys, x ≠ .tup ys) : litems S x = some xs := by
  cases x with
  | tup ys => exact absurd rfl (ht ys)
  | ltc ys => exact h
  | ref n =>
    unfold itemsOf at h
    unfold litems
    exact h
  | _ => cases h
theorem sl_ref {n : Nat} {xs : List PV} {lo hi : Option Int} (h : S[n]? = some (.lst xs)) : slV (.ref n) lo hi S = .ok (.ref S.length) (S ++ [.lst (cut xs lo hi)]) := by
  unfold slV
  dsimp only
  rw [h]
/-- any truth: all of them -/
theorem all_true (xs : List PV) : xs.filterMap (fun _ => some (PV.bl true)) = (xs.map fun _ => true).map .bl := by
  induction xs with
  | nil => rfl
  | cons x xs ih => simp
theorem all_id (xs : List PV) : (xs.map fun _ => true).all id = true := by
  induction xs with
  | nil => rfl
  | cons x xs ih => simpa using ih
theorem sub_true {x : PV} : NotR (fun _ => True) x := by cases x <;> exact trivial
end
end Mp

/-! Mq6: texts, picks, lists of truths, like tuples. -/
namespace Mp
open PySem PySem.Spec L2
def bIsText : Ts := Ts.cons (T.ret (E.and (E.isi (E.var 0) [Ty.str]) (E.cmp (CmpOp.LtE) (E.bt (Bt.len) (Es.cons (E.var 0) (Es.nil))) (E.var 1)))) (Ts.nil)
def bIsLetters (i : Nat) : Ts := Ts.cons (T.ret (E.and (E.call i (Es.cons (E.var 0) (Es.cons (E.var 1) (Es.nil)))) (E.and (E.cmp (CmpOp.NotEq) (E.var 0) (E.cst (PV.str []))) (E.bt (Bt.all) (Es.cons (E.lc [2] (It.e (E.var 0)) (Pt.name 2) (Oe.none) (E.chain (CmpOp.LtE) (CmpOp.LtE) (E.cst (PV.str [97])) (E.var 2) (E.cst (PV.str [122])))) (Es.nil)))))) (Ts.nil)
def bIsWord (i : Nat) : Ts := Ts.cons (T.ret (E.call i (Es.cons (E.var 0) (Es.cons (E.cst (PV.int 20)) (Es.nil))))) (Ts.nil)
def bPick (i : Nat) : Ts := Ts.cons (T.ret (E.ix (E.var 2) (E.call i (Es.cons (E.var 0) (Es.cons (E.var 1) (Es.cons (E.bt (Bt.len) (Es.cons (E.var 2) (Es.nil))) (Es.nil))))))) (Ts.nil)
def bWide (i : Nat) : Ts := Ts.cons (T.asg (Tg.pat (Pt.name 3)) (E.call i (Es.cons (E.var 0) (Es.cons (E.var 1) (Es.cons (E.cst (PV.int 997)) (Es.nil)))))) (Ts.cons (T.asg (Tg.pat (Pt.name 4)) (E.call i (Es.cons (E.var 0) (Es.cons (E.var 1) (Es.cons (E.cst (PV.int 997)) (Es.nil)))))) (Ts.cons (T.asg (Tg.pat (Pt.name 5)) (E.call i (Es.cons (E.var 0) (Es.cons (E.var 1) (Es.cons (E.cst (PV.int 997)) (Es.nil)))))) (Ts.cons (T.ret (E.bin (Operator.Mod) (E.bt (Bt.int) (Es.cons (E.bin (Operator.Add) (E.bin (Operator.Add) (E.bin (Operator.Mult) (E.var 3) (E.cst (PV.int 994009))) (E.bin (Operator.Mult) (E.var 4) (E.cst (PV.int 997)))) (E.var 5)) (Es.nil))) (E.var 2))) (Ts.nil))))
section
variable {fs : List Fn} {fu k i j : Nat} {S : Store}
/-- a comprehension of truths -/
theorem W_lcB {p : Nat → Prop} {it : Ir} {xs : List PV} {turn : PV → Store → Res (Option PV)} (f : PV → Bool) (hi : IrIs S it xs) (hp : NotI p it) (hl : xs.length ≤ lim)
    (h : ∀ x, x ∈ xs → ∀ S1, Kp p S S1 → W (turn x S1) (fun r S2 => r = some (.bl (f x)) ∧ Kp p S1 S2)) :
    W (lcN it turn (it.len S + 1) 0 [] S) (fun ys S' => ys = (xs.map f).map .bl ∧ Kp p S S') :=
  (W_lc (fun x => some (.bl (f x))) hi hp hl h).mono fun ys S' q => ⟨by rw [q.1, List.map_map, ← List.filterMap_eq_map]; rfl, q.2⟩
theorem W_lcM {p : Nat → Prop} {it : Ir} {xs : List PV} {turn : PV → Store → Res (Option PV)} (f : PV → PV) (hi : IrIs S it xs) (hp : NotI p it) (hl : xs.length ≤ lim)
    (h : ∀ x, x ∈ xs → ∀ S1, Kp p S S1 → W (turn x S1) (fun r S2 => r = some (f x) ∧ Kp p S1 S2)) :
    W (lcN it turn (it.len S + 1) 0 [] S) (fun ys S' => ys = xs.map f ∧ Kp p S S') :=
  (W_lc (fun x => some (f x)) hi hp hl h).mono fun ys S' q => ⟨by rw [q.1, ← List.filterMap_eq_map]; rfl, q.2⟩
theorem c_les {a b : List Nat} : cmpV .LtE (.str a) (.str b) S = .ok (.bl (!decide (b < a))) S := (rfl)
theorem t_str {a : List Nat} (h : a.length ≤ lim) : tru (.str a) S = .ok ((a.length : Int) != 0) S := by
  unfold tru truB
  dsimp only
  rw [if_pos h]
theorem is_text_eq (hf : fs[i]? = some ⟨2, 2, bIsText⟩) {w : List Nat} {m : Int} (hl : w.length ≤ lim) : callN fs fu (k + 1) i [.str w, .int m] S = .ok (.bl (decide ((w.length : Int) ≤ m))) S := by
  refine eq_of_W ?_
  refine W_fn2 hf rfl rfl ?_; simp only [List.map_cons, List.map_nil, List.length_cons, List.length_nil, List.cons_append, List.nil_append, List.append_nil, List.replicate_succ, List.replicate_zero, Nat.reduceAdd, Nat.reduceSub, Nat.zero_add]
  unfold bIsText
  simp only [ev_var, ev_cst, ev_bin, ev_neg, ev_cmp, ev_chain', ev_and, ev_or, ev_not, ev_ite, ev_tup, ev_lst, ev_ix, ev_sl, ev_call, ev_bt, ev_mt, ev_isi, ev_lc, ev_nil, ev_cons, ev_onone, ev_osome, ev_cnone, ev_csome, ev_ie, ev_rng, ev_enu, asT, ex_asg, ex_asgS, ex_par, ex_aug, ex_ite, ex_whl, ex_for, ex_expr, ex_ret, ex_retN, ex_pass, ex_brk, ex_cont, ex_never, ex_nil, ex_cons', W_ok, W_bind, fin_ret, fin_next, chK_bl, sq_next, sq_ret, sq_brk, sq_cont, bnd_ok, b_add, b_sub, i_add, i_sub, c_lt, c_le, c_gt, c_ge, c_eq, c_ne, c_eqs, c_nes, c_eqb, t_bl, t_int, t_non, p_int, f_int, as_n, as_t2, as_t3, setMany, getL, List.getElem?_cons_zero, List.getElem?_cons_succ, List.set_cons_zero, List.set_cons_succ, wipeL, tl0, tl1, tl2, tl3, tl4, tl5, tl6, Bool.not_true, Bool.not_false, decide_eq_true_eq, if_true, if_false, ite_true, ite_false, eq_self, Bool.false_eq_true, isiF, tyOf, List.any_cons, List.any_nil, isaT, decide_true, Bool.or_false, f_lens hl, and_self]
/-- signs a to z -/
def Low (w : List Nat) : Prop := ∀ c, c ∈ w → 97 ≤ c ∧ c ≤ 122
theorem sign_le {a b : Nat} : (!decide (([b] : List Nat) < [a])) = decide (a ≤ b) := by
  by_cases h : a ≤ b
  · rw [decide_eq_true h]
    have : ¬([b] : List Nat) < [a] := by
      intro h1
      rw [List.cons_lt_cons_iff] at h1
      rcases h1 with h1 | ⟨_, h1⟩
      · omega
      · exact absurd h1 (by simp)
    simp [this]
  · rw [decide_eq_false h]
    have : ([b] : List Nat) < [a] := by
      rw [List.cons_lt_cons_iff]
      exact .inl (by omega)
    simp [this]
theorem strIt_len (w : List Nat) : (strIt w).length = w.length := by unfold strIt; rw [List.length_map]
theorem strIt_mem {w : List Nat} {x : PV} (h : x ∈ strIt w) : ∃ c, c ∈ w ∧ x = .str [c] := by
  obtain ⟨c, hc, rfl⟩ := List.mem_map.mp h
  exact ⟨c, hc, rfl⟩
theorem is_letters_ok (hf : fs[i]? = some ⟨3, 2, bIsLetters j⟩) (hj : fs[j]? = some ⟨2, 2, bIsText⟩) {w : List Nat} {m : Int} (hw : Low w) (h0 : 0 < w.length) (h1 : (w.length : Int) ≤ m) (hl : w.length ≤ lim) :
    W (callN fs fu (k + 2) i [.str w, .int m] S) (fun v S' => v = .bl true ∧ Sub S S') := by
  refine W_fn2 hf rfl rfl ?_; simp only [List.map_cons, List.map_nil, List.length_cons, List.length_nil, List.cons_append, List.nil_append, List.append_nil, List.replicate_succ, List.replicate_zero, Nat.reduceAdd, Nat.reduceSub, Nat.zero_add]
  unfold bIsLetters
  have hne : decide (w = []) = false := by rw [decide_eq_false_iff_not]; intro e; rw [e] at h0; cases h0
  simp only [ev_var, ev_cst, ev_bin, ev_neg, ev_cmp, ev_chain', ev_and, ev_or, ev_not, ev_ite, ev_tup, ev_lst, ev_ix, ev_sl, ev_call, ev_bt, ev_mt, ev_isi, ev_lc, ev_nil, ev_cons, ev_onone, ev_osome, ev_cnone, ev_csome, ev_ie, ev_rng, ev_enu, asT, ex_asg, ex_asgS, ex_par, ex_aug, ex_ite, ex_whl, ex_for, ex_expr, ex_ret, ex_retN, ex_pass, ex_brk, ex_cont, ex_never, ex_nil, ex_cons', W_ok, W_bind, fin_ret, fin_next, chK_bl, sq_next, sq_ret, sq_brk, sq_cont, bnd_ok, b_add, b_sub, i_add, i_sub, c_lt, c_le, c_gt, c_ge, c_eq, c_ne, c_eqs, c_nes, c_eqb, t_bl, t_int, t_non, p_int, f_int, as_n, as_t2, as_t3, setMany, getL, List.getElem?_cons_zero, List.getElem?_cons_succ, List.set_cons_zero, List.set_cons_succ, wipeL, tl0, tl1, tl2, tl3, tl4, tl5, tl6, Bool.not_true, Bool.not_false, decide_eq_true_eq, if_true, if_false, ite_true, ite_false, eq_self, Bool.false_eq_true, is_text_eq hj hl, h1, decide_true, hne, iterV]
  refine (W_lcB (p := fun _ => True) (it := .vals (strIt w)) (xs := strIt w) (fun _ => true) rfl trivial (by rw [strIt_len]; exact hl) fun x hx S1 k1 => ?_).mono fun ys S' q => ?_
  · obtain ⟨c, hc, rfl⟩ := strIt_mem hx
    simp only [ev_var, ev_cst, ev_bin, ev_neg, ev_cmp, ev_chain', ev_and, ev_or, ev_not, ev_ite, ev_tup, ev_lst, ev_ix, ev_sl, ev_call, ev_bt, ev_mt, ev_isi, ev_lc, ev_nil, ev_cons, ev_onone, ev_osome, ev_cnone, ev_csome, ev_ie, ev_rng, ev_enu, asT, ex_asg, ex_asgS, ex_par, ex_aug, ex_ite, ex_whl, ex_for, ex_expr, ex_ret, ex_retN, ex_pass, ex_brk, ex_cont, ex_never, ex_nil, ex_cons', W_ok, W_bind, fin_ret, fin_next, chK_bl, sq_next, sq_ret, sq_brk, sq_cont, bnd_ok, b_add, b_sub, i_add, i_sub, c_lt, c_le, c_gt, c_ge, c_eq, c_ne, c_eqs, c_nes, c_eqb, t_bl, t_int, t_non, p_int, f_int, as_n, as_t2, as_t3, setMany, getL, List.getElem?_cons_zero, List.getElem?_cons_succ, List.set_cons_zero, List.set_cons_succ, wipeL, tl0, tl1, tl2, tl3, tl4, tl5, tl6, Bool.not_true, Bool.not_false, decide_eq_true_eq, if_true, if_false, ite_true, ite_false, eq_self, Bool.false_eq_true, c_les, sign_le, (hw c hc).1, (hw c hc).2, decide_true]
    exact ⟨by trivial, .refl⟩
  · obtain ⟨rfl, k1⟩ := q
    simp only [ev_var, ev_cst, ev_bin, ev_neg, ev_cmp, ev_chain', ev_and, ev_or, ev_not, ev_ite, ev_tup, ev_lst, ev_ix, ev_sl, ev_call, ev_bt, ev_mt, ev_isi, ev_lc, ev_nil, ev_cons, ev_onone, ev_osome, ev_cnone, ev_csome, ev_ie, ev_rng, ev_enu, asT, ex_asg, ex_asgS, ex_par, ex_aug, ex_ite, ex_whl, ex_for, ex_expr, ex_ret, ex_retN, ex_pass, ex_brk, ex_cont, ex_never, ex_nil, ex_cons', W_ok, W_bind, fin_ret, fin_next, chK_bl, sq_next, sq_ret, sq_brk, sq_cont, bnd_ok, b_add, b_sub, i_add, i_sub, c_lt, c_le, c_gt, c_ge, c_eq, c_ne, c_eqs, c_nes, c_eqb, t_bl, t_int, t_non, p_int, f_int, as_n, as_t2, as_t3, setMany, getL, List.getElem?_cons_zero, List.getElem?_cons_succ, List.set_cons_zero, List.set_cons_succ, wipeL, tl0, tl1, tl2, tl3, tl4, tl5, tl6, Bool.not_true, Bool.not_false, decide_eq_true_eq, if_true, if_false, ite_true, ite_false, eq_self, Bool.false_eq_true, f_all at_push, all_id]
    exact ⟨by trivial, k1.trans .push⟩
theorem is_word_ok {t : Nat} (hf : fs[i]? = some ⟨1, 1, bIsWord j⟩) (hj : fs[j]? = some ⟨3, 2, bIsLetters t⟩) (ht : fs[t]? = some ⟨2, 2, bIsText⟩) {w : List Nat} (hw : Low w) (h0 : 0 < w.length) (h1 : w.length ≤ 20) :
    W (callN fs fu (k + 3) i [.str w] S) (fun v S' => v = .bl true ∧ Sub S S') := by
  refine W_fn2 hf rfl rfl ?_; simp only [List.map_cons, List.map_nil, List.length_cons, List.length_nil, List.cons_append, List.nil_append, List.append_nil, List.replicate_succ, List.replicate_zero, Nat.reduceAdd, Nat.reduceSub, Nat.zero_add]
  unfold bIsWord
  try simp only [ev_var, ev_cst, ev_bin, ev_neg, ev_cmp, ev_chain', ev_and, ev_or, ev_not, ev_ite, ev_tup, ev_lst, ev_ix, ev_sl, ev_call, ev_bt, ev_mt, ev_isi, ev_lc, ev_nil, ev_cons, ev_onone, ev_osome, ev_cnone, ev_csome, ev_ie, ev_rng, ev_enu, asT, ex_asg, ex_asgS, ex_par, ex_aug, ex_ite, ex_whl, ex_for, ex_expr, ex_ret, ex_retN, ex_pass, ex_brk, ex_cont, ex_never, ex_nil, ex_cons', W_ok, W_bind, fin_ret, fin_next, chK_bl, sq_next, sq_ret, sq_brk, sq_cont, bnd_ok, b_add, b_sub, i_add, i_sub, c_lt, c_le, c_gt, c_ge, c_eq, c_ne, c_eqs, c_nes, c_eqb, t_bl, t_int, t_non, p_int, f_int, as_n, as_t2, as_t3, setMany, getL, List.getElem?_cons_zero, List.getElem?_cons_succ, List.set_cons_zero, List.set_cons_succ, wipeL, tl0, tl1, tl2, tl3, tl4, tl5, tl6, Bool.not_true, Bool.not_false, decide_eq_true_eq, if_true, if_false, ite_true, ite_false, eq_self, Bool.false_eq_true]
  refine (is_letters_ok hj ht hw h0 (by omega) (by unfold lim; omega)).mono fun v S1 q => ?_
  try simp only [ev_var, ev_cst, ev_bin, ev_neg, ev_cmp, ev_chain', ev_and, ev_or, ev_not, ev_ite, ev_tup, ev_lst, ev_ix, ev_sl, ev_call, ev_bt, ev_mt, ev_isi, ev_lc, ev_nil, ev_cons, ev_onone, ev_osome, ev_cnone, ev_csome, ev_ie, ev_rng, ev_enu, asT, ex_asg, ex_asgS, ex_par, ex_aug, ex_ite, ex_whl, ex_for, ex_expr, ex_ret, ex_retN, ex_pass, ex_brk, ex_cont, ex_never, ex_nil, ex_cons', W_ok, W_bind, fin_ret, fin_next, chK_bl, sq_next, sq_ret, sq_brk, sq_cont, bnd_ok, b_add, b_sub, i_add, i_sub, c_lt, c_le, c_gt, c_ge, c_eq, c_ne, c_eqs, c_nes, c_eqb, t_bl, t_int, t_non, p_int, f_int, as_n, as_t2, as_t3, setMany, getL, List.getElem?_cons_zero, List.getElem?_cons_succ, List.set_cons_zero, List.set_cons_succ, wipeL, tl0, tl1, tl2, tl3, tl4, tl5, tl6, Bool.not_true, Bool.not_false, decide_eq_true_eq, if_true, if_false, ite_true, ite_false, eq_self, Bool.false_eq_true]
  exact q
/-- one of the things -/
theorem pick_ok {dr : Nat} (hf : fs[i]? = some ⟨3, 3, bPick j⟩) (hj : fs[j]? = some ⟨3, 3, bTake dr⟩) (hd : fs[dr]? = some ⟨4, 3, bDraw⟩) {rw_ sp : Nat} {R : List Int} (D : Dr R rw_ sp S) {x : PV} {xs : List PV} (h : itemsOf S x = some xs) (hn : NotR (fun n => n ≠ sp) x) (h0 : 0 < xs.length) :
    W (callN fs fu (k + 3) i [.ref rw_, .ref sp, x] S) (fun v S' => v ∈ xs ∧ Dr R rw_ sp S' ∧ Ks sp S S') := by
  refine W_fn2 hf rfl rfl ?_; simp only [List.map_cons, List.map_nil, List.length_cons, List.length_nil, List.cons_append, List.nil_append, List.append_nil, List.replicate_succ, List.replicate_zero, Nat.reduceAdd, Nat.reduceSub, Nat.zero_add]
  unfold bPick
  simp only [ev_var, ev_cst, ev_bin, ev_neg, ev_cmp, ev_chain', ev_and, ev_or, ev_not, ev_ite, ev_tup, ev_lst, ev_ix, ev_sl, ev_call, ev_bt, ev_mt, ev_isi, ev_lc, ev_nil, ev_cons, ev_onone, ev_osome, ev_cnone, ev_csome, ev_ie, ev_rng, ev_enu, asT, ex_asg, ex_asgS, ex_par, ex_aug, ex_ite, ex_whl, ex_for, ex_expr, ex_ret, ex_retN, ex_pass, ex_brk, ex_cont, ex_never, ex_nil, ex_cons', W_ok, W_bind, fin_ret, fin_next, chK_bl, sq_next, sq_ret, sq_brk, sq_cont, bnd_ok, b_add, b_sub, i_add, i_sub, c_lt, c_le, c_gt, c_ge, c_eq, c_ne, c_eqs, c_nes, c_eqb, t_bl, t_int, t_non, p_int, f_int, as_n, as_t2, as_t3, setMany, getL, List.getElem?_cons_zero, List.getElem?_cons_succ, List.set_cons_zero, List.set_cons_succ, wipeL, tl0, tl1, tl2, tl3, tl4, tl5, tl6, Bool.not_true, Bool.not_false, decide_eq_true_eq, if_true, if_false, ite_true, ite_false, eq_self, Bool.false_eq_true, f_len h]
  refine (take_ok hj hd D (show (0 : Int) < xs.length by omega)).mono fun v S1 q => ?_
  obtain ⟨d, rfl, hd0, hd1, D1, k1⟩ := q
  have hlt : d.toNat < xs.length := by omega
  simp only [ev_var, ev_cst, ev_bin, ev_neg, ev_cmp, ev_chain', ev_and, ev_or, ev_not, ev_ite, ev_tup, ev_lst, ev_ix, ev_sl, ev_call, ev_bt, ev_mt, ev_isi, ev_lc, ev_nil, ev_cons, ev_onone, ev_osome, ev_cnone, ev_csome, ev_ie, ev_rng, ev_enu, asT, ex_asg, ex_asgS, ex_par, ex_aug, ex_ite, ex_whl, ex_for, ex_expr, ex_ret, ex_retN, ex_pass, ex_brk, ex_cont, ex_never, ex_nil, ex_cons', W_ok, W_bind, fin_ret, fin_next, chK_bl, sq_next, sq_ret, sq_brk, sq_cont, bnd_ok, b_add, b_sub, i_add, i_sub, c_lt, c_le, c_gt, c_ge, c_eq, c_ne, c_eqs, c_nes, c_eqb, t_bl, t_int, t_non, p_int, f_int, as_n, as_t2, as_t3, setMany, getL, List.getElem?_cons_zero, List.getElem?_cons_succ, List.set_cons_zero, List.set_cons_succ, wipeL, tl0, tl1, tl2, tl3, tl4, tl5, tl6, Bool.not_true, Bool.not_false, decide_eq_true_eq, if_true, if_false, ite_true, ite_false, eq_self, Bool.false_eq_true, ix_at (items_kp k1 hn h) hd0 (List.getElem?_eq_getElem hlt)]
  exact ⟨List.getElem_mem _, D1, k1⟩
theorem wide_ok {dr : Nat} (hf : fs[i]? = some ⟨6, 3, bWide j⟩) (hj : fs[j]? = some ⟨3, 3, bTake dr⟩) (hd : fs[dr]? = some ⟨4, 3, bDraw⟩) {rw_ sp : Nat} {R : List Int} (D : Dr R rw_ sp S) {lim_ : Int} (hl : 0 < lim_) :
    W (callN fs fu (k + 3) i [.ref rw_, .ref sp, .int lim_] S) (fun v S' => ∃ d : Int, v = .int d ∧ 0 ≤ d ∧ d < lim_ ∧ Dr R rw_ sp S' ∧ Ks sp S S') := by
  refine W_fn2 hf rfl rfl ?_; simp only [List.map_cons, List.map_nil, List.length_cons, List.length_nil, List.cons_append, List.nil_append, List.append_nil, List.replicate_succ, List.replicate_zero, Nat.reduceAdd, Nat.reduceSub, Nat.zero_add]
  unfold bWide
  try simp only [ev_var, ev_cst, ev_bin, ev_neg, ev_cmp, ev_chain', ev_and, ev_or, ev_not, ev_ite, ev_tup, ev_lst, ev_ix, ev_sl, ev_call, ev_bt, ev_mt, ev_isi, ev_lc, ev_nil, ev_cons, ev_onone, ev_osome, ev_cnone, ev_csome, ev_ie, ev_rng, ev_enu, asT, ex_asg, ex_asgS, ex_par, ex_aug, ex_ite, ex_whl, ex_for, ex_expr, ex_ret, ex_retN, ex_pass, ex_brk, ex_cont, ex_never, ex_nil, ex_cons', W_ok, W_bind, fin_ret, fin_next, chK_bl, sq_next, sq_ret, sq_brk, sq_cont, bnd_ok, b_add, b_sub, i_add, i_sub, c_lt, c_le, c_gt, c_ge, c_eq, c_ne, c_eqs, c_nes, c_eqb, t_bl, t_int, t_non, p_int, f_int, as_n, as_t2, as_t3, setMany, getL, List.getElem?_cons_zero, List.getElem?_cons_succ, List.set_cons_zero, List.set_cons_succ, wipeL, tl0, tl1, tl2, tl3, tl4, tl5, tl6, Bool.not_true, Bool.not_false, decide_eq_true_eq, if_true, if_false, ite_true, ite_false, eq_self, Bool.false_eq_true]
  refine (take_ok hj hd D (show (0 : Int) < 997 by decide)).mono fun v S1 q => ?_
  obtain ⟨d1, rfl, _, _, D1, k1⟩ := q
  try simp only [ev_var, ev_cst, ev_bin, ev_neg, ev_cmp, ev_chain', ev_and, ev_or, ev_not, ev_ite, ev_tup, ev_lst, ev_ix, ev_sl, ev_call, ev_bt, ev_mt, ev_isi, ev_lc, ev_nil, ev_cons, ev_onone, ev_osome, ev_cnone, ev_csome, ev_ie, ev_rng, ev_enu, asT, ex_asg, ex_asgS, ex_par, ex_aug, ex_ite, ex_whl, ex_for, ex_expr, ex_ret, ex_retN, ex_pass, ex_brk, ex_cont, ex_never, ex_nil, ex_cons', W_ok, W_bind, fin_ret, fin_next, chK_bl, sq_next, sq_ret, sq_brk, sq_cont, bnd_ok, b_add, b_sub, i_add, i_sub, c_lt, c_le, c_gt, c_ge, c_eq, c_ne, c_eqs, c_nes, c_eqb, t_bl, t_int, t_non, p_int, f_int, as_n, as_t2, as_t3, setMany, getL, List.getElem?_cons_zero, List.getElem?_cons_succ, List.set_cons_zero, List.set_cons_succ, wipeL, tl0, tl1, tl2, tl3, tl4, tl5, tl6, Bool.not_true, Bool.not_false, decide_eq_true_eq, if_true, if_false, ite_true, ite_false, eq_self, Bool.false_eq_true]
  refine (take_ok hj hd D1 (show (0 : Int) < 997 by decide)).mono fun v S2 q => ?_
  obtain ⟨d2, rfl, _, _, D2, k2⟩ := q
  try simp only [ev_var, ev_cst, ev_bin, ev_neg, ev_cmp, ev_chain', ev_and, ev_or, ev_not, ev_ite, ev_tup, ev_lst, ev_ix, ev_sl, ev_call, ev_bt, ev_mt, ev_isi, ev_lc, ev_nil, ev_cons, ev_onone, ev_osome, ev_cnone, ev_csome, ev_ie, ev_rng, ev_enu, asT, ex_asg, ex_asgS, ex_par, ex_aug, ex_ite, ex_whl, ex_for, ex_expr, ex_ret, ex_retN, ex_pass, ex_brk, ex_cont, ex_never, ex_nil, ex_cons', W_ok, W_bind, fin_ret, fin_next, chK_bl, sq_next, sq_ret, sq_brk, sq_cont, bnd_ok, b_add, b_sub, i_add, i_sub, c_lt, c_le, c_gt, c_ge, c_eq, c_ne, c_eqs, c_nes, c_eqb, t_bl, t_int, t_non, p_int, f_int, as_n, as_t2, as_t3, setMany, getL, List.getElem?_cons_zero, List.getElem?_cons_succ, List.set_cons_zero, List.set_cons_succ, wipeL, tl0, tl1, tl2, tl3, tl4, tl5, tl6, Bool.not_true, Bool.not_false, decide_eq_true_eq, if_true, if_false, ite_true, ite_false, eq_self, Bool.false_eq_true]
  refine (take_ok hj hd D2 (show (0 : Int) < 997 by decide)).mono fun v S3 q => ?_
  obtain ⟨d3, rfl, _, _, D3, k3⟩ := q
  simp only [ev_var, ev_cst, ev_bin, ev_neg, ev_cmp, ev_chain', ev_and, ev_or, ev_not, ev_ite, ev_tup, ev_lst, ev_ix, ev_sl, ev_call, ev_bt, ev_mt, ev_isi, ev_lc, ev_nil, ev_cons, ev_onone, ev_osome, ev_cnone, ev_csome, ev_ie, ev_rng, ev_enu, asT, ex_asg, ex_asgS, ex_par, ex_aug, ex_ite, ex_whl, ex_for, ex_expr, ex_ret, ex_retN, ex_pass, ex_brk, ex_cont, ex_never, ex_nil, ex_cons', W_ok, W_bind, fin_ret, fin_next, chK_bl, sq_next, sq_ret, sq_brk, sq_cont, bnd_ok, b_add, b_sub, i_add, i_sub, c_lt, c_le, c_gt, c_ge, c_eq, c_ne, c_eqs, c_nes, c_eqb, t_bl, t_int, t_non, p_int, f_int, as_n, as_t2, as_t3, setMany, getL, List.getElem?_cons_zero, List.getElem?_cons_succ, List.set_cons_zero, List.set_cons_succ, wipeL, tl0, tl1, tl2, tl3, tl4, tl5, tl6, Bool.not_true, Bool.not_false, decide_eq_true_eq, if_true, if_false, ite_true, ite_false, eq_self, Bool.false_eq_true, b_mul (sm 994009), b_mul (sm 997), b_mod hl]
  exact ⟨_, rfl, Int.emod_nonneg _ (by omega), Int.emod_lt_of_pos _ hl, D3, (k1.trans k2).trans k3⟩
theorem flats_ints (g : Nat → Option PV) : ∀ ns : List Int, flats g (ns.map .int) = some (ns.map .int)
  | [] => rfl
  | n :: ns => by
    show flats g (.int n :: ns.map .int) = _
    unfold flats
    rw [flats_ints g ns]; rfl
theorem dOfs_ints : ∀ ns : List Int, dOfs (ns.map .int) = ns.map PyData.int
  | [] => rfl
  | n :: ns => by
    show dOfs (.int n :: ns.map .int) = _
    unfold dOfs
    rw [dOfs_ints ns]; rfl
theorem eqv_ints : ∀ ns ms : List Int, PyData.eqvAll (ns.map .int) (ms.map .int) = decide (ns = ms)
  | [], [] => rfl
  | [], _ :: _ => rfl
  | _ :: _, [] => rfl
  | n :: ns, m :: ms => by
    show (PyData.eqv (.int n) (.int m) && PyData.eqvAll (ns.map .int) (ms.map .int)) = _
    rw [eqv_ints ns ms]
    show ((n == m) && _) = _
    by_cases h : n = m <;> by_cases h2 : ns = ms <;> simp [h, h2]
theorem lay_ints : ∀ ns : List Int, PyData.canLayAll0 (ns.map .int) = true
  | [] => rfl
  | n :: ns => by
    show (PyData.canLay0 (.int n) && PyData.canLayAll0 (ns.map .int)) = true
    rw [lay_ints ns]; rfl
theorem depth_ints : ∀ ns : List Int, PyData.depthAll (ns.map .int) = 0
  | [] => rfl
  | n :: ns => by
    show max (PyData.depth (.int n)) (PyData.depthAll (ns.map .int)) = 0
    rw [depth_ints ns]; rfl
theorem eqB_ints (ns ms : List Int) : eqB S (.tup (ns.map .int)) (.tup (ms.map .int)) = some (decide (ns = ms)) := by
  have sh : ∀ ls : List Int, SeqAt.shaped (dOf (.tup (ls.map .int))) = true := fun ls => by
    unfold dOf
    rw [dOfs_ints]
    show (PyData.canLayAll0 (ls.map .int) && decide (PyData.depthAll (ls.map .int) + 1 ≤ 64)) = true
    rw [lay_ints, depth_ints]; rfl
  have fl : ∀ ls : List Int, flatS S (.tup (ls.map .int)) = some (.tup (ls.map .int)) := fun ls => by
    unfold flatS flat
    rw [flats_ints]; rfl
  unfold eqB
  dsimp only
  rw [fl, fl]
  dsimp only
  rw [if_pos ⟨sh ns, sh ms⟩]
  unfold dOf
  rw [dOfs_ints, dOfs_ints]
  exact congrArg some (eqv_ints ns ms)
theorem c_neT {ns ms : List Int} : cmpV .NotEq (.tup (ns.map .int)) (.tup (ms.map .int)) S = .ok (.bl (!decide (ns = ms))) S := by
  show toB (eqB S _ _) _ S = _
  rw [eqB_ints]; rfl
/-- a text in a list of texts -/
theorem scal_strs (ws : List (List Nat)) : (ws.map PV.str).all scalar = true := by
  rw [List.all_eq_true]
  intro x hx
  obtain ⟨n, _, rfl⟩ := List.mem_map.mp hx
  rfl
theorem any_str (w : List Nat) : ∀ ws : List (List Nat), ((ws.map PV.str).any fun y => seqv y (.str w)) = decide (w ∈ ws)
  | [] => by simp
  | x :: ws => by
    rw [List.map_cons, List.any_cons, any_str w ws]
    show ((x == w) || _) = _
    by_cases h : x = w
    · simp [h]
    · have : ¬w = x := fun e => h e.symm
      simp [h, this]
theorem any_int (w : Int) : ∀ ws : List Int, ((ws.map PV.int).any fun y => seqv y (.int w)) = decide (w ∈ ws)
  | [] => by simp
  | x :: ws => by
    rw [List.map_cons, List.any_cons, any_int w ws]
    show ((x == w) || _) = _
    by_cases h : x = w
    · simp [h]
    · have : ¬w = x := fun e => h e.symm
      simp [h, this]
theorem in_items {neg : Bool} {x y : PV} {xs : List PV} (h : itemsOf S y = some xs) (hx : scalar x = true) (ha : xs.all scalar = true) : inV neg x y S = .ok (.bl (if neg = true then !(xs.any fun y => seqv y x) else xs.any fun y => seqv y x)) S := by
  unfold inV
  split
  · cases h
  · rw [h]; exact if_pos ⟨hx, ha⟩
theorem c_inS {w : List Nat} {y : PV} {ws : List (List Nat)} (h : itemsOf S y = some (ws.map .str)) : cmpV .In (.str w) y S = .ok (.bl (decide (w ∈ ws))) S := by
  show inV false _ _ S = _
  rw [in_items h rfl (scal_strs ws), any_str]; rfl
theorem c_ninS {w : List Nat} {y : PV} {ws : List (List Nat)} (h : itemsOf S y = some (ws.map .str)) : cmpV .NotIn (.str w) y S = .ok (.bl (!decide (w ∈ ws))) S := by
  show inV true _ _ S = _
  rw [in_items h rfl (scal_strs ws), any_str]; rfl
theorem c_inI {w : Int} {y : PV} {ws : List Int} (h : itemsOf S y = some (ws.map .int)) : cmpV .In (.int w) y S = .ok (.bl (decide (w ∈ ws))) S := by
  rw [show cmpV .In (.int w) y S = inV false (.int w) y S from rfl, in_items h rfl (scal_ints ws), any_int]; rfl
theorem c_ninI {w : Int} {y : PV} {ws : List Int} (h : itemsOf S y = some (ws.map .int)) : cmpV .NotIn (.int w) y S = .ok (.bl (!decide (w ∈ ws))) S := by
  rw [show cmpV .NotIn (.int w) y S = inV true (.int w) y S from rfl, in_items h rfl (scal_ints ws), any_int]; rfl
theorem b_rep {a : Nat} {xs : List PV} {n : Int} (h : S[a]? = some (.lst xs)) (hc : 0 ≤ n ∧ n ≤ 1000000 ∧ xs.length * n.toNat ≤ lim) : binV .Mult (.ref a) (.int n) S = .ok (.ref S.length) (S ++ [.lst (List.replicate n.toNat xs).flatten]) := by
  rw [show binV .Mult (.ref a) (.int n) S = mulV (.ref a) (.int n) S from rfl]
  unfold mulV
  dsimp only
  rw [h]
  exact if_pos hc
theorem b_cat {a b : Nat} {xs ys : List PV} (h : S[a]? = some (.lst xs)) (h' : S[b]? = some (.lst ys)) (hl : xs.length + ys.length ≤ lim) : binV .Add (.ref a) (.ref b) S = .ok (.ref S.length) (S ++ [.lst (xs ++ ys)]) := by
  rw [show binV .Add (.ref a) (.ref b) S = addV (.ref a) (.ref b) S from rfl]
  unfold addV
  dsimp only
  rw [h, h']
  exact if_pos hl
theorem b_catT {xs ys : List PV} (hl : xs.length + ys.length ≤ lim) : binV .Add (.tup xs) (.tup ys) S = .ok (.tup (xs ++ ys)) S := by
  rw [show binV .Add (.tup xs) (.tup ys) S = addV (.tup xs) (.tup ys) S from rfl]
  unfold addV
  exact if_pos hl
theorem f_max2 {i j : Int} : btF .max [.int i, .int j] S = .ok (.int (if j > i then j else i)) S := (rfl)
theorem f_min2 {i j : Int} : btF .min [.int i, .int j] S = .ok (.int (if j < i then j else i)) S := (rfl)
theorem filt_map {α : Type} (g : α → PV) (p : α → Bool) (f : PV → Option PV) (h : ∀ x, f (g x) = if p x = true then some (g x) else none) : ∀ xs : List α, (xs.map g).filterMap f = (xs.filter p).map g
  | [] => rfl
  | x :: xs => by
    rw [List.map_cons, List.filterMap_cons, h, List.filter_cons, filt_map g p f h xs]
    by_cases q : p x = true
    · rw [if_pos q, if_pos q]; rfl
    · rw [if_neg q, if_neg q]
theorem b_pow {i j : Int} (h : cPow i j = true) : binV .Pow (.int i) (.int j) S = .ok (.int (i ^ j.toNat)) S := by
  show (if cPow i j = true then Res.ok (PV.int (i ^ j.toNat)) S else .bad) = _
  exact if_pos h
theorem if_len {α : Type} {xs : List PV} {x y : α} (h : xs.length ≤ lim) : (if xs.length ≤ lim then x else y) = x := if_pos h
/-- where a sign stands in a to z -/
abbrev abc : List Nat := [97, 98, 99, 100, 101, 102, 103, 104, 105, 106, 107, 108, 109, 110, 111, 112, 113, 114, 115, 116, 117, 118, 119, 120, 121, 122]
theorem abc_ix : ∀ n : Fin 26, Builtin.Str.occurrences ⟨abc.toArray⟩ ⟨#[97 + n.val]⟩ 0 (⟨abc.toArray⟩ : Str).length 1 = [n.val] := by decide +kernel
theorem m_abc {c : Nat} (h : 97 ≤ c ∧ c ≤ 122) : mtF .sindex (.str abc) [.str [c]] S = .ok (.int ((c : Int) - 97)) S := by
  show sindexM (.str abc) [.str [c]] S = _
  unfold sindexM
  dsimp only
  have := abc_ix ⟨c - 97, by omega⟩
  dsimp only at this
  rw [show 97 + (c - 97) = c by omega] at this
  rw [show ([c] : List Nat).toArray = #[c] from rfl, this]
  dsimp only
  rw [show ((c - 97 : Nat) : Int) = (c : Int) - 97 by omega]
end
end Mp

namespace Kk73
open PySem PySem.Spec PyProof.Rows L2 Mp
def top (i : Nat) : Stmt := PySem.Challenge.pw_tidings_k73_spelling_sounds.main.body.getD i (.Pass ⟨0, 0, 0, 0⟩)
def G : Tab where
  fns := [("demand", (0, ["good", "at"])), ("is_text", (1, ["value", "most"])), ("is_letters", (2, ["value", "most"])), ("is_word", (3, ["value"])), ("class_of", (4, ["letter"])), ("unchecked_code", (5, ["word"])), ("alike_sound", (6, ["one", "other"])), ("code_of", (7, ["word"])), ("_law_so", (8, ["found", "meant"])), ("_law_numbers", (9, ["script"])), ("_law_draw", (10, ["row", "at", "limit"])), ("_law_take", (11, ["row", "spot", "limit"])), ("_law_pick", (12, ["row", "spot", "things"])), ("_law_sound", (13, ["word"])), ("law", (14, ["script"]))]
  cts := [("CODE_SIGNS", (.int (4))), ("VOWELS", (.str [97, 101, 105, 111, 117, 121])), ("CLASSES", (.tup [(.str [98, 102, 112, 118]), (.str [99, 103, 106, 107, 113, 115, 120, 122]), (.str [100, 116]), (.str [108]), (.str [109, 110]), (.str [114])]))]
  bts := ["all", "bool", "enumerate", "int", "isinstance", "len", "range", "str", "tuple"]
abbrev st_demand : Stmt := top 4
abbrev N_demand : List Str := ["good", "at"]
abbrev ps_demand : List Str := ["good", "at"]
abbrev st_is_text : Stmt := top 5
abbrev N_is_text : List Str := ["value", "most"]
abbrev ps_is_text : List Str := ["value", "most"]
abbrev st_is_letters : Stmt := top 6
abbrev N_is_letters : List Str := ["value", "most", "sign"]
abbrev ps_is_letters : List Str := ["value", "most"]
abbrev st_is_word : Stmt := top 7
abbrev N_is_word : List Str := ["value"]
abbrev ps_is_word : List Str := ["value"]
abbrev st_class_of : Stmt := top 12
abbrev N_class_of : List Str := ["letter", "at", "letters"]
abbrev ps_class_of : List Str := ["letter"]
abbrev st_unchecked_code : Stmt := top 13
abbrev N_unchecked_code : List Str := ["word", "code", "last", "letter", "found"]
abbrev ps_unchecked_code : List Str := ["word"]
abbrev st_alike_sound : Stmt := top 14
abbrev N_alike_sound : List Str := ["one", "other"]
abbrev ps_alike_sound : List Str := ["one", "other"]
abbrev st_code_of : Stmt := top 15
abbrev N_code_of : List Str := ["word"]
abbrev ps_code_of : List Str := ["word"]
abbrev st__law_so : Stmt := top 17
abbrev N__law_so : List Str := ["found", "meant", "k"]
abbrev ps__law_so : List Str := ["found", "meant"]
abbrev st__law_numbers : Stmt := top 18
abbrev N__law_numbers : List Str := ["script", "row", "cell", "rest", "k", "stirred"]
abbrev ps__law_numbers : List Str := ["script"]
abbrev st__law_draw : Stmt := top 19
abbrev N__law_draw : List Str := ["row", "at", "limit", "stirred"]
abbrev ps__law_draw : List Str := ["row", "at", "limit"]
abbrev st__law_take : Stmt := top 20
abbrev N__law_take : List Str := ["row", "spot", "limit"]
abbrev ps__law_take : List Str := ["row", "spot", "limit"]
abbrev st__law_pick : Stmt := top 21
abbrev N__law_pick : List Str := ["row", "spot", "things"]
abbrev ps__law_pick : List Str := ["row", "spot", "things"]
abbrev st__law_sound : Stmt := top 22
abbrev N__law_sound : List Str := ["word", "classes", "made", "last", "k", "c", "t"]
abbrev ps__law_sound : List Str := ["word"]
abbrev st_law : Stmt := top 23
abbrev N_law : List Str := ["script", "row", "spot", "words", "k", "t", "w", "a", "b"]
abbrev ps_law : List Str := ["script"]
def B_demand : Ts := Ts.cons (T.ite (E.not (E.var 0)) (Ts.cons (T.never) (Ts.nil)) (Ts.nil)) (Ts.nil)
def B_is_text : Ts := Ts.cons (T.ret (E.and (E.isi (E.var 0) [Ty.str]) (E.cmp (PySem.CmpOp.LtE) (E.bt (Bt.len) (Es.cons (E.var 0) (Es.nil))) (E.var 1)))) (Ts.nil)
def B_is_letters : Ts := Ts.cons (T.ret (E.and (E.call 1 (Es.cons (E.var 0) (Es.cons (E.var 1) (Es.nil)))) (E.and (E.cmp (PySem.CmpOp.NotEq) (E.var 0) (E.cst (PV.str []))) (E.bt (Bt.all) (Es.cons (E.lc [2] (It.e (E.var 0)) (Pt.name 2) (Oe.none) (E.chain (PySem.CmpOp.LtE) (PySem.CmpOp.LtE) (E.cst (PV.str [97])) (E.var 2) (E.cst (PV.str [122])))) (Es.nil)))))) (Ts.nil)
def B_is_word : Ts := Ts.cons (T.ret (E.call 2 (Es.cons (E.var 0) (Es.cons (E.cst (PV.int 20)) (Es.nil))))) (Ts.nil)
def B_class_of : Ts := Ts.cons (T.frr (It.enu (E.cst (PV.tup [PV.str [98, 102, 112, 118], PV.str [99, 103, 106, 107, 113, 115, 120, 122], PV.str [100, 116], PV.str [108], PV.str [109, 110], PV.str [114]]))) (Tg.pat (Pt.tup (Pt.cons (Pt.name 1) (Pt.cons (Pt.name 2) (Pt.nil))))) (Ts.cons (T.ite (E.cmp (PySem.CmpOp.In) (E.var 0) (E.var 2)) (Ts.cons (T.ret (E.bt (Bt.str) (Es.cons (E.bin (PySem.Operator.Add) (E.var 1) (E.cst (PV.int 1))) (Es.nil)))) (Ts.nil)) (Ts.nil)) (Ts.nil))) (Ts.cons (T.ret (E.cst (PV.str []))) (Ts.nil))
def B_unchecked_code : Ts := Ts.cons (T.asg (Tg.pat (Pt.name 1)) (E.ix (E.var 0) (E.cst (PV.int 0)))) (Ts.cons (T.asg (Tg.pat (Pt.name 2)) (E.call 4 (Es.cons (E.ix (E.var 0) (E.cst (PV.int 0))) (Es.nil)))) (Ts.cons (T.frr (It.e (E.sl (E.var 0) (Oe.some (E.cst (PV.int 1))) (Oe.none))) (Tg.pat (Pt.name 3)) (Ts.cons (T.asg (Tg.pat (Pt.name 4)) (E.call 4 (Es.cons (E.var 3) (Es.nil)))) (Ts.cons (T.ite (E.cmp (PySem.CmpOp.In) (E.var 3) (E.cst (PV.str [97, 101, 105, 111, 117, 121]))) (Ts.cons (T.asg (Tg.pat (Pt.name 2)) (E.cst (PV.str []))) (Ts.nil)) (Ts.cons (T.ite (E.cmp (PySem.CmpOp.NotEq) (E.var 4) (E.cst (PV.str []))) (Ts.cons (T.ite (E.cmp (PySem.CmpOp.NotEq) (E.var 4) (E.var 2)) (Ts.cons (T.asg (Tg.pat (Pt.name 1)) (E.bin (PySem.Operator.Add) (E.var 1) (E.var 4))) (Ts.nil)) (Ts.nil)) (Ts.cons (T.asg (Tg.pat (Pt.name 2)) (E.var 4)) (Ts.nil))) (Ts.nil)) (Ts.nil))) (Ts.nil)))) (Ts.cons (T.ret (E.mt (Mt.ljust) (E.sl (E.var 1) (Oe.none) (Oe.some (E.cst (PV.int 4)))) (Es.cons (E.cst (PV.int 4)) (Es.cons (E.cst (PV.str [48])) (Es.nil))))) (Ts.nil))))
def B_alike_sound : Ts := Ts.cons (T.expr (E.call 0 (Es.cons (E.call 3 (Es.cons (E.var 0) (Es.nil))) (Es.cons (E.cst (PV.int 0)) (Es.nil))))) (Ts.cons (T.expr (E.call 0 (Es.cons (E.call 3 (Es.cons (E.var 1) (Es.nil))) (Es.cons (E.cst (PV.int 1)) (Es.nil))))) (Ts.cons (T.ret (E.cmp (PySem.CmpOp.Eq) (E.call 5 (Es.cons (E.var 0) (Es.nil))) (E.call 5 (Es.cons (E.var 1) (Es.nil))))) (Ts.nil)))
def B_code_of : Ts := Ts.cons (T.expr (E.call 0 (Es.cons (E.call 3 (Es.cons (E.var 0) (Es.nil))) (Es.cons (E.cst (PV.int 0)) (Es.nil))))) (Ts.cons (T.ret (E.call 5 (Es.cons (E.var 0) (Es.nil)))) (Ts.nil))
def B__law_so : Ts := Ts.cons (T.ite (E.cmp (PySem.CmpOp.Is) (E.var 1) (E.cst (PV.non))) (Ts.cons (T.ret (E.cmp (PySem.CmpOp.Is) (E.var 0) (E.cst (PV.non)))) (Ts.nil)) (Ts.nil)) (Ts.cons (T.ite (E.isi (E.var 1) [Ty.tuple]) (Ts.cons (T.ite (E.or (E.not (E.isi (E.var 0) [Ty.tuple])) (E.cmp (PySem.CmpOp.NotEq) (E.bt (Bt.len) (Es.cons (E.var 0) (Es.nil))) (E.bt (Bt.len) (Es.cons (E.var 1) (Es.nil))))) (Ts.cons (T.ret (E.cst (PV.bl false))) (Ts.nil)) (Ts.nil)) (Ts.cons (T.frr (It.rng (Es.cons (E.bt (Bt.len) (Es.cons (E.var 1) (Es.nil))) (Es.nil))) (Tg.pat (Pt.name 2)) (Ts.cons (T.ite (E.not (E.call 8 (Es.cons (E.ix (E.var 0) (E.var 2)) (Es.cons (E.ix (E.var 1) (E.var 2)) (Es.nil))))) (Ts.cons (T.ret (E.cst (PV.bl false))) (Ts.nil)) (Ts.nil)) (Ts.nil))) (Ts.cons (T.ret (E.cst (PV.bl true))) (Ts.nil)))) (Ts.nil)) (Ts.cons (T.ite (E.or (E.isi (E.var 1) [Ty.bool]) (E.isi (E.var 0) [Ty.bool])) (Ts.cons (T.ret (E.and (E.isi (E.var 1) [Ty.bool]) (E.and (E.isi (E.var 0) [Ty.bool]) (E.cmp (PySem.CmpOp.Eq) (E.var 0) (E.var 1))))) (Ts.nil)) (Ts.nil)) (Ts.cons (T.ite (E.isi (E.var 1) [Ty.int]) (Ts.cons (T.ret (E.and (E.isi (E.var 0) [Ty.int]) (E.cmp (PySem.CmpOp.Eq) (E.var 0) (E.var 1)))) (Ts.nil)) (Ts.nil)) (Ts.cons (T.ret (E.and (E.isi (E.var 1) [Ty.str]) (E.and (E.isi (E.var 0) [Ty.str]) (E.cmp (PySem.CmpOp.Eq) (E.var 0) (E.var 1))))) (Ts.nil)))))
def B__law_numbers : Ts := Ts.cons (T.asg (Tg.pat (Pt.name 1)) (E.lst (Es.nil))) (Ts.cons (T.frr (It.e (E.sl (E.var 0) (Oe.none) (Oe.some (E.cst (PV.int 63))))) (Tg.pat (Pt.name 2)) (Ts.cons (T.ite (E.cmp (PySem.CmpOp.GtE) (E.var 2) (E.bin (PySem.Operator.Pow) (E.cst (PV.int 10)) (E.cst (PV.int 18)))) (Ts.cons (T.asg (Tg.pat (Pt.name 3)) (E.var 2)) (Ts.cons (T.frr (It.rng (Es.cons (E.cst (PV.int 60)) (Es.nil))) (Tg.pat (Pt.name 4)) (Ts.cons (T.ite (E.cmp (PySem.CmpOp.Eq) (E.var 3) (E.cst (PV.int 0))) (Ts.cons (T.brk) (Ts.nil)) (Ts.nil)) (Ts.cons (T.expr (E.mt (Mt.append) (E.var 1) (Es.cons (E.bin (PySem.Operator.Mod) (E.bt (Bt.int) (Es.cons (E.var 3) (Es.nil))) (E.cst (PV.int 997))) (Es.nil)))) (Ts.cons (T.asg (Tg.pat (Pt.name 3)) (E.bin (PySem.Operator.FloorDiv) (E.var 3) (E.cst (PV.int 997)))) (Ts.nil))))) (Ts.nil))) (Ts.cons (T.frr (It.rng (Es.cons (E.cst (PV.int 4)) (Es.nil))) (Tg.pat (Pt.name 4)) (Ts.cons (T.asg (Tg.pat (Pt.name 5)) (E.bin (PySem.Operator.Mod) (E.bt (Bt.int) (Es.cons (E.bin (PySem.Operator.Add) (E.bin (PySem.Operator.Add) (E.bin (PySem.Operator.Mult) (E.var 2) (E.cst (PV.int 48271))) (E.bin (PySem.Operator.Mult) (E.var 4) (E.cst (PV.int 69621)))) (E.cst (PV.int 11))) (Es.nil))) (E.cst (PV.int 2147483647)))) (Ts.cons (T.expr (E.mt (Mt.append) (E.var 1) (Es.cons (E.bin (PySem.Operator.Mod) (E.bt (Bt.int) (Es.cons (E.bin (PySem.Operator.Add) (E.bin (PySem.Operator.Mult) (E.var 5) (E.cst (PV.int 16807))) (E.var 4)) (Es.nil))) (E.cst (PV.int 2147483629))) (Es.nil)))) (Ts.nil)))) (Ts.nil))) (Ts.nil))) (Ts.cons (T.ite (E.cmp (PySem.CmpOp.Eq) (E.bt (Bt.len) (Es.cons (E.var 1) (Es.nil))) (E.cst (PV.int 0))) (Ts.cons (T.expr (E.mt (Mt.append) (E.var 1) (Es.cons (E.cst (PV.int 0)) (Es.nil)))) (Ts.nil)) (Ts.nil)) (Ts.cons (T.ret (E.var 1)) (Ts.nil))))
def B__law_draw : Ts := Ts.cons (T.ite (E.cmp (PySem.CmpOp.Lt) (E.var 1) (E.bt (Bt.len) (Es.cons (E.var 0) (Es.nil)))) (Ts.cons (T.ret (E.bin (PySem.Operator.Mod) (E.bt (Bt.int) (Es.cons (E.ix (E.var 0) (E.var 1)) (Es.nil))) (E.var 2))) (Ts.nil)) (Ts.nil)) (Ts.cons (T.asg (Tg.pat (Pt.name 3)) (E.bin (PySem.Operator.Mod) (E.bt (Bt.int) (Es.cons (E.bin (PySem.Operator.Add) (E.bin (PySem.Operator.Add) (E.bin (PySem.Operator.Mult) (E.ix (E.var 0) (E.bin (PySem.Operator.Mod) (E.bt (Bt.int) (Es.cons (E.var 1) (Es.nil))) (E.bt (Bt.len) (Es.cons (E.var 0) (Es.nil))))) (E.cst (PV.int 40692))) (E.bin (PySem.Operator.Mult) (E.var 1) (E.cst (PV.int 7919)))) (E.cst (PV.int 3))) (Es.nil))) (E.cst (PV.int 2147483399)))) (Ts.cons (T.ret (E.bin (PySem.Operator.Mod) (E.bt (Bt.int) (Es.cons (E.bin (PySem.Operator.Mod) (E.bt (Bt.int) (Es.cons (E.bin (PySem.Operator.Add) (E.bin (PySem.Operator.Mult) (E.var 3) (E.cst (PV.int 48271))) (E.var 1)) (Es.nil))) (E.cst (PV.int 2147483647))) (Es.nil))) (E.var 2))) (Ts.nil)))
def B__law_take : Ts := Ts.cons (T.asg (Tg.sub (E.var 1) (E.cst (PV.int 0))) (E.bin (PySem.Operator.Add) (E.ix (E.var 1) (E.cst (PV.int 0))) (E.cst (PV.int 1)))) (Ts.cons (T.ret (E.call 10 (Es.cons (E.var 0) (Es.cons (E.bin (PySem.Operator.Sub) (E.ix (E.var 1) (E.cst (PV.int 0))) (E.cst (PV.int 1))) (Es.cons (E.var 2) (Es.nil)))))) (Ts.nil))
def B__law_pick : Ts := Ts.cons (T.ret (E.ix (E.var 2) (E.call 11 (Es.cons (E.var 0) (Es.cons (E.var 1) (Es.cons (E.bt (Bt.len) (Es.cons (E.var 2) (Es.nil))) (Es.nil))))))) (Ts.nil)
def B__law_sound : Ts := Ts.cons (T.asg (Tg.pat (Pt.name 1)) (E.lst (Es.cons (E.cst (PV.str [98, 102, 112, 118])) (Es.cons (E.cst (PV.str [99, 103, 106, 107, 113, 115, 120, 122])) (Es.cons (E.cst (PV.str [100, 116])) (Es.cons (E.cst (PV.str [108])) (Es.cons (E.cst (PV.str [109, 110])) (Es.cons (E.cst (PV.str [114])) (Es.nil))))))))) (Ts.cons (T.par [2, 3] (Es.cons (E.ix (E.var 0) (E.cst (PV.int 0))) (Es.cons (E.cst (PV.int 0)) (Es.nil)))) (Ts.cons (T.frr (It.rng (Es.cons (E.bt (Bt.len) (Es.cons (E.var 0) (Es.nil))) (Es.nil))) (Tg.pat (Pt.name 4)) (Ts.cons (T.asg (Tg.pat (Pt.name 5)) (E.cst (PV.int 0))) (Ts.cons (T.frr (It.rng (Es.cons (E.cst (PV.int 6)) (Es.nil))) (Tg.pat (Pt.name 6)) (Ts.cons (T.ite (E.cmp (PySem.CmpOp.In) (E.ix (E.var 0) (E.var 4)) (E.ix (E.var 1) (E.var 6))) (Ts.cons (T.asg (Tg.pat (Pt.name 5)) (E.bin (PySem.Operator.Add) (E.var 6) (E.cst (PV.int 1)))) (Ts.nil)) (Ts.nil)) (Ts.nil))) (Ts.cons (T.ite (E.and (E.cmp (PySem.CmpOp.Gt) (E.var 5) (E.cst (PV.int 0))) (E.and (E.cmp (PySem.CmpOp.NotEq) (E.var 5) (E.var 3)) (E.cmp (PySem.CmpOp.Gt) (E.var 4) (E.cst (PV.int 0))))) (Ts.cons (T.asg (Tg.pat (Pt.name 2)) (E.bin (PySem.Operator.Add) (E.var 2) (E.bt (Bt.str) (Es.cons (E.var 5) (Es.nil))))) (Ts.nil)) (Ts.nil)) (Ts.cons (T.ite (E.cmp (PySem.CmpOp.Gt) (E.var 5) (E.cst (PV.int 0))) (Ts.cons (T.asg (Tg.pat (Pt.name 3)) (E.var 5)) (Ts.nil)) (Ts.cons (T.ite (E.cmp (PySem.CmpOp.In) (E.ix (E.var 0) (E.var 4)) (E.cst (PV.str [97, 101, 105, 111, 117, 121]))) (Ts.cons (T.asg (Tg.pat (Pt.name 3)) (E.cst (PV.int 0))) (Ts.nil)) (Ts.nil)) (Ts.nil))) (Ts.nil)))))) (Ts.cons (T.ret (E.sl (E.bin (PySem.Operator.Add) (E.var 2) (E.cst (PV.str [48, 48, 48]))) (Oe.none) (Oe.some (E.cst (PV.int 4))))) (Ts.nil))))
def B_law : Ts := Ts.cons (T.asg (Tg.pat (Pt.name 1)) (E.call 9 (Es.cons (E.var 0) (Es.nil)))) (Ts.cons (T.asg (Tg.pat (Pt.name 2)) (E.lst (Es.cons (E.cst (PV.int 0)) (Es.nil)))) (Ts.cons (T.asg (Tg.pat (Pt.name 3)) (E.lst (Es.nil))) (Ts.cons (T.frr (It.rng (Es.cons (E.cst (PV.int 3)) (Es.nil))) (Tg.pat (Pt.name 4)) (Ts.cons (T.expr (E.mt (Mt.append) (E.var 3) (Es.cons (E.mt (Mt.join) (E.cst (PV.str [])) (Es.cons (E.lc [5] (It.rng (Es.cons (E.bin (PySem.Operator.Add) (E.cst (PV.int 1)) (E.call 11 (Es.cons (E.var 1) (Es.cons (E.var 2) (Es.cons (E.cst (PV.int 8)) (Es.nil)))))) (Es.nil))) (Pt.name 5) (Oe.none) (E.call 12 (Es.cons (E.var 1) (Es.cons (E.var 2) (Es.cons (E.cst (PV.str [97, 98, 99, 100, 101, 102, 103, 104, 105, 106, 107, 108, 109, 110, 111, 112, 113, 114, 115, 116, 117, 118, 119, 120, 121, 122])) (Es.nil)))))) (Es.nil))) (Es.nil)))) (Ts.nil))) (Ts.cons (T.asg (Tg.pat (Pt.name 3)) (E.bin (PySem.Operator.Add) (E.var 3) (E.lst (Es.cons (E.call 12 (Es.cons (E.var 1) (Es.cons (E.var 2) (Es.cons (E.lst (Es.cons (E.cst (PV.str [112, 102, 105, 115, 116, 101, 114])) (Es.cons (E.cst (PV.str [97, 115, 104, 99, 114, 97, 102, 116])) (Es.cons (E.cst (PV.str [116, 121, 109, 99, 122, 97, 107])) (Es.cons (E.cst (PV.str [108, 108, 111, 121, 100])) (Es.cons (E.cst (PV.str [98, 98])) (Es.cons (E.cst (PV.str [97])) (Es.cons (E.cst (PV.str [104, 119, 98])) (Es.nil))))))))) (Es.nil))))) (Es.nil))))) (Ts.cons (T.frr (It.e (E.var 3)) (Tg.pat (Pt.name 6)) (Ts.cons (T.ite (E.not (E.call 8 (Es.cons (E.call 7 (Es.cons (E.var 6) (Es.nil))) (Es.cons (E.call 13 (Es.cons (E.var 6) (Es.nil))) (Es.nil))))) (Ts.cons (T.ret (E.cst (PV.bl false))) (Ts.nil)) (Ts.nil)) (Ts.nil))) (Ts.cons (T.par [7, 8] (Es.cons (E.call 12 (Es.cons (E.var 1) (Es.cons (E.var 2) (Es.cons (E.var 3) (Es.nil))))) (Es.cons (E.call 12 (Es.cons (E.var 1) (Es.cons (E.var 2) (Es.cons (E.var 3) (Es.nil))))) (Es.nil)))) (Ts.cons (T.ret (E.and (E.call 8 (Es.cons (E.call 6 (Es.cons (E.var 7) (Es.cons (E.var 8) (Es.nil)))) (Es.cons (E.cmp (PySem.CmpOp.Eq) (E.call 13 (Es.cons (E.var 7) (Es.nil))) (E.call 13 (Es.cons (E.var 8) (Es.nil)))) (Es.nil)))) (E.cmp (PySem.CmpOp.Is) (E.call 6 (Es.cons (E.var 7) (Es.cons (E.var 7) (Es.nil)))) (E.cst (PV.bl true))))) (Ts.nil))))))))
abbrev d_demand : PDef := ⟨"demand", "demand", st_demand, N_demand, ps_demand, B_demand⟩
abbrev d_is_text : PDef := ⟨"is_text", "is_text", st_is_text, N_is_text, ps_is_text, B_is_text⟩
abbrev d_is_letters : PDef := ⟨"is_letters", "is_letters", st_is_letters, N_is_letters, ps_is_letters, B_is_letters⟩
abbrev d_is_word : PDef := ⟨"is_word", "is_word", st_is_word, N_is_word, ps_is_word, B_is_word⟩
abbrev d_class_of : PDef := ⟨"class_of", "class_of", st_class_of, N_class_of, ps_class_of, B_class_of⟩
abbrev d_unchecked_code : PDef := ⟨"unchecked_code", "unchecked_code", st_unchecked_code, N_unchecked_code, ps_unchecked_code, B_unchecked_code⟩
abbrev d_alike_sound : PDef := ⟨"alike_sound", "alike_sound", st_alike_sound, N_alike_sound, ps_alike_sound, B_alike_sound⟩
abbrev d_code_of : PDef := ⟨"code_of", "code_of", st_code_of, N_code_of, ps_code_of, B_code_of⟩
abbrev d__law_so : PDef := ⟨"_law_so", "_law_so", st__law_so, N__law_so, ps__law_so, B__law_so⟩
abbrev d__law_numbers : PDef := ⟨"_law_numbers", "_law_numbers", st__law_numbers, N__law_numbers, ps__law_numbers, B__law_numbers⟩
abbrev d__law_draw : PDef := ⟨"_law_draw", "_law_draw", st__law_draw, N__law_draw, ps__law_draw, B__law_draw⟩
abbrev d__law_take : PDef := ⟨"_law_take", "_law_take", st__law_take, N__law_take, ps__law_take, B__law_take⟩
abbrev d__law_pick : PDef := ⟨"_law_pick", "_law_pick", st__law_pick, N__law_pick, ps__law_pick, B__law_pick⟩
abbrev d__law_sound : PDef := ⟨"_law_sound", "_law_sound", st__law_sound, N__law_sound, ps__law_sound, B__law_sound⟩
abbrev d_law : PDef := ⟨"law", "law", st_law, N_law, ps_law, B_law⟩
abbrev ds : List PDef := [d_demand, d_is_text, d_is_letters, d_is_word, d_class_of, d_unchecked_code, d_alike_sound, d_code_of, d__law_so, d__law_numbers, d__law_draw, d__law_take, d__law_pick, d__law_sound, d_law]
theorem c_demand : cTs G 60 ⟨N_demand, defScope st_demand, fun _ => true⟩ (defBody st_demand) = some B_demand := by kernel_rfl
theorem s_demand : scopeB N_demand ps_demand (defScope st_demand) = true := by decide +kernel
theorem b_demand (kV doc pm : Value) (an : Option Addr) (cdv ct : Value) (us : List Value) (hl : us.length = ps_demand.length) : bindArgs (PySem.W.fnOf "demand" "demand" (defArgs st_demand) (defBody st_demand) (defScope st_demand) .none kV doc pm an cdv ct) ⟨us, []⟩ = pure (List.zip ps_demand us) := match us, hl with | [_, _], _ => rfl
theorem k_demand (kV doc pm : Value) (an : Option Addr) (cdv ct : Value) (us : List Value) (hl : us.length = ps_demand.length) : bindArgs (PySem.W.fnOf "demand" "demand" (defArgs st_demand) (defBody st_demand) (defScope st_demand) .none kV doc pm an cdv ct) ⟨[], List.zip ps_demand us⟩ = pure (List.zip ps_demand us) := match us, hl with | [_, _], _ => rfl
theorem c_is_text : cTs G 60 ⟨N_is_text, defScope st_is_text, fun _ => true⟩ (defBody st_is_text) = some B_is_text := by kernel_rfl
theorem s_is_text : scopeB N_is_text ps_is_text (defScope st_is_text) = true := by decide +kernel
theorem b_is_text (kV doc pm : Value) (an : Option Addr) (cdv ct : Value) (us : List Value) (hl : us.length = ps_is_text.length) : bindArgs (PySem.W.fnOf "is_text" "is_text" (defArgs st_is_text) (defBody st_is_text) (defScope st_is_text) .none kV doc pm an cdv ct) ⟨us, []⟩ = pure (List.zip ps_is_text us) := match us, hl with | [_, _], _ => rfl
theorem k_is_text (kV doc pm : Value) (an : Option Addr) (cdv ct : Value) (us : List Value) (hl : us.length = ps_is_text.length) : bindArgs (PySem.W.fnOf "is_text" "is_text" (defArgs st_is_text) (defBody st_is_text) (defScope st_is_text) .none kV doc pm an cdv ct) ⟨[], List.zip ps_is_text us⟩ = pure (List.zip ps_is_text us) := match us, hl with | [_, _], _ => rfl
theorem c_is_letters : cTs G 60 ⟨N_is_letters, defScope st_is_letters, fun _ => true⟩ (defBody st_is_letters) = some B_is_letters := by kernel_rfl
theorem s_is_letters : scopeB N_is_letters ps_is_letters (defScope st_is_letters) = true := by decide +kernel
theorem b_is_letters (kV doc pm : Value) (an : Option Addr) (cdv ct : Value) (us : List Value) (hl : us.length = ps_is_letters.length) : bindArgs (PySem.W.fnOf "is_letters" "is_letters" (defArgs st_is_letters) (defBody st_is_letters) (defScope st_is_letters) .none kV doc pm an cdv ct) ⟨us, []⟩ = pure (List.zip ps_is_letters us) := match us, hl with | [_, _], _ => rfl
theorem k_is_letters (kV doc pm : Value) (an : Option Addr) (cdv ct : Value) (us : List Value) (hl : us.length = ps_is_letters.length) : bindArgs (PySem.W.fnOf "is_letters" "is_letters" (defArgs st_is_letters) (defBody st_is_letters) (defScope st_is_letters) .none kV doc pm an cdv ct) ⟨[], List.zip ps_is_letters us⟩ = pure (List.zip ps_is_letters us) := match us, hl with | [_, _], _ => rfl
theorem c_is_word : cTs G 60 ⟨N_is_word, defScope st_is_word, fun _ => true⟩ (defBody st_is_word) = some B_is_word := by kernel_rfl
theorem s_is_word : scopeB N_is_word ps_is_word (defScope st_is_word) = true := by decide +kernel
theorem b_is_word (kV doc pm : Value) (an : Option Addr) (cdv ct : Value) (us : List Value) (hl : us.length = ps_is_word.length) : bindArgs (PySem.W.fnOf "is_word" "is_word" (defArgs st_is_word) (defBody st_is_word) (defScope st_is_word) .none kV doc pm an cdv ct) ⟨us, []⟩ = pure (List.zip ps_is_word us) := match us, hl with | [_], _ => rfl
theorem k_is_word (kV doc pm : Value) (an : Option Addr) (cdv ct : Value) (us : List Value) (hl : us.length = ps_is_word.length) : bindArgs (PySem.W.fnOf "is_word" "is_word" (defArgs st_is_word) (defBody st_is_word) (defScope st_is_word) .none kV doc pm an cdv ct) ⟨[], List.zip ps_is_word us⟩ = pure (List.zip ps_is_word us) := match us, hl with | [_], _ => rfl
theorem c_class_of : cTs G 60 ⟨N_class_of, defScope st_class_of, fun _ => true⟩ (defBody st_class_of) = some B_class_of := by kernel_rfl
theorem s_class_of : scopeB N_class_of ps_class_of (defScope st_class_of) = true := by decide +kernel
theorem b_class_of (kV doc pm : Value) (an : Option Addr) (cdv ct : Value) (us : List Value) (hl : us.length = ps_class_of.length) : bindArgs (PySem.W.fnOf "class_of" "class_of" (defArgs st_class_of) (defBody st_class_of) (defScope st_class_of) .none kV doc pm an cdv ct) ⟨us, []⟩ = pure (List.zip ps_class_of us) := match us, hl with | [_], _ => rfl
theorem k_class_of (kV doc pm : Value) (an : Option Addr) (cdv ct : Value) (us : List Value) (hl : us.length = ps_class_of.length) : bindArgs (PySem.W.fnOf "class_of" "class_of" (defArgs st_class_of) (defBody st_class_of) (defScope st_class_of) .none kV doc pm an cdv ct) ⟨[], List.zip ps_class_of us⟩ = pure (List.zip ps_class_of us) := match us, hl with | [_], _ => rfl
theorem c_unchecked_code : cTs G 60 ⟨N_unchecked_code, defScope st_unchecked_code, fun _ => true⟩ (defBody st_unchecked_code) = some B_unchecked_code := by kernel_rfl
theorem s_unchecked_code : scopeB N_unchecked_code ps_unchecked_code (defScope st_unchecked_code) = true := by decide +kernel
theorem b_unchecked_code (kV doc pm : Value) (an : Option Addr) (cdv ct : Value) (us : List Value) (hl : us.length = ps_unchecked_code.length) : bindArgs (PySem.W.fnOf "unchecked_code" "unchecked_code" (defArgs st_unchecked_code) (defBody st_unchecked_code) (defScope st_unchecked_code) .none kV doc pm an cdv ct) ⟨us, []⟩ = pure (List.zip ps_unchecked_code us) := match us, hl with | [_], _ => rfl
theorem k_unchecked_code (kV doc pm : Value) (an : Option Addr) (cdv ct : Value) (us : List Value) (hl : us.length = ps_unchecked_code.length) : bindArgs (PySem.W.fnOf "unchecked_code" "unchecked_code" (defArgs st_unchecked_code) (defBody st_unchecked_code) (defScope st_unchecked_code) .none kV doc pm an cdv ct) ⟨[], List.zip ps_unchecked_code us⟩ = pure (List.zip ps_unchecked_code us) := match us, hl with | [_], _ => rfl
theorem c_alike_sound : cTs G 60 ⟨N_alike_sound, defScope st_alike_sound, fun _ => true⟩ (defBody st_alike_sound) = some B_alike_sound := by kernel_rfl
theorem s_alike_sound : scopeB N_alike_sound ps_alike_sound (defScope st_alike_sound) = true := by decide +kernel
theorem b_alike_sound (kV doc pm : Value) (an : Option Addr) (cdv ct : Value) (us : List Value) (hl : us.length = ps_alike_sound.length) : bindArgs (PySem.W.fnOf "alike_sound" "alike_sound" (defArgs st_alike_sound) (defBody st_alike_sound) (defScope st_alike_sound) .none kV doc pm an cdv ct) ⟨us, []⟩ = pure (List.zip ps_alike_sound us) := match us, hl with | [_, _], _ => rfl
theorem k_alike_sound (kV doc pm : Value) (an : Option Addr) (cdv ct : Value) (us : List Value) (hl : us.length = ps_alike_sound.length) : bindArgs (PySem.W.fnOf "alike_sound" "alike_sound" (defArgs st_alike_sound) (defBody st_alike_sound) (defScope st_alike_sound) .none kV doc pm an cdv ct) ⟨[], List.zip ps_alike_sound us⟩ = pure (List.zip ps_alike_sound us) := match us, hl with | [_, _], _ => rfl
theorem c_code_of : cTs G 60 ⟨N_code_of, defScope st_code_of, fun _ => true⟩ (defBody st_code_of) = some B_code_of := by kernel_rfl
theorem s_code_of : scopeB N_code_of ps_code_of (defScope st_code_of) = true := by decide +kernel
theorem b_code_of (kV doc pm : Value) (an : Option Addr) (cdv ct : Value) (us : List Value) (hl : us.length = ps_code_of.length) : bindArgs (PySem.W.fnOf "code_of" "code_of" (defArgs st_code_of) (defBody st_code_of) (defScope st_code_of) .none kV doc pm an cdv ct) ⟨us, []⟩ = pure (List.zip ps_code_of us) := match us, hl with | [_], _ => rfl
theorem k_code_of (kV doc pm : Value) (an : Option Addr) (cdv ct : Value) (us : List Value) (hl : us.length = ps_code_of.length) : bindArgs (PySem.W.fnOf "code_of" "code_of" (defArgs st_code_of) (defBody st_code_of) (defScope st_code_of) .none kV doc pm an cdv ct) ⟨[], List.zip ps_code_of us⟩ = pure (List.zip ps_code_of us) := match us, hl with | [_], _ => rfl
theorem c__law_so : cTs G 60 ⟨N__law_so, defScope st__law_so, fun _ => true⟩ (defBody st__law_so) = some B__law_so := by kernel_rfl
theorem s__law_so : scopeB N__law_so ps__law_so (defScope st__law_so) = true := by decide +kernel
theorem b__law_so (kV doc pm : Value) (an : Option Addr) (cdv ct : Value) (us : List Value) (hl : us.length = ps__law_so.length) : bindArgs (PySem.W.fnOf "_law_so" "_law_so" (defArgs st__law_so) (defBody st__law_so) (defScope st__law_so) .none kV doc pm an cdv ct) ⟨us, []⟩ = pure (List.zip ps__law_so us) := match us, hl with | [_, _], _ => rfl
theorem k__law_so (kV doc pm : Value) (an : Option Addr) (cdv ct : Value) (us : List Value) (hl : us.length = ps__law_so.length) : bindArgs (PySem.W.fnOf "_law_so" "_law_so" (defArgs st__law_so) (defBody st__law_so) (defScope st__law_so) .none kV doc pm an cdv ct) ⟨[], List.zip ps__law_so us⟩ = pure (List.zip ps__law_so us) := match us, hl with | [_, _], _ => rfl
theorem c__law_numbers : cTs G 60 ⟨N__law_numbers, defScope st__law_numbers, fun _ => true⟩ (defBody st__law_numbers) = some B__law_numbers := by kernel_rfl
theorem s__law_numbers : scopeB N__law_numbers ps__law_numbers (defScope st__law_numbers) = true := by decide +kernel
theorem b__law_numbers (kV doc pm : Value) (an : Option Addr) (cdv ct : Value) (us : List Value) (hl : us.length = ps__law_numbers.length) : bindArgs (PySem.W.fnOf "_law_numbers" "_law_numbers" (defArgs st__law_numbers) (defBody st__law_numbers) (defScope st__law_numbers) .none kV doc pm an cdv ct) ⟨us, []⟩ = pure (List.zip ps__law_numbers us) := match us, hl with | [_], _ => rfl
theorem k__law_numbers (kV doc pm : Value) (an : Option Addr) (cdv ct : Value) (us : List Value) (hl : us.length = ps__law_numbers.length) : bindArgs (PySem.W.fnOf "_law_numbers" "_law_numbers" (defArgs st__law_numbers) (defBody st__law_numbers) (defScope st__law_numbers) .none kV doc pm an cdv ct) ⟨[], List.zip ps__law_numbers us⟩ = pure (List.zip ps__law_numbers us) := match us, hl with | [_], _ => rfl
theorem c__law_draw : cTs G 60 ⟨N__law_draw, defScope st__law_draw, fun _ => true⟩ (defBody st__law_draw) = some B__law_draw := by kernel_rfl
theorem s__law_draw : scopeB N__law_draw ps__law_draw (defScope st__law_draw) = true := by decide +kernel
theorem b__law_draw (kV doc pm : Value) (an : Option Addr) (cdv ct : Value) (us : List Value) (hl : us.length = ps__law_draw.length) : bindArgs (PySem.W.fnOf "_law_draw" "_law_draw" (defArgs st__law_draw) (defBody st__law_draw) (defScope st__law_draw) .none kV doc pm an cdv ct) ⟨us, []⟩ = pure (List.zip ps__law_draw us) := match us, hl with | [_, _, _], _ => rfl
theorem k__law_draw (kV doc pm : Value) (an : Option Addr) (cdv ct : Value) (us : List Value) (hl : us.length = ps__law_draw.length) : bindArgs (PySem.W.fnOf "_law_draw" "_law_draw" (defArgs st__law_draw) (defBody st__law_draw) (defScope st__law_draw) .none kV doc pm an cdv ct) ⟨[], List.zip ps__law_draw us⟩ = pure (List.zip ps__law_draw us) := match us, hl with | [_, _, _], _ => rfl
theorem c__law_take : cTs G 60 ⟨N__law_take, defScope st__law_take, fun _ => true⟩ (defBody st__law_take) = some B__law_take := by kernel_rfl
theorem s__law_take : scopeB N__law_take ps__law_take (defScope st__law_take) = true := by decide +kernel
theorem b__law_take (kV doc pm : Value) (an : Option Addr) (cdv ct : Value) (us : List Value) (hl : us.length = ps__law_take.length) : bindArgs (PySem.W.fnOf "_law_take" "_law_take" (defArgs st__law_take) (defBody st__law_take) (defScope st__law_take) .none kV doc pm an cdv ct) ⟨us, []⟩ = pure (List.zip ps__law_take us) := match us, hl with | [_, _, _], _ => rfl
theorem k__law_take (kV doc pm : Value) (an : Option Addr) (cdv ct : Value) (us : List Value) (hl : us.length = ps__law_take.length) : bindArgs (PySem.W.fnOf "_law_take" "_law_take" (defArgs st__law_take) (defBody st__law_take) (defScope st__law_take) .none kV doc pm an cdv ct) ⟨[], List.zip ps__law_take us⟩ = pure (List.zip ps__law_take us) := match us, hl with | [_, _, _], _ => rfl
theorem c__law_pick : cTs G 60 ⟨N__law_pick, defScope st__law_pick, fun _ => true⟩ (defBody st__law_pick) = some B__law_pick := by kernel_rfl
theorem s__law_pick : scopeB N__law_pick ps__law_pick (defScope st__law_pick) = true := by decide +kernel
theorem b__law_pick (kV doc pm : Value) (an : Option Addr) (cdv ct : Value) (us : List Value) (hl : us.length = ps__law_pick.length) : bindArgs (PySem.W.fnOf "_law_pick" "_law_pick" (defArgs st__law_pick) (defBody st__law_pick) (defScope st__law_pick) .none kV doc pm an cdv ct) ⟨us, []⟩ = pure (List.zip ps__law_pick us) := match us, hl with | [_, _, _], _ => rfl
theorem k__law_pick (kV doc pm : Value) (an : Option Addr) (cdv ct : Value) (us : List Value) (hl : us.length = ps__law_pick.length) : bindArgs (PySem.W.fnOf "_law_pick" "_law_pick" (defArgs st__law_pick) (defBody st__law_pick) (defScope st__law_pick) .none kV doc pm an cdv ct) ⟨[], List.zip ps__law_pick us⟩ = pure (List.zip ps__law_pick us) := match us, hl with | [_, _, _], _ => rfl
theorem c__law_sound : cTs G 60 ⟨N__law_sound, defScope st__law_sound, fun _ => true⟩ (defBody st__law_sound) = some B__law_sound := by kernel_rfl
theorem s__law_sound : scopeB N__law_sound ps__law_sound (defScope st__law_sound) = true := by decide +kernel
theorem b__law_sound (kV doc pm : Value) (an : Option Addr) (cdv ct : Value) (us : List Value) (hl : us.length = ps__law_sound.length) : bindArgs (PySem.W.fnOf "_law_sound" "_law_sound" (defArgs st__law_sound) (defBody st__law_sound) (defScope st__law_sound) .none kV doc pm an cdv ct) ⟨us, []⟩ = pure (List.zip ps__law_sound us) := match us, hl with | [_], _ => rfl
theorem k__law_sound (kV doc pm : Value) (an : Option Addr) (cdv ct : Value) (us : List Value) (hl : us.length = ps__law_sound.length) : bindArgs (PySem.W.fnOf "_law_sound" "_law_sound" (defArgs st__law_sound) (defBody st__law_sound) (defScope st__law_sound) .none kV doc pm an cdv ct) ⟨[], List.zip ps__law_sound us⟩ = pure (List.zip ps__law_sound us) := match us, hl with | [_], _ => rfl
theorem c_law : cTs G 60 ⟨N_law, defScope st_law, fun _ => true⟩ (defBody st_law) = some B_law := by kernel_rfl
theorem s_law : scopeB N_law ps_law (defScope st_law) = true := by decide +kernel
theorem b_law (kV doc pm : Value) (an : Option Addr) (cdv ct : Value) (us : List Value) (hl : us.length = ps_law.length) : bindArgs (PySem.W.fnOf "law" "law" (defArgs st_law) (defBody st_law) (defScope st_law) .none kV doc pm an cdv ct) ⟨us, []⟩ = pure (List.zip ps_law us) := match us, hl with | [_], _ => rfl
theorem k_law (kV doc pm : Value) (an : Option Addr) (cdv ct : Value) (us : List Value) (hl : us.length = ps_law.length) : bindArgs (PySem.W.fnOf "law" "law" (defArgs st_law) (defBody st_law) (defScope st_law) .none kV doc pm an cdv ct) ⟨[], List.zip ps_law us⟩ = pure (List.zip ps_law us) := match us, hl with | [_], _ => rfl
def fs : List Fn := ds.map PDef.fn
theorem F_demand : fs[0]? = some ⟨2, 2, bDemand⟩ := rfl
theorem F_is_text : fs[1]? = some ⟨2, 2, bIsText⟩ := rfl
theorem F_is_letters : fs[2]? = some ⟨3, 2, (bIsLetters 1)⟩ := rfl
theorem F_is_word : fs[3]? = some ⟨1, 1, (bIsWord 2)⟩ := rfl
theorem F_class_of : fs[4]? = some ⟨3, 1, B_class_of⟩ := rfl
theorem F_unchecked_code : fs[5]? = some ⟨5, 1, B_unchecked_code⟩ := rfl
theorem F_alike_sound : fs[6]? = some ⟨2, 2, B_alike_sound⟩ := rfl
theorem F_code_of : fs[7]? = some ⟨1, 1, B_code_of⟩ := rfl
theorem F__law_so : fs[8]? = some ⟨3, 2, (bSo 8)⟩ := rfl
theorem F__law_numbers : fs[9]? = some ⟨6, 1, bNumbers⟩ := rfl
theorem F__law_draw : fs[10]? = some ⟨4, 3, bDraw⟩ := rfl
theorem F__law_take : fs[11]? = some ⟨3, 3, (bTake 10)⟩ := rfl
theorem F__law_pick : fs[12]? = some ⟨3, 3, (bPick 11)⟩ := rfl
theorem F__law_sound : fs[13]? = some ⟨7, 1, B__law_sound⟩ := rfl
theorem F_law : fs[14]? = some ⟨9, 1, B_law⟩ := rfl
/-- what the law's run gives, by the evaluator -/
def Pure (fu k : Nat) : Prop := ∀ ns : List Int, ns.length ≤ 63 → ∃ S', callN (ds.map PDef.fn) fu k 14 [.ltc (ns.map .int)] [] = .ok (.bl true) S'
theorem room : L2.Room 100 callerA := ⟨rfl, by decide, by decide⟩
end Kk73

namespace Kk73
open PySem PySem.Spec L2 Mp
abbrev CL : List (List Nat) := [[98, 102, 112, 118], [99, 103, 106, 107, 113, 115, 120, 122], [100, 116], [108], [109, 110], [114]]
def cls (c : Nat) : Nat := if c ∈ [98, 102, 112, 118] then 1 else if c ∈ [99, 103, 106, 107, 113, 115, 120, 122] then 2 else if c ∈ [100, 116] then 3 else if c = 108 then 4 else if c ∈ [109, 110] then 5 else if c = 114 then 6 else 0
def lastS (n : Nat) : List Nat := if n = 0 then [] else [48 + n]
abbrev vows : List Nat := [97, 101, 105, 111, 117, 121]
def cT (c t : Nat) : Nat := (List.range t).foldl (fun acc j => if c ∈ CL.getD j [] then j + 1 else acc) 0
theorem facts26 : ∀ n : Fin 26, (97 + n.val ∈ vows → cls (97 + n.val) = 0) ∧ cT (97 + n.val) 6 = cls (97 + n.val) ∧ cls (97 + n.val) ≤ 6 := by decide +kernel
theorem facts {c : Nat} (h : 97 ≤ c ∧ c ≤ 122) : (c ∈ vows → cls c = 0) ∧ cT c 6 = cls c ∧ cls c ≤ 6 := by
  have := facts26 ⟨c - 97, by omega⟩
  dsimp only at this
  rw [show 97 + (c - 97) = c by omega] at this
  exact this
section
variable {fu k : Nat} {S : Store}
theorem clsA : ∀ n : Fin 26, ∀ t : Fin 6, (∀ j : Fin 6, j.val < t.val → ¬(97 + n.val ∈ CL.getD j.val [])) → 97 + n.val ∈ CL.getD t.val [] → cls (97 + n.val) = t.val + 1 := by decide +kernel
theorem clsB : ∀ n : Fin 26, (∀ j : Fin 6, ¬(97 + n.val ∈ CL.getD j.val [])) → cls (97 + n.val) = 0 := by decide +kernel
theorem c_in1 {c : Nat} {z : List Nat} : cmpV .In (.str [c]) (.str z) S = .ok (.bl (decide (c ∈ z))) S := (rfl)
theorem f_str6 {n : Nat} (h : 1 ≤ n) (h6 : n ≤ 6) : btF .str [.int (n : Int)] S = .ok (.str [48 + n]) S := by
  have : n = 1 ∨ n = 2 ∨ n = 3 ∨ n = 4 ∨ n = 5 ∨ n = 6 := by omega
  rcases this with rfl | rfl | rfl | rfl | rfl | rfl <;> rfl
theorem class_eq {c : Nat} (h : 97 ≤ c ∧ c ≤ 122) : callN fs fu (k + 1) 4 [.str [c]] S = .ok (.str (lastS (cls c))) S := by
  obtain ⟨n, rfl⟩ : ∃ n : Fin 26, c = 97 + n.val := ⟨⟨c - 97, by omega⟩, by show c = 97 + (c - 97); omega⟩
  refine eq_of_W ?_
  refine W_fn2 F_class_of rfl rfl ?_; simp only [List.map_cons, List.map_nil, List.length_cons, List.length_nil, List.cons_append, List.nil_append, List.append_nil, List.replicate_succ, List.replicate_zero, Nat.reduceAdd, Nat.reduceSub, Nat.zero_add]
  unfold B_class_of
  simp only [ev_var, ev_cst, ev_bin, ev_neg, ev_cmp, ev_chain', ev_and, ev_or, ev_not, ev_ite, ev_tup, ev_lst, ev_ix, ev_sl, ev_call, ev_bt, ev_mt, ev_isi, ev_lc, ev_nil, ev_cons, ev_onone, ev_osome, ev_cnone, ev_csome, ev_ie, ev_rng, ev_enu, asT, ex_asg, ex_asgS, ex_par, ex_aug, ex_ite, ex_whl, ex_for, ex_expr, ex_ret, ex_retN, ex_pass, ex_brk, ex_cont, ex_never, ex_nil, ex_cons', W_ok, W_bind, fin_ret, fin_next, chK_bl, sq_next, sq_ret, sq_brk, sq_cont, bnd_ok, b_add, b_sub, i_add, i_sub, c_lt, c_le, c_gt, c_ge, c_eq, c_ne, c_eqs, c_nes, c_eqb, t_bl, t_int, t_non, p_int, f_int, as_n, as_t2, as_t3, setMany, getL, List.getElem?_cons_zero, List.getElem?_cons_succ, List.set_cons_zero, List.set_cons_succ, wipeL, tl0, tl1, tl2, tl3, tl4, tl5, tl6, Bool.not_true, Bool.not_false, decide_eq_true_eq, if_true, if_false, ite_true, ite_false, eq_self, Bool.false_eq_true, enuV]
  refine W_for0 (it := .enu (.vals (CL.map .str))) (xs := enumL (CL.map .str)) ⟨_, rfl, rfl⟩ (fun m ρ S' => S' = S ∧ (∀ j : Fin 6, j.val < m → ¬(97 + n.val ∈ CL.getD j.val [])) ∧ ∃ z1 z2, ρ = [some (.str [97 + n.val]), z1, z2]) ⟨rfl, fun j hj => absurd hj (Nat.not_lt_zero _), _, _, rfl⟩ (fun _ _ _ _ => ⟨_, rfl, rfl⟩) (fun m x ρ S1 hx hI => ?_) fun ρ S1 hI => ?_
  · obtain ⟨rfl, hnin, z1, z2, rfl⟩ := hI
    unfold enumL at hx
    rw [List.getElem?_mapIdx] at hx
    obtain ⟨y, hy, rfl⟩ := Option.map_eq_some_iff.mp hx
    have hm : m < 6 := (List.getElem?_eq_some_iff.mp hy).1
    rw [List.getElem?_map, List.getElem?_eq_getElem (show m < CL.length from hm)] at hy
    have hy : y = .str (CL.getD m []) := by
      rw [List.getD_eq_getElem?_getD, List.getElem?_eq_getElem (show m < CL.length from hm)]
      exact (Option.some.inj hy).symm
    subst hy
    simp only [ev_var, ev_cst, ev_bin, ev_neg, ev_cmp, ev_chain', ev_and, ev_or, ev_not, ev_ite, ev_tup, ev_lst, ev_ix, ev_sl, ev_call, ev_bt, ev_mt, ev_isi, ev_lc, ev_nil, ev_cons, ev_onone, ev_osome, ev_cnone, ev_csome, ev_ie, ev_rng, ev_enu, asT, ex_asg, ex_asgS, ex_par, ex_aug, ex_ite, ex_whl, ex_for, ex_expr, ex_ret, ex_retN, ex_pass, ex_brk, ex_cont, ex_never, ex_nil, ex_cons', W_ok, W_bind, fin_ret, fin_next, chK_bl, sq_next, sq_ret, sq_brk, sq_cont, bnd_ok, b_add, b_sub, i_add, i_sub, c_lt, c_le, c_gt, c_ge, c_eq, c_ne, c_eqs, c_nes, c_eqb, t_bl, t_int, t_non, p_int, f_int, as_n, as_t2, as_t3, setMany, getL, List.getElem?_cons_zero, List.getElem?_cons_succ, List.set_cons_zero, List.set_cons_succ, wipeL, tl0, tl1, tl2, tl3, tl4, tl5, tl6, Bool.not_true, Bool.not_false, decide_eq_true_eq, if_true, if_false, ite_true, ite_false, eq_self, Bool.false_eq_true, c_in1]
    by_cases hin : 97 + n.val ∈ CL.getD m []
    · rw [if_pos hin]
      have e := clsA n ⟨m, hm⟩ hnin hin
      have es : ((m : Int) + 1) = ((m + 1 : Nat) : Int) := by omega
      simp only [ev_var, ev_cst, ev_bin, ev_neg, ev_cmp, ev_chain', ev_and, ev_or, ev_not, ev_ite, ev_tup, ev_lst, ev_ix, ev_sl, ev_call, ev_bt, ev_mt, ev_isi, ev_lc, ev_nil, ev_cons, ev_onone, ev_osome, ev_cnone, ev_csome, ev_ie, ev_rng, ev_enu, asT, ex_asg, ex_asgS, ex_par, ex_aug, ex_ite, ex_whl, ex_for, ex_expr, ex_ret, ex_retN, ex_pass, ex_brk, ex_cont, ex_never, ex_nil, ex_cons', W_ok, W_bind, fin_ret, fin_next, chK_bl, sq_next, sq_ret, sq_brk, sq_cont, bnd_ok, b_add, b_sub, i_add, i_sub, c_lt, c_le, c_gt, c_ge, c_eq, c_ne, c_eqs, c_nes, c_eqb, t_bl, t_int, t_non, p_int, f_int, as_n, as_t2, as_t3, setMany, getL, List.getElem?_cons_zero, List.getElem?_cons_succ, List.set_cons_zero, List.set_cons_succ, wipeL, tl0, tl1, tl2, tl3, tl4, tl5, tl6, Bool.not_true, Bool.not_false, decide_eq_true_eq, if_true, if_false, ite_true, ite_false, eq_self, Bool.false_eq_true, es, f_str6 (show 1 ≤ m + 1 by omega) (show m + 1 ≤ 6 by omega)]
      rw [e]
      exact ⟨rfl, trivial⟩
    · rw [if_neg hin]
      try simp only [ev_var, ev_cst, ev_bin, ev_neg, ev_cmp, ev_chain', ev_and, ev_or, ev_not, ev_ite, ev_tup, ev_lst, ev_ix, ev_sl, ev_call, ev_bt, ev_mt, ev_isi, ev_lc, ev_nil, ev_cons, ev_onone, ev_osome, ev_cnone, ev_csome, ev_ie, ev_rng, ev_enu, asT, ex_asg, ex_asgS, ex_par, ex_aug, ex_ite, ex_whl, ex_for, ex_expr, ex_ret, ex_retN, ex_pass, ex_brk, ex_cont, ex_never, ex_nil, ex_cons', W_ok, W_bind, fin_ret, fin_next, chK_bl, sq_next, sq_ret, sq_brk, sq_cont, bnd_ok, b_add, b_sub, i_add, i_sub, c_lt, c_le, c_gt, c_ge, c_eq, c_ne, c_eqs, c_nes, c_eqb, t_bl, t_int, t_non, p_int, f_int, as_n, as_t2, as_t3, setMany, getL, List.getElem?_cons_zero, List.getElem?_cons_succ, List.set_cons_zero, List.set_cons_succ, wipeL, tl0, tl1, tl2, tl3, tl4, tl5, tl6, Bool.not_true, Bool.not_false, decide_eq_true_eq, if_true, if_false, ite_true, ite_false, eq_self, Bool.false_eq_true]
      refine ⟨trivial, fun j hj => ?_, _, _, rfl⟩
      by_cases hj2 : j.val < m
      · exact hnin j hj2
      · have : j.val = m := by omega
        rw [this]; exact hin
  · obtain ⟨rfl, hnin, z1, z2, rfl⟩ := hI
    have e := clsB n fun j => hnin j (show j.val < 6 from j.isLt)
    try simp only [ev_var, ev_cst, ev_bin, ev_neg, ev_cmp, ev_chain', ev_and, ev_or, ev_not, ev_ite, ev_tup, ev_lst, ev_ix, ev_sl, ev_call, ev_bt, ev_mt, ev_isi, ev_lc, ev_nil, ev_cons, ev_onone, ev_osome, ev_cnone, ev_csome, ev_ie, ev_rng, ev_enu, asT, ex_asg, ex_asgS, ex_par, ex_aug, ex_ite, ex_whl, ex_for, ex_expr, ex_ret, ex_retN, ex_pass, ex_brk, ex_cont, ex_never, ex_nil, ex_cons', W_ok, W_bind, fin_ret, fin_next, chK_bl, sq_next, sq_ret, sq_brk, sq_cont, bnd_ok, b_add, b_sub, i_add, i_sub, c_lt, c_le, c_gt, c_ge, c_eq, c_ne, c_eqs, c_nes, c_eqb, t_bl, t_int, t_non, p_int, f_int, as_n, as_t2, as_t3, setMany, getL, List.getElem?_cons_zero, List.getElem?_cons_succ, List.set_cons_zero, List.set_cons_succ, wipeL, tl0, tl1, tl2, tl3, tl4, tl5, tl6, Bool.not_true, Bool.not_false, decide_eq_true_eq, if_true, if_false, ite_true, ite_false, eq_self, Bool.false_eq_true]
    rw [e]
    exact ⟨rfl, trivial⟩
def stp (st : List Nat × Nat) (c : Nat) : List Nat × Nat := if c ∈ vows then (st.1, 0) else if cls c = 0 then st else if cls c = st.2 then (st.1, cls c) else (st.1 ++ [48 + cls c], cls c)
def run (w : List Nat) (m : Nat) : List Nat × Nat := ((w.drop 1).take m).foldl stp ([w.getD 0 0], cls (w.getD 0 0))
theorem run_succ {w : List Nat} {m c : Nat} (h : (w.drop 1)[m]? = some c) : run w (m + 1) = stp (run w m) c := by
  unfold run
  rw [List.take_add_one, h, List.foldl_append]; rfl
theorem stp_len (st : List Nat × Nat) (c : Nat) : (stp st c).1.length ≤ st.1.length + 1 ∧ st.1.length ≤ (stp st c).1.length := by
  unfold stp
  split
  · exact ⟨Nat.le_succ _, Nat.le_refl _⟩
  · split
    · exact ⟨Nat.le_succ _, Nat.le_refl _⟩
    · split
      · exact ⟨Nat.le_succ _, Nat.le_refl _⟩
      · rw [List.length_append]; exact ⟨Nat.le_refl _, Nat.le_succ _⟩
theorem run_len (w : List Nat) : ∀ m, (run w m).1.length ≤ m + 1 ∧ 1 ≤ (run w m).1.length := by
  have key : ∀ (l : List Nat) (st : List Nat × Nat), (l.foldl stp st).1.length ≤ st.1.length + l.length ∧ st.1.length ≤ (l.foldl stp st).1.length := by
    intro l
    induction l with
    | nil => intro st; simp
    | cons c l ih =>
      intro st
      have h1 := ih (stp st c)
      have h2 := stp_len st c
      rw [List.foldl_cons, List.length_cons]
      omega
  intro m
  have := key ((w.drop 1).take m) ([w.getD 0 0], cls (w.getD 0 0))
  have hl : ((w.drop 1).take m).length ≤ m := by rw [List.length_take]; omega
  unfold run
  simp only [List.length_cons, List.length_nil] at this
  omega
def sound (w : List Nat) : List Nat := (run w (w.length - 1)).1.take 4 ++ List.replicate (4 - ((run w (w.length - 1)).1.take 4).length) 48
def Word (w : List Nat) : Prop := Low w ∧ 0 < w.length ∧ w.length ≤ 20
theorem ix_str {z : List Nat} {i : Int} (hl : z.length ≤ lim) (h0 : 0 ≤ i) (h1 : i < z.length) : ixV (.str z) (.int i) S = .ok (.str [z.getD i.toNat 0]) S := by
  unfold ixV
  dsimp only
  rw [if_pos hl, at_nat h0 h1, List.getElem?_eq_getElem (show i.toNat < z.length by omega), List.getD_eq_getElem?_getD, List.getElem?_eq_getElem (show i.toNat < z.length by omega)]
  rfl
theorem sl_str {z : List Nat} {lo hi : Option Int} (hl : z.length ≤ lim) : slV (.str z) lo hi S = .ok (.str (cut z lo hi)) S := by
  unfold slV
  exact if_pos hl
theorem cut_1 {z : List Nat} (h : 0 < z.length) : cut z (some 1) none = z.drop 1 := by
  unfold cut
  rw [show HT.sIx z.length 0 (some 1) = 1 from (HT.sIx_nat z.length 0 1).trans (Nat.min_eq_left h), show HT.sIx z.length z.length none = z.length from rfl, List.take_of_length_le (by rw [List.length_drop]; omega)]
theorem cut_4 {z : List Nat} : cut z none (some 4) = z.take 4 := by
  unfold cut
  rw [show HT.sIx z.length 0 none = 0 from rfl, show HT.sIx z.length z.length (some 4) = min 4 z.length from HT.sIx_nat z.length z.length 4, List.drop_zero, Nat.sub_zero]
  by_cases h : 4 ≤ z.length
  · rw [Nat.min_eq_left h]
  · rw [Nat.min_eq_right (by omega), List.take_of_length_le (Nat.le_refl _), List.take_of_length_le (by omega)]
theorem b_addS {a b : List Nat} (h : a.length + b.length ≤ lim) : binV .Add (.str a) (.str b) S = .ok (.str (a ++ b)) S := by
  show (if a.length + b.length ≤ lim then Res.ok (PV.str (a ++ b)) S else .bad) = _
  exact if_pos h
theorem m_ljust {z : List Nat} : mtF .ljust (.str z) [.int 4, .str [48]] S = .ok (.str (z ++ List.replicate (4 - z.length) 48)) S := by
  show (if PadOk 4 = true then Res.ok (PV.str (z ++ List.replicate ((4 : Int).toNat - z.length) 48)) S else .bad) = _
  rw [if_pos (by decide)]; rfl
theorem head_low {w : List Nat} (h : Word w) : 97 ≤ w.getD 0 0 ∧ w.getD 0 0 ≤ 122 := by
  have e : w[0]? = some (w.getD 0 0) := by rw [List.getD_eq_getElem?_getD, List.getElem?_eq_getElem h.2.1]; rfl
  exact h.1 _ (List.mem_of_getElem? e)
theorem unchecked_eq {w : List Nat} (hw : Word w) : callN fs fu (k + 2) 5 [.str w] S = .ok (.str (sound w)) S := by
  have hl : w.length ≤ lim := by have := hw.2.2; unfold lim; omega
  have h0 := hw.2.1
  have hll := hw.2.2
  refine eq_of_W ?_
  refine W_fn2 F_unchecked_code rfl rfl ?_; simp only [List.map_cons, List.map_nil, List.length_cons, List.length_nil, List.cons_append, List.nil_append, List.append_nil, List.replicate_succ, List.replicate_zero, Nat.reduceAdd, Nat.reduceSub, Nat.zero_add]
  unfold B_unchecked_code
  have hix := ix_str (S := S) (i := 0) hl (by decide) (by omega)
  rw [show (0 : Int).toNat = 0 from rfl] at hix
  simp only [ev_var, ev_cst, ev_bin, ev_neg, ev_cmp, ev_chain', ev_and, ev_or, ev_not, ev_ite, ev_tup, ev_lst, ev_ix, ev_sl, ev_call, ev_bt, ev_mt, ev_isi, ev_lc, ev_nil, ev_cons, ev_onone, ev_osome, ev_cnone, ev_csome, ev_ie, ev_rng, ev_enu, asT, ex_asg, ex_asgS, ex_par, ex_aug, ex_ite, ex_whl, ex_for, ex_expr, ex_ret, ex_retN, ex_pass, ex_brk, ex_cont, ex_never, ex_nil, ex_cons', W_ok, W_bind, fin_ret, fin_next, chK_bl, sq_next, sq_ret, sq_brk, sq_cont, bnd_ok, b_add, b_sub, i_add, i_sub, c_lt, c_le, c_gt, c_ge, c_eq, c_ne, c_eqs, c_nes, c_eqb, t_bl, t_int, t_non, p_int, f_int, as_n, as_t2, as_t3, setMany, getL, List.getElem?_cons_zero, List.getElem?_cons_succ, List.set_cons_zero, List.set_cons_succ, wipeL, tl0, tl1, tl2, tl3, tl4, tl5, tl6, Bool.not_true, Bool.not_false, decide_eq_true_eq, if_true, if_false, ite_true, ite_false, eq_self, Bool.false_eq_true, hix, class_eq (head_low hw), sl_str hl, cut_1 h0, iterV]
  refine W_for0 (it := .vals (strIt (w.drop 1))) (xs := strIt (w.drop 1)) (by exact rfl) (fun m ρ S' => S' = S ∧ ∃ z3 z4, ρ = [some (.str w), some (.str (run w m).1), some (.str (lastS (run w m).2)), z3, z4]) ⟨rfl, _, _, rfl⟩ (fun _ _ _ _ => rfl) (fun m x ρ S1 hx hI => ?_) fun ρ S1 hI => ?_
  · obtain ⟨rfl, z3, z4, rfl⟩ := hI
    unfold strIt at hx
    rw [List.getElem?_map] at hx
    obtain ⟨c, hc, rfl⟩ := Option.map_eq_some_iff.mp hx
    have hlow := hw.1 c (List.mem_of_mem_drop (List.mem_of_getElem? hc))
    have hm : m < 20 := by have := (List.getElem?_eq_some_iff.mp hc).1; rw [List.length_drop] at this; omega
    obtain ⟨f1, _, f3⟩ := facts hlow
    have hrl := run_len w m
    rw [run_succ hc]
    unfold stp
    simp only [ev_var, ev_cst, ev_bin, ev_neg, ev_cmp, ev_chain', ev_and, ev_or, ev_not, ev_ite, ev_tup, ev_lst, ev_ix, ev_sl, ev_call, ev_bt, ev_mt, ev_isi, ev_lc, ev_nil, ev_cons, ev_onone, ev_osome, ev_cnone, ev_csome, ev_ie, ev_rng, ev_enu, asT, ex_asg, ex_asgS, ex_par, ex_aug, ex_ite, ex_whl, ex_for, ex_expr, ex_ret, ex_retN, ex_pass, ex_brk, ex_cont, ex_never, ex_nil, ex_cons', W_ok, W_bind, fin_ret, fin_next, chK_bl, sq_next, sq_ret, sq_brk, sq_cont, bnd_ok, b_add, b_sub, i_add, i_sub, c_lt, c_le, c_gt, c_ge, c_eq, c_ne, c_eqs, c_nes, c_eqb, t_bl, t_int, t_non, p_int, f_int, as_n, as_t2, as_t3, setMany, getL, List.getElem?_cons_zero, List.getElem?_cons_succ, List.set_cons_zero, List.set_cons_succ, wipeL, tl0, tl1, tl2, tl3, tl4, tl5, tl6, Bool.not_true, Bool.not_false, decide_eq_true_eq, if_true, if_false, ite_true, ite_false, eq_self, Bool.false_eq_true, class_eq hlow, c_in1]
    by_cases hv : c ∈ vows
    · rw [if_pos hv, if_pos hv]
      try simp only [ev_var, ev_cst, ev_bin, ev_neg, ev_cmp, ev_chain', ev_and, ev_or, ev_not, ev_ite, ev_tup, ev_lst, ev_ix, ev_sl, ev_call, ev_bt, ev_mt, ev_isi, ev_lc, ev_nil, ev_cons, ev_onone, ev_osome, ev_cnone, ev_csome, ev_ie, ev_rng, ev_enu, asT, ex_asg, ex_asgS, ex_par, ex_aug, ex_ite, ex_whl, ex_for, ex_expr, ex_ret, ex_retN, ex_pass, ex_brk, ex_cont, ex_never, ex_nil, ex_cons', W_ok, W_bind, fin_ret, fin_next, chK_bl, sq_next, sq_ret, sq_brk, sq_cont, bnd_ok, b_add, b_sub, i_add, i_sub, c_lt, c_le, c_gt, c_ge, c_eq, c_ne, c_eqs, c_nes, c_eqb, t_bl, t_int, t_non, p_int, f_int, as_n, as_t2, as_t3, setMany, getL, List.getElem?_cons_zero, List.getElem?_cons_succ, List.set_cons_zero, List.set_cons_succ, wipeL, tl0, tl1, tl2, tl3, tl4, tl5, tl6, Bool.not_true, Bool.not_false, decide_eq_true_eq, if_true, if_false, ite_true, ite_false, eq_self, Bool.false_eq_true]
      exact ⟨trivial, _, _, rfl⟩
    · rw [if_neg hv, if_neg hv]
      by_cases hz : cls c = 0
      · rw [if_pos hz, show lastS (cls c) = [] from if_pos hz]
        simp only [ev_var, ev_cst, ev_bin, ev_neg, ev_cmp, ev_chain', ev_and, ev_or, ev_not, ev_ite, ev_tup, ev_lst, ev_ix, ev_sl, ev_call, ev_bt, ev_mt, ev_isi, ev_lc, ev_nil, ev_cons, ev_onone, ev_osome, ev_cnone, ev_csome, ev_ie, ev_rng, ev_enu, asT, ex_asg, ex_asgS, ex_par, ex_aug, ex_ite, ex_whl, ex_for, ex_expr, ex_ret, ex_retN, ex_pass, ex_brk, ex_cont, ex_never, ex_nil, ex_cons', W_ok, W_bind, fin_ret, fin_next, chK_bl, sq_next, sq_ret, sq_brk, sq_cont, bnd_ok, b_add, b_sub, i_add, i_sub, c_lt, c_le, c_gt, c_ge, c_eq, c_ne, c_eqs, c_nes, c_eqb, t_bl, t_int, t_non, p_int, f_int, as_n, as_t2, as_t3, setMany, getL, List.getElem?_cons_zero, List.getElem?_cons_succ, List.set_cons_zero, List.set_cons_succ, wipeL, tl0, tl1, tl2, tl3, tl4, tl5, tl6, Bool.not_true, Bool.not_false, decide_eq_true_eq, if_true, if_false, ite_true, ite_false, eq_self, Bool.false_eq_true, decide_true, Bool.not_true]
        exact ⟨trivial, _, _, rfl⟩
      · have e1 : lastS (cls c) = [48 + cls c] := if_neg hz
        have e2 : decide (([48 + cls c] : List Nat) = []) = false := rfl
        rw [if_neg hz, e1]
        simp only [ev_var, ev_cst, ev_bin, ev_neg, ev_cmp, ev_chain', ev_and, ev_or, ev_not, ev_ite, ev_tup, ev_lst, ev_ix, ev_sl, ev_call, ev_bt, ev_mt, ev_isi, ev_lc, ev_nil, ev_cons, ev_onone, ev_osome, ev_cnone, ev_csome, ev_ie, ev_rng, ev_enu, asT, ex_asg, ex_asgS, ex_par, ex_aug, ex_ite, ex_whl, ex_for, ex_expr, ex_ret, ex_retN, ex_pass, ex_brk, ex_cont, ex_never, ex_nil, ex_cons', W_ok, W_bind, fin_ret, fin_next, chK_bl, sq_next, sq_ret, sq_brk, sq_cont, bnd_ok, b_add, b_sub, i_add, i_sub, c_lt, c_le, c_gt, c_ge, c_eq, c_ne, c_eqs, c_nes, c_eqb, t_bl, t_int, t_non, p_int, f_int, as_n, as_t2, as_t3, setMany, getL, List.getElem?_cons_zero, List.getElem?_cons_succ, List.set_cons_zero, List.set_cons_succ, wipeL, tl0, tl1, tl2, tl3, tl4, tl5, tl6, Bool.not_true, Bool.not_false, decide_eq_true_eq, if_true, if_false, ite_true, ite_false, eq_self, Bool.false_eq_true, e2]
        by_cases he : cls c = (run w m).2
        · have e3 : lastS (run w m).2 = [48 + cls c] := by rw [← he]; exact e1
          rw [if_pos he]
          simp only [ev_var, ev_cst, ev_bin, ev_neg, ev_cmp, ev_chain', ev_and, ev_or, ev_not, ev_ite, ev_tup, ev_lst, ev_ix, ev_sl, ev_call, ev_bt, ev_mt, ev_isi, ev_lc, ev_nil, ev_cons, ev_onone, ev_osome, ev_cnone, ev_csome, ev_ie, ev_rng, ev_enu, asT, ex_asg, ex_asgS, ex_par, ex_aug, ex_ite, ex_whl, ex_for, ex_expr, ex_ret, ex_retN, ex_pass, ex_brk, ex_cont, ex_never, ex_nil, ex_cons', W_ok, W_bind, fin_ret, fin_next, chK_bl, sq_next, sq_ret, sq_brk, sq_cont, bnd_ok, b_add, b_sub, i_add, i_sub, c_lt, c_le, c_gt, c_ge, c_eq, c_ne, c_eqs, c_nes, c_eqb, t_bl, t_int, t_non, p_int, f_int, as_n, as_t2, as_t3, setMany, getL, List.getElem?_cons_zero, List.getElem?_cons_succ, List.set_cons_zero, List.set_cons_succ, wipeL, tl0, tl1, tl2, tl3, tl4, tl5, tl6, Bool.not_true, Bool.not_false, decide_eq_true_eq, if_true, if_false, ite_true, ite_false, eq_self, Bool.false_eq_true, e3, decide_true]
          refine ⟨trivial, some (.str [c]), some (.str [48 + cls c]), ?_⟩
          rw [e1]
        · have e3 : ¬([48 + cls c] : List Nat) = lastS (run w m).2 := by
            intro q
            unfold lastS at q
            split at q
            · cases q
            · have := List.cons.inj q
              omega
          rw [if_neg he]
          simp only [ev_var, ev_cst, ev_bin, ev_neg, ev_cmp, ev_chain', ev_and, ev_or, ev_not, ev_ite, ev_tup, ev_lst, ev_ix, ev_sl, ev_call, ev_bt, ev_mt, ev_isi, ev_lc, ev_nil, ev_cons, ev_onone, ev_osome, ev_cnone, ev_csome, ev_ie, ev_rng, ev_enu, asT, ex_asg, ex_asgS, ex_par, ex_aug, ex_ite, ex_whl, ex_for, ex_expr, ex_ret, ex_retN, ex_pass, ex_brk, ex_cont, ex_never, ex_nil, ex_cons', W_ok, W_bind, fin_ret, fin_next, chK_bl, sq_next, sq_ret, sq_brk, sq_cont, bnd_ok, b_add, b_sub, i_add, i_sub, c_lt, c_le, c_gt, c_ge, c_eq, c_ne, c_eqs, c_nes, c_eqb, t_bl, t_int, t_non, p_int, f_int, as_n, as_t2, as_t3, setMany, getL, List.getElem?_cons_zero, List.getElem?_cons_succ, List.set_cons_zero, List.set_cons_succ, wipeL, tl0, tl1, tl2, tl3, tl4, tl5, tl6, Bool.not_true, Bool.not_false, decide_eq_true_eq, if_true, if_false, ite_true, ite_false, eq_self, Bool.false_eq_true, e3, decide_false, b_addS (show (run w m).1.length + [48 + cls c].length ≤ lim by show _ + 1 ≤ _; unfold lim; omega)]
          refine ⟨trivial, some (.str [c]), some (.str [48 + cls c]), ?_⟩
          rw [e1]
  · obtain ⟨rfl, z3, z4, rfl⟩ := hI
    rw [strIt_len, List.length_drop]
    have hrl := run_len w (w.length - 1)
    simp only [ev_var, ev_cst, ev_bin, ev_neg, ev_cmp, ev_chain', ev_and, ev_or, ev_not, ev_ite, ev_tup, ev_lst, ev_ix, ev_sl, ev_call, ev_bt, ev_mt, ev_isi, ev_lc, ev_nil, ev_cons, ev_onone, ev_osome, ev_cnone, ev_csome, ev_ie, ev_rng, ev_enu, asT, ex_asg, ex_asgS, ex_par, ex_aug, ex_ite, ex_whl, ex_for, ex_expr, ex_ret, ex_retN, ex_pass, ex_brk, ex_cont, ex_never, ex_nil, ex_cons', W_ok, W_bind, fin_ret, fin_next, chK_bl, sq_next, sq_ret, sq_brk, sq_cont, bnd_ok, b_add, b_sub, i_add, i_sub, c_lt, c_le, c_gt, c_ge, c_eq, c_ne, c_eqs, c_nes, c_eqb, t_bl, t_int, t_non, p_int, f_int, as_n, as_t2, as_t3, setMany, getL, List.getElem?_cons_zero, List.getElem?_cons_succ, List.set_cons_zero, List.set_cons_succ, wipeL, tl0, tl1, tl2, tl3, tl4, tl5, tl6, Bool.not_true, Bool.not_false, decide_eq_true_eq, if_true, if_false, ite_true, ite_false, eq_self, Bool.false_eq_true, sl_str (show (run w (w.length - 1)).1.length ≤ lim by unfold lim; omega), cut_4, tyOf, mtTy, m_ljust, sound, and_self]
theorem code_of_ok {w : List Nat} (hw : Word w) : W (callN fs fu (k + 4) 7 [.str w] S) (fun v S' => v = .str (sound w) ∧ Mp.Sub S S') := by
  refine W_fn2 F_code_of rfl rfl ?_; simp only [List.map_cons, List.map_nil, List.length_cons, List.length_nil, List.cons_append, List.nil_append, List.append_nil, List.replicate_succ, List.replicate_zero, Nat.reduceAdd, Nat.reduceSub, Nat.zero_add]
  unfold B_code_of
  try simp only [ev_var, ev_cst, ev_bin, ev_neg, ev_cmp, ev_chain', ev_and, ev_or, ev_not, ev_ite, ev_tup, ev_lst, ev_ix, ev_sl, ev_call, ev_bt, ev_mt, ev_isi, ev_lc, ev_nil, ev_cons, ev_onone, ev_osome, ev_cnone, ev_csome, ev_ie, ev_rng, ev_enu, asT, ex_asg, ex_asgS, ex_par, ex_aug, ex_ite, ex_whl, ex_for, ex_expr, ex_ret, ex_retN, ex_pass, ex_brk, ex_cont, ex_never, ex_nil, ex_cons', W_ok, W_bind, fin_ret, fin_next, chK_bl, sq_next, sq_ret, sq_brk, sq_cont, bnd_ok, b_add, b_sub, i_add, i_sub, c_lt, c_le, c_gt, c_ge, c_eq, c_ne, c_eqs, c_nes, c_eqb, t_bl, t_int, t_non, p_int, f_int, as_n, as_t2, as_t3, setMany, getL, List.getElem?_cons_zero, List.getElem?_cons_succ, List.set_cons_zero, List.set_cons_succ, wipeL, tl0, tl1, tl2, tl3, tl4, tl5, tl6, Bool.not_true, Bool.not_false, decide_eq_true_eq, if_true, if_false, ite_true, ite_false, eq_self, Bool.false_eq_true]
  refine (is_word_ok F_is_word F_is_letters F_is_text hw.1 hw.2.1 hw.2.2).mono fun v S1 q => ?_
  obtain ⟨rfl, k1⟩ := q
  simp only [ev_var, ev_cst, ev_bin, ev_neg, ev_cmp, ev_chain', ev_and, ev_or, ev_not, ev_ite, ev_tup, ev_lst, ev_ix, ev_sl, ev_call, ev_bt, ev_mt, ev_isi, ev_lc, ev_nil, ev_cons, ev_onone, ev_osome, ev_cnone, ev_csome, ev_ie, ev_rng, ev_enu, asT, ex_asg, ex_asgS, ex_par, ex_aug, ex_ite, ex_whl, ex_for, ex_expr, ex_ret, ex_retN, ex_pass, ex_brk, ex_cont, ex_never, ex_nil, ex_cons', W_ok, W_bind, fin_ret, fin_next, chK_bl, sq_next, sq_ret, sq_brk, sq_cont, bnd_ok, b_add, b_sub, i_add, i_sub, c_lt, c_le, c_gt, c_ge, c_eq, c_ne, c_eqs, c_nes, c_eqb, t_bl, t_int, t_non, p_int, f_int, as_n, as_t2, as_t3, setMany, getL, List.getElem?_cons_zero, List.getElem?_cons_succ, List.set_cons_zero, List.set_cons_succ, wipeL, tl0, tl1, tl2, tl3, tl4, tl5, tl6, Bool.not_true, Bool.not_false, decide_eq_true_eq, if_true, if_false, ite_true, ite_false, eq_self, Bool.false_eq_true, demand_eq F_demand, unchecked_eq hw]
  exact ⟨trivial, k1⟩
theorem alike_ok {w u : List Nat} (hw : Word w) (hu : Word u) : W (callN fs fu (k + 4) 6 [.str w, .str u] S) (fun v S' => v = .bl (decide (sound w = sound u)) ∧ Mp.Sub S S') := by
  refine W_fn2 F_alike_sound rfl rfl ?_; simp only [List.map_cons, List.map_nil, List.length_cons, List.length_nil, List.cons_append, List.nil_append, List.append_nil, List.replicate_succ, List.replicate_zero, Nat.reduceAdd, Nat.reduceSub, Nat.zero_add]
  unfold B_alike_sound
  try simp only [ev_var, ev_cst, ev_bin, ev_neg, ev_cmp, ev_chain', ev_and, ev_or, ev_not, ev_ite, ev_tup, ev_lst, ev_ix, ev_sl, ev_call, ev_bt, ev_mt, ev_isi, ev_lc, ev_nil, ev_cons, ev_onone, ev_osome, ev_cnone, ev_csome, ev_ie, ev_rng, ev_enu, asT, ex_asg, ex_asgS, ex_par, ex_aug, ex_ite, ex_whl, ex_for, ex_expr, ex_ret, ex_retN, ex_pass, ex_brk, ex_cont, ex_never, ex_nil, ex_cons', W_ok, W_bind, fin_ret, fin_next, chK_bl, sq_next, sq_ret, sq_brk, sq_cont, bnd_ok, b_add, b_sub, i_add, i_sub, c_lt, c_le, c_gt, c_ge, c_eq, c_ne, c_eqs, c_nes, c_eqb, t_bl, t_int, t_non, p_int, f_int, as_n, as_t2, as_t3, setMany, getL, List.getElem?_cons_zero, List.getElem?_cons_succ, List.set_cons_zero, List.set_cons_succ, wipeL, tl0, tl1, tl2, tl3, tl4, tl5, tl6, Bool.not_true, Bool.not_false, decide_eq_true_eq, if_true, if_false, ite_true, ite_false, eq_self, Bool.false_eq_true]
  refine (is_word_ok F_is_word F_is_letters F_is_text hw.1 hw.2.1 hw.2.2).mono fun v S1 q => ?_
  obtain ⟨rfl, k1⟩ := q
  simp only [ev_var, ev_cst, ev_bin, ev_neg, ev_cmp, ev_chain', ev_and, ev_or, ev_not, ev_ite, ev_tup, ev_lst, ev_ix, ev_sl, ev_call, ev_bt, ev_mt, ev_isi, ev_lc, ev_nil, ev_cons, ev_onone, ev_osome, ev_cnone, ev_csome, ev_ie, ev_rng, ev_enu, asT, ex_asg, ex_asgS, ex_par, ex_aug, ex_ite, ex_whl, ex_for, ex_expr, ex_ret, ex_retN, ex_pass, ex_brk, ex_cont, ex_never, ex_nil, ex_cons', W_ok, W_bind, fin_ret, fin_next, chK_bl, sq_next, sq_ret, sq_brk, sq_cont, bnd_ok, b_add, b_sub, i_add, i_sub, c_lt, c_le, c_gt, c_ge, c_eq, c_ne, c_eqs, c_nes, c_eqb, t_bl, t_int, t_non, p_int, f_int, as_n, as_t2, as_t3, setMany, getL, List.getElem?_cons_zero, List.getElem?_cons_succ, List.set_cons_zero, List.set_cons_succ, wipeL, tl0, tl1, tl2, tl3, tl4, tl5, tl6, Bool.not_true, Bool.not_false, decide_eq_true_eq, if_true, if_false, ite_true, ite_false, eq_self, Bool.false_eq_true, demand_eq F_demand]
  refine (is_word_ok F_is_word F_is_letters F_is_text hu.1 hu.2.1 hu.2.2).mono fun v S2 q => ?_
  obtain ⟨rfl, k2⟩ := q
  simp only [ev_var, ev_cst, ev_bin, ev_neg, ev_cmp, ev_chain', ev_and, ev_or, ev_not, ev_ite, ev_tup, ev_lst, ev_ix, ev_sl, ev_call, ev_bt, ev_mt, ev_isi, ev_lc, ev_nil, ev_cons, ev_onone, ev_osome, ev_cnone, ev_csome, ev_ie, ev_rng, ev_enu, asT, ex_asg, ex_asgS, ex_par, ex_aug, ex_ite, ex_whl, ex_for, ex_expr, ex_ret, ex_retN, ex_pass, ex_brk, ex_cont, ex_never, ex_nil, ex_cons', W_ok, W_bind, fin_ret, fin_next, chK_bl, sq_next, sq_ret, sq_brk, sq_cont, bnd_ok, b_add, b_sub, i_add, i_sub, c_lt, c_le, c_gt, c_ge, c_eq, c_ne, c_eqs, c_nes, c_eqb, t_bl, t_int, t_non, p_int, f_int, as_n, as_t2, as_t3, setMany, getL, List.getElem?_cons_zero, List.getElem?_cons_succ, List.set_cons_zero, List.set_cons_succ, wipeL, tl0, tl1, tl2, tl3, tl4, tl5, tl6, Bool.not_true, Bool.not_false, decide_eq_true_eq, if_true, if_false, ite_true, ite_false, eq_self, Bool.false_eq_true, demand_eq F_demand, unchecked_eq hw, unchecked_eq hu]
  exact ⟨trivial, k1.trans k2⟩
/-! ### the law's own -/
def ru (w : List Nat) : Nat → List Nat × Nat
  | 0 => ([w.getD 0 0], 0)
  | m + 1 => run w m
theorem bigI {n : Int} (h0 : -4000000000 ≤ n) (h1 : n ≤ 4000000000) : -big62 ≤ n ∧ n < big62 := by unfold big62; omega
theorem cT_succ (c t : Nat) : cT c (t + 1) = if c ∈ CL.getD t [] then t + 1 else cT c t := by
  unfold cT
  rw [List.range_succ, List.foldl_append]; rfl
theorem law_sound_ok {w : List Nat} (hw : Word w) : W (callN fs fu (k + 1) 13 [.str w] S) (fun v S' => v = .str (sound w) ∧ Mp.Sub S S') := by
  have hl : w.length ≤ lim := by have := hw.2.2; unfold lim; omega
  have h0 := hw.2.1
  have hll := hw.2.2
  refine W_fn2 F__law_sound rfl rfl ?_; simp only [List.map_cons, List.map_nil, List.length_cons, List.length_nil, List.cons_append, List.nil_append, List.append_nil, List.replicate_succ, List.replicate_zero, Nat.reduceAdd, Nat.reduceSub, Nat.zero_add]
  unfold B__law_sound
  have hix := fun S : Store => ix_str (S := S) (i := 0) hl (by decide) (by omega)
  rw [show (0 : Int).toNat = 0 from rfl] at hix
  simp only [ev_var, ev_cst, ev_bin, ev_neg, ev_cmp, ev_chain', ev_and, ev_or, ev_not, ev_ite, ev_tup, ev_lst, ev_ix, ev_sl, ev_call, ev_bt, ev_mt, ev_isi, ev_lc, ev_nil, ev_cons, ev_onone, ev_osome, ev_cnone, ev_csome, ev_ie, ev_rng, ev_enu, asT, ex_asg, ex_asgS, ex_par, ex_aug, ex_ite, ex_whl, ex_for, ex_expr, ex_ret, ex_retN, ex_pass, ex_brk, ex_cont, ex_never, ex_nil, ex_cons', W_ok, W_bind, fin_ret, fin_next, chK_bl, sq_next, sq_ret, sq_brk, sq_cont, bnd_ok, b_add, b_sub, i_add, i_sub, c_lt, c_le, c_gt, c_ge, c_eq, c_ne, c_eqs, c_nes, c_eqb, t_bl, t_int, t_non, p_int, f_int, as_n, as_t2, as_t3, setMany, getL, List.getElem?_cons_zero, List.getElem?_cons_succ, List.set_cons_zero, List.set_cons_succ, wipeL, tl0, tl1, tl2, tl3, tl4, tl5, tl6, Bool.not_true, Bool.not_false, decide_eq_true_eq, if_true, if_false, ite_true, ite_false, eq_self, Bool.false_eq_true, hix, f_lens hl]
  rw [show ([PV.str [98, 102, 112, 118], PV.str [99, 103, 106, 107, 113, 115, 120, 122], PV.str [100, 116], PV.str [108], PV.str [109, 110], PV.str [114]] : List PV) = CL.map PV.str from rfl]
  have hcl := at_push (S := S) (o := .lst (CL.map .str))
  have kc : Mp.Sub S (S ++ [.lst (CL.map .str)]) := .push
  generalize S.length = q at hcl ⊢
  generalize S ++ [SO.lst (CL.map PV.str)] = S1 at hcl kc ⊢
  refine W_r1 (bigI (by omega) (by omega)) ?_
  rw [Int.toNat_natCast]
  refine W_for0 (it := .vals (rngL 0 w.length)) (xs := rngL 0 w.length) (by exact rfl) (fun m ρ S' => S' = S1 ∧ ∃ z4 z5 z6, ρ = [some (.str w), some (.ref q), some (.str (ru w m).1), some (.int ((ru w m).2 : Nat)), z4, z5, z6]) ⟨rfl, _, _, _, rfl⟩ (fun _ _ _ _ => rfl) (fun m x ρ S2 hx hI => ?_) fun ρ S2 hI => ?_
  · obtain ⟨rfl, z4, z5, z6, rfl⟩ := hI
    obtain ⟨rfl, hm⟩ := rngL_get hx
    rw [show (0 : Int) + (m : Int) = (m : Int) by omega]
    have e0 : w[m]? = some (w.getD m 0) := by rw [List.getD_eq_getElem?_getD, List.getElem?_eq_getElem hm]; rfl
    generalize hc : w.getD m 0 = c at e0
    have hlow := hw.1 c (List.mem_of_getElem? e0)
    obtain ⟨f1, f2, f3⟩ := facts hlow
    have hixm : ∀ S : Store, ixV (.str w) (.int (m : Int)) S = .ok (.str [c]) S := fun S => by
      have := ix_str (S := S) (z := w) (i := (m : Int)) hl (by omega) (by omega)
      rw [Int.toNat_natCast, hc] at this
      exact this
    try simp only [ev_var, ev_cst, ev_bin, ev_neg, ev_cmp, ev_chain', ev_and, ev_or, ev_not, ev_ite, ev_tup, ev_lst, ev_ix, ev_sl, ev_call, ev_bt, ev_mt, ev_isi, ev_lc, ev_nil, ev_cons, ev_onone, ev_osome, ev_cnone, ev_csome, ev_ie, ev_rng, ev_enu, asT, ex_asg, ex_asgS, ex_par, ex_aug, ex_ite, ex_whl, ex_for, ex_expr, ex_ret, ex_retN, ex_pass, ex_brk, ex_cont, ex_never, ex_nil, ex_cons', W_ok, W_bind, fin_ret, fin_next, chK_bl, sq_next, sq_ret, sq_brk, sq_cont, bnd_ok, b_add, b_sub, i_add, i_sub, c_lt, c_le, c_gt, c_ge, c_eq, c_ne, c_eqs, c_nes, c_eqb, t_bl, t_int, t_non, p_int, f_int, as_n, as_t2, as_t3, setMany, getL, List.getElem?_cons_zero, List.getElem?_cons_succ, List.set_cons_zero, List.set_cons_succ, wipeL, tl0, tl1, tl2, tl3, tl4, tl5, tl6, Bool.not_true, Bool.not_false, decide_eq_true_eq, if_true, if_false, ite_true, ite_false, eq_self, Bool.false_eq_true]
    refine W_r1 (bigI (by omega) (by omega)) ?_
    refine W_for0 (it := .vals (rngL 0 6)) (xs := rngL 0 6) (by exact rfl) (fun t ρ S' => S' = S2 ∧ ∃ z6, ρ = [some (.str w), some (.ref q), some (.str (ru w m).1), some (.int ((ru w m).2 : Nat)), some (.int (m : Int)), some (.int ((cT c t : Nat) : Int)), z6]) ⟨rfl, _, rfl⟩ (fun _ _ _ _ => rfl) (fun t x ρ S3 hx hI => ?_) fun ρ S3 hI => ?_
    · obtain ⟨rfl, z6, rfl⟩ := hI
      obtain ⟨rfl, ht⟩ := rngL_get hx
      rw [show (0 : Int) + (t : Int) = (t : Int) by omega]
      have hcx : (CL.map PV.str)[((t : Nat) : Int).toNat]? = some (.str (CL.getD t [])) := by
        rw [Int.toNat_natCast, List.getElem?_map, List.getD_eq_getElem?_getD, List.getElem?_eq_getElem (show t < CL.length from ht)]; rfl
      simp only [ev_var, ev_cst, ev_bin, ev_neg, ev_cmp, ev_chain', ev_and, ev_or, ev_not, ev_ite, ev_tup, ev_lst, ev_ix, ev_sl, ev_call, ev_bt, ev_mt, ev_isi, ev_lc, ev_nil, ev_cons, ev_onone, ev_osome, ev_cnone, ev_csome, ev_ie, ev_rng, ev_enu, asT, ex_asg, ex_asgS, ex_par, ex_aug, ex_ite, ex_whl, ex_for, ex_expr, ex_ret, ex_retN, ex_pass, ex_brk, ex_cont, ex_never, ex_nil, ex_cons', W_ok, W_bind, fin_ret, fin_next, chK_bl, sq_next, sq_ret, sq_brk, sq_cont, bnd_ok, b_add, b_sub, i_add, i_sub, c_lt, c_le, c_gt, c_ge, c_eq, c_ne, c_eqs, c_nes, c_eqb, t_bl, t_int, t_non, p_int, f_int, as_n, as_t2, as_t3, setMany, getL, List.getElem?_cons_zero, List.getElem?_cons_succ, List.set_cons_zero, List.set_cons_succ, wipeL, tl0, tl1, tl2, tl3, tl4, tl5, tl6, Bool.not_true, Bool.not_false, decide_eq_true_eq, if_true, if_false, ite_true, ite_false, eq_self, Bool.false_eq_true, hixm, ix_at (items_ref hcl) (show (0 : Int) ≤ (t : Int) by omega) hcx, c_in1]
      rw [cT_succ]
      by_cases hin : c ∈ CL.getD t []
      · rw [if_pos hin, if_pos hin]
        try simp only [ev_var, ev_cst, ev_bin, ev_neg, ev_cmp, ev_chain', ev_and, ev_or, ev_not, ev_ite, ev_tup, ev_lst, ev_ix, ev_sl, ev_call, ev_bt, ev_mt, ev_isi, ev_lc, ev_nil, ev_cons, ev_onone, ev_osome, ev_cnone, ev_csome, ev_ie, ev_rng, ev_enu, asT, ex_asg, ex_asgS, ex_par, ex_aug, ex_ite, ex_whl, ex_for, ex_expr, ex_ret, ex_retN, ex_pass, ex_brk, ex_cont, ex_never, ex_nil, ex_cons', W_ok, W_bind, fin_ret, fin_next, chK_bl, sq_next, sq_ret, sq_brk, sq_cont, bnd_ok, b_add, b_sub, i_add, i_sub, c_lt, c_le, c_gt, c_ge, c_eq, c_ne, c_eqs, c_nes, c_eqb, t_bl, t_int, t_non, p_int, f_int, as_n, as_t2, as_t3, setMany, getL, List.getElem?_cons_zero, List.getElem?_cons_succ, List.set_cons_zero, List.set_cons_succ, wipeL, tl0, tl1, tl2, tl3, tl4, tl5, tl6, Bool.not_true, Bool.not_false, decide_eq_true_eq, if_true, if_false, ite_true, ite_false, eq_self, Bool.false_eq_true]
        exact ⟨trivial, _, rfl⟩
      · rw [if_neg hin, if_neg hin]
        try simp only [ev_var, ev_cst, ev_bin, ev_neg, ev_cmp, ev_chain', ev_and, ev_or, ev_not, ev_ite, ev_tup, ev_lst, ev_ix, ev_sl, ev_call, ev_bt, ev_mt, ev_isi, ev_lc, ev_nil, ev_cons, ev_onone, ev_osome, ev_cnone, ev_csome, ev_ie, ev_rng, ev_enu, asT, ex_asg, ex_asgS, ex_par, ex_aug, ex_ite, ex_whl, ex_for, ex_expr, ex_ret, ex_retN, ex_pass, ex_brk, ex_cont, ex_never, ex_nil, ex_cons', W_ok, W_bind, fin_ret, fin_next, chK_bl, sq_next, sq_ret, sq_brk, sq_cont, bnd_ok, b_add, b_sub, i_add, i_sub, c_lt, c_le, c_gt, c_ge, c_eq, c_ne, c_eqs, c_nes, c_eqb, t_bl, t_int, t_non, p_int, f_int, as_n, as_t2, as_t3, setMany, getL, List.getElem?_cons_zero, List.getElem?_cons_succ, List.set_cons_zero, List.set_cons_succ, wipeL, tl0, tl1, tl2, tl3, tl4, tl5, tl6, Bool.not_true, Bool.not_false, decide_eq_true_eq, if_true, if_false, ite_true, ite_false, eq_self, Bool.false_eq_true]
        exact ⟨trivial, _, rfl⟩
    · obtain ⟨rfl, z6, rfl⟩ := hI
      rw [rngL_len, f2]
      cases m with
      | zero =>
        have hc0 : w.getD 0 0 = c := hc
        have er : ru w (0 + 1) = ([c], cls c) := by show run w 0 = _; unfold run; rw [List.take_zero, hc0]; rfl
        have e0' : ru w 0 = ([c], 0) := by show ([w.getD 0 0], 0) = _; rw [hc0]
        rw [er, e0']
        by_cases hz : cls c = 0
        · have p1 : ((0 : Int) < ((cls c : Nat) : Int)) = False := by simp [hz]
          simp only [ev_var, ev_cst, ev_bin, ev_neg, ev_cmp, ev_chain', ev_and, ev_or, ev_not, ev_ite, ev_tup, ev_lst, ev_ix, ev_sl, ev_call, ev_bt, ev_mt, ev_isi, ev_lc, ev_nil, ev_cons, ev_onone, ev_osome, ev_cnone, ev_csome, ev_ie, ev_rng, ev_enu, asT, ex_asg, ex_asgS, ex_par, ex_aug, ex_ite, ex_whl, ex_for, ex_expr, ex_ret, ex_retN, ex_pass, ex_brk, ex_cont, ex_never, ex_nil, ex_cons', W_ok, W_bind, fin_ret, fin_next, chK_bl, sq_next, sq_ret, sq_brk, sq_cont, bnd_ok, b_add, b_sub, i_add, i_sub, c_lt, c_le, c_gt, c_ge, c_eq, c_ne, c_eqs, c_nes, c_eqb, t_bl, t_int, t_non, p_int, f_int, as_n, as_t2, as_t3, setMany, getL, List.getElem?_cons_zero, List.getElem?_cons_succ, List.set_cons_zero, List.set_cons_succ, wipeL, tl0, tl1, tl2, tl3, tl4, tl5, tl6, Bool.not_true, Bool.not_false, decide_eq_true_eq, if_true, if_false, ite_true, ite_false, eq_self, Bool.false_eq_true, p1, decide_false, hixm, c_in1]
          by_cases hv : c ∈ vows
          · rw [if_pos hv]
            try simp only [ev_var, ev_cst, ev_bin, ev_neg, ev_cmp, ev_chain', ev_and, ev_or, ev_not, ev_ite, ev_tup, ev_lst, ev_ix, ev_sl, ev_call, ev_bt, ev_mt, ev_isi, ev_lc, ev_nil, ev_cons, ev_onone, ev_osome, ev_cnone, ev_csome, ev_ie, ev_rng, ev_enu, asT, ex_asg, ex_asgS, ex_par, ex_aug, ex_ite, ex_whl, ex_for, ex_expr, ex_ret, ex_retN, ex_pass, ex_brk, ex_cont, ex_never, ex_nil, ex_cons', W_ok, W_bind, fin_ret, fin_next, chK_bl, sq_next, sq_ret, sq_brk, sq_cont, bnd_ok, b_add, b_sub, i_add, i_sub, c_lt, c_le, c_gt, c_ge, c_eq, c_ne, c_eqs, c_nes, c_eqb, t_bl, t_int, t_non, p_int, f_int, as_n, as_t2, as_t3, setMany, getL, List.getElem?_cons_zero, List.getElem?_cons_succ, List.set_cons_zero, List.set_cons_succ, wipeL, tl0, tl1, tl2, tl3, tl4, tl5, tl6, Bool.not_true, Bool.not_false, decide_eq_true_eq, if_true, if_false, ite_true, ite_false, eq_self, Bool.false_eq_true]
            refine ⟨trivial, some (.int ((0 : Nat) : Int)), some (.int ((cls c : Nat) : Int)), z6, ?_⟩
            rw [hz]; rfl
          · rw [if_neg hv]
            try simp only [ev_var, ev_cst, ev_bin, ev_neg, ev_cmp, ev_chain', ev_and, ev_or, ev_not, ev_ite, ev_tup, ev_lst, ev_ix, ev_sl, ev_call, ev_bt, ev_mt, ev_isi, ev_lc, ev_nil, ev_cons, ev_onone, ev_osome, ev_cnone, ev_csome, ev_ie, ev_rng, ev_enu, asT, ex_asg, ex_asgS, ex_par, ex_aug, ex_ite, ex_whl, ex_for, ex_expr, ex_ret, ex_retN, ex_pass, ex_brk, ex_cont, ex_never, ex_nil, ex_cons', W_ok, W_bind, fin_ret, fin_next, chK_bl, sq_next, sq_ret, sq_brk, sq_cont, bnd_ok, b_add, b_sub, i_add, i_sub, c_lt, c_le, c_gt, c_ge, c_eq, c_ne, c_eqs, c_nes, c_eqb, t_bl, t_int, t_non, p_int, f_int, as_n, as_t2, as_t3, setMany, getL, List.getElem?_cons_zero, List.getElem?_cons_succ, List.set_cons_zero, List.set_cons_succ, wipeL, tl0, tl1, tl2, tl3, tl4, tl5, tl6, Bool.not_true, Bool.not_false, decide_eq_true_eq, if_true, if_false, ite_true, ite_false, eq_self, Bool.false_eq_true]
            refine ⟨trivial, some (.int ((0 : Nat) : Int)), some (.int ((cls c : Nat) : Int)), z6, ?_⟩
            rw [hz]
        · have p1 : ((0 : Int) < ((cls c : Nat) : Int)) = True := eq_true (by omega)
          have p2 : (((cls c : Nat) : Int) = ((0 : Nat) : Int)) = False := eq_false (by omega)
          have p3 : ((0 : Int) < ((0 : Nat) : Int)) = False := eq_false (by decide)
          simp only [ev_var, ev_cst, ev_bin, ev_neg, ev_cmp, ev_chain', ev_and, ev_or, ev_not, ev_ite, ev_tup, ev_lst, ev_ix, ev_sl, ev_call, ev_bt, ev_mt, ev_isi, ev_lc, ev_nil, ev_cons, ev_onone, ev_osome, ev_cnone, ev_csome, ev_ie, ev_rng, ev_enu, asT, ex_asg, ex_asgS, ex_par, ex_aug, ex_ite, ex_whl, ex_for, ex_expr, ex_ret, ex_retN, ex_pass, ex_brk, ex_cont, ex_never, ex_nil, ex_cons', W_ok, W_bind, fin_ret, fin_next, chK_bl, sq_next, sq_ret, sq_brk, sq_cont, bnd_ok, b_add, b_sub, i_add, i_sub, c_lt, c_le, c_gt, c_ge, c_eq, c_ne, c_eqs, c_nes, c_eqb, t_bl, t_int, t_non, p_int, f_int, as_n, as_t2, as_t3, setMany, getL, List.getElem?_cons_zero, List.getElem?_cons_succ, List.set_cons_zero, List.set_cons_succ, wipeL, tl0, tl1, tl2, tl3, tl4, tl5, tl6, Bool.not_true, Bool.not_false, decide_eq_true_eq, if_true, if_false, ite_true, ite_false, eq_self, Bool.false_eq_true, p1, p2, p3, decide_true, decide_false]
          exact ⟨trivial, _, _, _, rfl⟩
      | succ m =>
        have hdm : (w.drop 1)[m]? = some c := by rw [List.getElem?_drop, Nat.add_comm]; exact e0
        have er : ru w (m + 1 + 1) = stp (run w m) c := run_succ hdm
        have hrl := run_len w m
        rw [er, show ru w (m + 1) = run w m from rfl]
        unfold stp
        by_cases hz : cls c = 0
        · have p1 : ((0 : Int) < ((cls c : Nat) : Int)) = False := by simp [hz]
          simp only [ev_var, ev_cst, ev_bin, ev_neg, ev_cmp, ev_chain', ev_and, ev_or, ev_not, ev_ite, ev_tup, ev_lst, ev_ix, ev_sl, ev_call, ev_bt, ev_mt, ev_isi, ev_lc, ev_nil, ev_cons, ev_onone, ev_osome, ev_cnone, ev_csome, ev_ie, ev_rng, ev_enu, asT, ex_asg, ex_asgS, ex_par, ex_aug, ex_ite, ex_whl, ex_for, ex_expr, ex_ret, ex_retN, ex_pass, ex_brk, ex_cont, ex_never, ex_nil, ex_cons', W_ok, W_bind, fin_ret, fin_next, chK_bl, sq_next, sq_ret, sq_brk, sq_cont, bnd_ok, b_add, b_sub, i_add, i_sub, c_lt, c_le, c_gt, c_ge, c_eq, c_ne, c_eqs, c_nes, c_eqb, t_bl, t_int, t_non, p_int, f_int, as_n, as_t2, as_t3, setMany, getL, List.getElem?_cons_zero, List.getElem?_cons_succ, List.set_cons_zero, List.set_cons_succ, wipeL, tl0, tl1, tl2, tl3, tl4, tl5, tl6, Bool.not_true, Bool.not_false, decide_eq_true_eq, if_true, if_false, ite_true, ite_false, eq_self, Bool.false_eq_true, p1, decide_false, hixm, c_in1]
          by_cases hv : c ∈ vows
          · rw [if_pos hv, if_pos hv]
            try simp only [ev_var, ev_cst, ev_bin, ev_neg, ev_cmp, ev_chain', ev_and, ev_or, ev_not, ev_ite, ev_tup, ev_lst, ev_ix, ev_sl, ev_call, ev_bt, ev_mt, ev_isi, ev_lc, ev_nil, ev_cons, ev_onone, ev_osome, ev_cnone, ev_csome, ev_ie, ev_rng, ev_enu, asT, ex_asg, ex_asgS, ex_par, ex_aug, ex_ite, ex_whl, ex_for, ex_expr, ex_ret, ex_retN, ex_pass, ex_brk, ex_cont, ex_never, ex_nil, ex_cons', W_ok, W_bind, fin_ret, fin_next, chK_bl, sq_next, sq_ret, sq_brk, sq_cont, bnd_ok, b_add, b_sub, i_add, i_sub, c_lt, c_le, c_gt, c_ge, c_eq, c_ne, c_eqs, c_nes, c_eqb, t_bl, t_int, t_non, p_int, f_int, as_n, as_t2, as_t3, setMany, getL, List.getElem?_cons_zero, List.getElem?_cons_succ, List.set_cons_zero, List.set_cons_succ, wipeL, tl0, tl1, tl2, tl3, tl4, tl5, tl6, Bool.not_true, Bool.not_false, decide_eq_true_eq, if_true, if_false, ite_true, ite_false, eq_self, Bool.false_eq_true]
            exact ⟨trivial, _, _, _, rfl⟩
          · rw [if_neg hv, if_neg hv, if_pos hz]
            try simp only [ev_var, ev_cst, ev_bin, ev_neg, ev_cmp, ev_chain', ev_and, ev_or, ev_not, ev_ite, ev_tup, ev_lst, ev_ix, ev_sl, ev_call, ev_bt, ev_mt, ev_isi, ev_lc, ev_nil, ev_cons, ev_onone, ev_osome, ev_cnone, ev_csome, ev_ie, ev_rng, ev_enu, asT, ex_asg, ex_asgS, ex_par, ex_aug, ex_ite, ex_whl, ex_for, ex_expr, ex_ret, ex_retN, ex_pass, ex_brk, ex_cont, ex_never, ex_nil, ex_cons', W_ok, W_bind, fin_ret, fin_next, chK_bl, sq_next, sq_ret, sq_brk, sq_cont, bnd_ok, b_add, b_sub, i_add, i_sub, c_lt, c_le, c_gt, c_ge, c_eq, c_ne, c_eqs, c_nes, c_eqb, t_bl, t_int, t_non, p_int, f_int, as_n, as_t2, as_t3, setMany, getL, List.getElem?_cons_zero, List.getElem?_cons_succ, List.set_cons_zero, List.set_cons_succ, wipeL, tl0, tl1, tl2, tl3, tl4, tl5, tl6, Bool.not_true, Bool.not_false, decide_eq_true_eq, if_true, if_false, ite_true, ite_false, eq_self, Bool.false_eq_true]
            exact ⟨trivial, _, _, _, rfl⟩
        · have hv : ¬c ∈ vows := fun h => hz (f1 h)
          have p1 : ((0 : Int) < ((cls c : Nat) : Int)) = True := eq_true (by omega)
          have p3 : ((0 : Int) < ((m + 1 : Nat) : Int)) = True := eq_true (by omega)
          rw [if_neg hv, if_neg hz]
          by_cases he : cls c = (run w m).2
          · have p2 : (((cls c : Nat) : Int) = (((run w m).2 : Nat) : Int)) = True := eq_true (by omega)
            rw [if_pos he]
            simp only [ev_var, ev_cst, ev_bin, ev_neg, ev_cmp, ev_chain', ev_and, ev_or, ev_not, ev_ite, ev_tup, ev_lst, ev_ix, ev_sl, ev_call, ev_bt, ev_mt, ev_isi, ev_lc, ev_nil, ev_cons, ev_onone, ev_osome, ev_cnone, ev_csome, ev_ie, ev_rng, ev_enu, asT, ex_asg, ex_asgS, ex_par, ex_aug, ex_ite, ex_whl, ex_for, ex_expr, ex_ret, ex_retN, ex_pass, ex_brk, ex_cont, ex_never, ex_nil, ex_cons', W_ok, W_bind, fin_ret, fin_next, chK_bl, sq_next, sq_ret, sq_brk, sq_cont, bnd_ok, b_add, b_sub, i_add, i_sub, c_lt, c_le, c_gt, c_ge, c_eq, c_ne, c_eqs, c_nes, c_eqb, t_bl, t_int, t_non, p_int, f_int, as_n, as_t2, as_t3, setMany, getL, List.getElem?_cons_zero, List.getElem?_cons_succ, List.set_cons_zero, List.set_cons_succ, wipeL, tl0, tl1, tl2, tl3, tl4, tl5, tl6, Bool.not_true, Bool.not_false, decide_eq_true_eq, if_true, if_false, ite_true, ite_false, eq_self, Bool.false_eq_true, p1, p2, p3, decide_true]
            exact ⟨trivial, _, _, _, rfl⟩
          · have p2 : (((cls c : Nat) : Int) = (((run w m).2 : Nat) : Int)) = False := eq_false (by omega)
            rw [if_neg he]
            simp only [ev_var, ev_cst, ev_bin, ev_neg, ev_cmp, ev_chain', ev_and, ev_or, ev_not, ev_ite, ev_tup, ev_lst, ev_ix, ev_sl, ev_call, ev_bt, ev_mt, ev_isi, ev_lc, ev_nil, ev_cons, ev_onone, ev_osome, ev_cnone, ev_csome, ev_ie, ev_rng, ev_enu, asT, ex_asg, ex_asgS, ex_par, ex_aug, ex_ite, ex_whl, ex_for, ex_expr, ex_ret, ex_retN, ex_pass, ex_brk, ex_cont, ex_never, ex_nil, ex_cons', W_ok, W_bind, fin_ret, fin_next, chK_bl, sq_next, sq_ret, sq_brk, sq_cont, bnd_ok, b_add, b_sub, i_add, i_sub, c_lt, c_le, c_gt, c_ge, c_eq, c_ne, c_eqs, c_nes, c_eqb, t_bl, t_int, t_non, p_int, f_int, as_n, as_t2, as_t3, setMany, getL, List.getElem?_cons_zero, List.getElem?_cons_succ, List.set_cons_zero, List.set_cons_succ, wipeL, tl0, tl1, tl2, tl3, tl4, tl5, tl6, Bool.not_true, Bool.not_false, decide_eq_true_eq, if_true, if_false, ite_true, ite_false, eq_self, Bool.false_eq_true, p1, p2, p3, decide_true, decide_false, f_str6 (show 1 ≤ cls c by omega) f3, b_addS (show (run w m).1.length + [48 + cls c].length ≤ lim by show _ + 1 ≤ _; unfold lim; omega)]
            exact ⟨trivial, _, _, _, rfl⟩
  · obtain ⟨rfl, z4, z5, z6, rfl⟩ := hI
    rw [rngL_len]
    have hrl := run_len w (w.length - 1)
    have er : ru w w.length = run w (w.length - 1) := by
      have : w.length = (w.length - 1) + 1 := by omega
      rw [this]; rfl
    rw [er]
    simp only [ev_var, ev_cst, ev_bin, ev_neg, ev_cmp, ev_chain', ev_and, ev_or, ev_not, ev_ite, ev_tup, ev_lst, ev_ix, ev_sl, ev_call, ev_bt, ev_mt, ev_isi, ev_lc, ev_nil, ev_cons, ev_onone, ev_osome, ev_cnone, ev_csome, ev_ie, ev_rng, ev_enu, asT, ex_asg, ex_asgS, ex_par, ex_aug, ex_ite, ex_whl, ex_for, ex_expr, ex_ret, ex_retN, ex_pass, ex_brk, ex_cont, ex_never, ex_nil, ex_cons', W_ok, W_bind, fin_ret, fin_next, chK_bl, sq_next, sq_ret, sq_brk, sq_cont, bnd_ok, b_add, b_sub, i_add, i_sub, c_lt, c_le, c_gt, c_ge, c_eq, c_ne, c_eqs, c_nes, c_eqb, t_bl, t_int, t_non, p_int, f_int, as_n, as_t2, as_t3, setMany, getL, List.getElem?_cons_zero, List.getElem?_cons_succ, List.set_cons_zero, List.set_cons_succ, wipeL, tl0, tl1, tl2, tl3, tl4, tl5, tl6, Bool.not_true, Bool.not_false, decide_eq_true_eq, if_true, if_false, ite_true, ite_false, eq_self, Bool.false_eq_true, b_addS (show (run w (w.length - 1)).1.length + [48, 48, 48].length ≤ lim by show _ + 3 ≤ _; unfold lim; omega), sl_str (show ((run w (w.length - 1)).1 ++ [48, 48, 48]).length ≤ lim by rw [List.length_append]; show _ + 3 ≤ _; unfold lim; omega), cut_4]
    refine ⟨?_, kc⟩
    unfold sound
    have hpad : ∀ X : List Nat, 1 ≤ X.length → (X ++ [48, 48, 48]).take 4 = X.take 4 ++ List.replicate (4 - (X.take 4).length) 48 := by
      intro X hX
      rw [List.take_append]
      congr 1
      rw [List.length_take]
      have : X.length = 1 ∨ X.length = 2 ∨ X.length = 3 ∨ 4 ≤ X.length := by omega
      rcases this with h | h | h | h
      · rw [h]; rfl
      · rw [h]; rfl
      · rw [h]; rfl
      · rw [show 4 - X.length = 0 by omega, Nat.min_eq_left h]; rfl
    rw [hpad _ hrl.2]
theorem lt_of_at {S : Store} {n : Nat} {o : SO} (h : S[n]? = some o) : n < S.length := (List.getElem?_eq_some_iff.mp h).1
theorem spot_lt {R : List Int} {rw_ sp : Nat} (D : Dr R rw_ sp S) : sp < S.length := by obtain ⟨s, h⟩ := D.spot; exact lt_of_at h
theorem pickS_ok {R : List Int} (D : Dr R 0 2 S) {z : List Nat} (h0 : 0 < z.length) (hl : z.length ≤ lim) :
    W (callN fs fu (k + 3) 12 [.ref 0, .ref 2, .str z] S) (fun v S' => (∃ c, c ∈ z ∧ v = .str [c]) ∧ Dr R 0 2 S' ∧ Ks 2 S S') := by
  refine W_fn2 F__law_pick rfl rfl ?_; simp only [List.map_cons, List.map_nil, List.length_cons, List.length_nil, List.cons_append, List.nil_append, List.append_nil, List.replicate_succ, List.replicate_zero, Nat.reduceAdd, Nat.reduceSub, Nat.zero_add]
  unfold bPick
  simp only [ev_var, ev_cst, ev_bin, ev_neg, ev_cmp, ev_chain', ev_and, ev_or, ev_not, ev_ite, ev_tup, ev_lst, ev_ix, ev_sl, ev_call, ev_bt, ev_mt, ev_isi, ev_lc, ev_nil, ev_cons, ev_onone, ev_osome, ev_cnone, ev_csome, ev_ie, ev_rng, ev_enu, asT, ex_asg, ex_asgS, ex_par, ex_aug, ex_ite, ex_whl, ex_for, ex_expr, ex_ret, ex_retN, ex_pass, ex_brk, ex_cont, ex_never, ex_nil, ex_cons', W_ok, W_bind, fin_ret, fin_next, chK_bl, sq_next, sq_ret, sq_brk, sq_cont, bnd_ok, b_add, b_sub, i_add, i_sub, c_lt, c_le, c_gt, c_ge, c_eq, c_ne, c_eqs, c_nes, c_eqb, t_bl, t_int, t_non, p_int, f_int, as_n, as_t2, as_t3, setMany, getL, List.getElem?_cons_zero, List.getElem?_cons_succ, List.set_cons_zero, List.set_cons_succ, wipeL, tl0, tl1, tl2, tl3, tl4, tl5, tl6, Bool.not_true, Bool.not_false, decide_eq_true_eq, if_true, if_false, ite_true, ite_false, eq_self, Bool.false_eq_true, f_lens hl]
  refine (take_ok F__law_take F__law_draw D (show (0 : Int) < z.length by omega)).mono fun v S1 q => ?_
  obtain ⟨d, rfl, hd0, hd1, D1, k1⟩ := q
  simp only [ev_var, ev_cst, ev_bin, ev_neg, ev_cmp, ev_chain', ev_and, ev_or, ev_not, ev_ite, ev_tup, ev_lst, ev_ix, ev_sl, ev_call, ev_bt, ev_mt, ev_isi, ev_lc, ev_nil, ev_cons, ev_onone, ev_osome, ev_cnone, ev_csome, ev_ie, ev_rng, ev_enu, asT, ex_asg, ex_asgS, ex_par, ex_aug, ex_ite, ex_whl, ex_for, ex_expr, ex_ret, ex_retN, ex_pass, ex_brk, ex_cont, ex_never, ex_nil, ex_cons', W_ok, W_bind, fin_ret, fin_next, chK_bl, sq_next, sq_ret, sq_brk, sq_cont, bnd_ok, b_add, b_sub, i_add, i_sub, c_lt, c_le, c_gt, c_ge, c_eq, c_ne, c_eqs, c_nes, c_eqb, t_bl, t_int, t_non, p_int, f_int, as_n, as_t2, as_t3, setMany, getL, List.getElem?_cons_zero, List.getElem?_cons_succ, List.set_cons_zero, List.set_cons_succ, wipeL, tl0, tl1, tl2, tl3, tl4, tl5, tl6, Bool.not_true, Bool.not_false, decide_eq_true_eq, if_true, if_false, ite_true, ite_false, eq_self, Bool.false_eq_true, ix_str hl hd0 hd1]
  refine ⟨⟨z.getD d.toNat 0, ?_, rfl⟩, D1, k1⟩
  have e : z[d.toNat]? = some (z.getD d.toNat 0) := by rw [List.getD_eq_getElem?_getD, List.getElem?_eq_getElem (by omega)]; rfl
  exact List.mem_of_getElem? e
theorem strsOf_one : ∀ cs : List Nat, strsOf (cs.map fun c => PV.str [c]) = some (cs.map fun c => [c])
  | [] => rfl
  | c :: cs => by
    show strsOf (.str [c] :: cs.map fun c => PV.str [c]) = _
    unfold strsOf
    rw [strsOf_one cs]; rfl
theorem joinS_one (cs : List Nat) : joinS [] (cs.map fun c => [c]) = cs := by
  cases cs with
  | nil => rfl
  | cons c cs =>
    unfold joinS
    rw [List.map_cons, List.headD_cons]
    show (cs.map fun c => [c]).foldl _ [c] = _
    have : ∀ (l : List Nat) (acc : List Nat), (l.map fun c => [c]).foldl (fun acc q => acc ++ [] ++ q) acc = acc ++ l := by
      intro l
      induction l with
      | nil => intro acc; simp
      | cons x l ih => intro acc; rw [List.map_cons, List.foldl_cons, ih]; simp
    rw [this]; rfl
theorem m_join {n : Nat} {cs : List Nat} (h : S[n]? = some (.lst (cs.map fun c => PV.str [c]))) (hl : cs.length ≤ 100) : mtF .join (.str []) [.ref n] S = .ok (.str cs) S := by
  show joinM (.str []) [.ref n] S = _
  unfold joinM
  dsimp only
  rw [items_ref h, Option.bind_some, strsOf_one]
  dsimp only
  have hs : ((cs.map fun c => [c]).map List.length).sum = cs.length := by
    rw [List.map_map]
    have : ∀ l : List Nat, (l.map (List.length ∘ fun c => [c])).sum = l.length := by
      intro l
      induction l with
      | nil => rfl
      | cons x l ih => rw [List.map_cons, List.sum_cons, ih, List.length_cons]; show 1 + _ = _; omega
    exact this cs
  rw [if_pos (by rw [hs]; show _ + _ * 0 ≤ _; omega), joinS_one]
theorem signs_map : ∀ {ys : List PV}, (∀ y, y ∈ ys → ∃ c, y = .str [c] ∧ 97 ≤ c ∧ c ≤ 122) → ∃ cs : List Nat, ys = (cs.map fun c => PV.str [c]) ∧ Low cs
  | [], _ => ⟨[], rfl, fun c hc => by cases hc⟩
  | y :: ys, h => by
    obtain ⟨d, rfl, hd⟩ := h y (List.mem_cons_self ..)
    obtain ⟨ns, rfl, hn⟩ := signs_map fun z hz => h z (List.mem_cons_of_mem _ hz)
    refine ⟨d :: ns, rfl, fun n hn' => ?_⟩
    rcases List.mem_cons.mp hn' with rfl | hn'
    · exact hd
    · exact hn n hn'
theorem abc_low : ∀ c, c ∈ abc → 97 ≤ c ∧ c ≤ 122 := by decide
abbrev told : List (List Nat) := [[112, 102, 105, 115, 116, 101, 114], [97, 115, 104, 99, 114, 97, 102, 116], [116, 121, 109, 99, 122, 97, 107], [108, 108, 111, 121, 100], [98, 98], [97], [104, 119, 98]]
theorem told_ok : ∀ w, w ∈ told → Word w := by
  intro w hw
  simp only [told, List.mem_cons, List.not_mem_nil, or_false] at hw
  rcases hw with rfl | rfl | rfl | rfl | rfl | rfl | rfl <;> exact ⟨by unfold Low; decide, by decide, by decide⟩
theorem pure_ : Pure 1000 100 := by
  intro ns hns
  have key : W (callN fs 1000 100 14 [.ltc (ns.map .int)] []) (fun v _ => v = .bl true) := by
    refine W_fn2 F_law rfl rfl ?_; simp only [List.map_cons, List.map_nil, List.length_cons, List.length_nil, List.cons_append, List.nil_append, List.append_nil, List.replicate_succ, List.replicate_zero, Nat.reduceAdd, Nat.reduceSub, Nat.zero_add]
    unfold B_law
    try simp only [ev_var, ev_cst, ev_bin, ev_neg, ev_cmp, ev_chain', ev_and, ev_or, ev_not, ev_ite, ev_tup, ev_lst, ev_ix, ev_sl, ev_call, ev_bt, ev_mt, ev_isi, ev_lc, ev_nil, ev_cons, ev_onone, ev_osome, ev_cnone, ev_csome, ev_ie, ev_rng, ev_enu, asT, ex_asg, ex_asgS, ex_par, ex_aug, ex_ite, ex_whl, ex_for, ex_expr, ex_ret, ex_retN, ex_pass, ex_brk, ex_cont, ex_never, ex_nil, ex_cons', W_ok, W_bind, fin_ret, fin_next, chK_bl, sq_next, sq_ret, sq_brk, sq_cont, bnd_ok, b_add, b_sub, i_add, i_sub, c_lt, c_le, c_gt, c_ge, c_eq, c_ne, c_eqs, c_nes, c_eqb, t_bl, t_int, t_non, p_int, f_int, as_n, as_t2, as_t3, setMany, getL, List.getElem?_cons_zero, List.getElem?_cons_succ, List.set_cons_zero, List.set_cons_succ, wipeL, tl0, tl1, tl2, tl3, tl4, tl5, tl6, Bool.not_true, Bool.not_false, decide_eq_true_eq, if_true, if_false, ite_true, ite_false, eq_self, Bool.false_eq_true]
    refine (numbers_ok F__law_numbers hns).mono fun v S1 q => ?_
    obtain ⟨R, ys, rfl, hR, rfl⟩ := q
    simp only [ev_var, ev_cst, ev_bin, ev_neg, ev_cmp, ev_chain', ev_and, ev_or, ev_not, ev_ite, ev_tup, ev_lst, ev_ix, ev_sl, ev_call, ev_bt, ev_mt, ev_isi, ev_lc, ev_nil, ev_cons, ev_onone, ev_osome, ev_cnone, ev_csome, ev_ie, ev_rng, ev_enu, asT, ex_asg, ex_asgS, ex_par, ex_aug, ex_ite, ex_whl, ex_for, ex_expr, ex_ret, ex_retN, ex_pass, ex_brk, ex_cont, ex_never, ex_nil, ex_cons', W_ok, W_bind, fin_ret, fin_next, chK_bl, sq_next, sq_ret, sq_brk, sq_cont, bnd_ok, b_add, b_sub, i_add, i_sub, c_lt, c_le, c_gt, c_ge, c_eq, c_ne, c_eqs, c_nes, c_eqb, t_bl, t_int, t_non, p_int, f_int, as_n, as_t2, as_t3, setMany, getL, List.getElem?_cons_zero, List.getElem?_cons_succ, List.set_cons_zero, List.set_cons_succ, wipeL, tl0, tl1, tl2, tl3, tl4, tl5, tl6, Bool.not_true, Bool.not_false, decide_eq_true_eq, if_true, if_false, ite_true, ite_false, eq_self, Bool.false_eq_true, List.length_cons, List.length_nil, List.cons_append, List.nil_append, Nat.reduceAdd]
    have D0 : Dr R 0 2 [.lst (R.map .int), .lst ys, .lst [.int 0], .lst []] := ⟨rfl, hR, by decide, 0, rfl⟩
    refine W_r1 (bigI (by decide) (by decide)) ?_
    refine W_for0 (it := .vals (rngL 0 3)) (xs := rngL 0 3) (by exact rfl) (fun m ρ S' => Dr R 0 2 S' ∧ (∃ ws : List (List Nat), S'[3]? = some (.lst (ws.map .str)) ∧ ws.length ≤ m ∧ ∀ w, w ∈ ws → Word w) ∧ ∃ z4, ρ = [some (.ltc (ns.map .int)), some (.ref 0), some (.ref 2), some (.ref 3), z4, none, none, none, none])
      ⟨D0, ⟨[], rfl, Nat.le_refl _, fun w hw => by cases hw⟩, _, rfl⟩ (fun _ _ _ _ => rfl) (fun m x ρ S1 hx hI => ?_) fun ρ S1 hI => ?_
    · obtain ⟨D1, ⟨ws, hws, hwl, hww⟩, z4, rfl⟩ := hI
      obtain ⟨rfl, hm⟩ := rngL_get hx
      simp only [ev_var, ev_cst, ev_bin, ev_neg, ev_cmp, ev_chain', ev_and, ev_or, ev_not, ev_ite, ev_tup, ev_lst, ev_ix, ev_sl, ev_call, ev_bt, ev_mt, ev_isi, ev_lc, ev_nil, ev_cons, ev_onone, ev_osome, ev_cnone, ev_csome, ev_ie, ev_rng, ev_enu, asT, ex_asg, ex_asgS, ex_par, ex_aug, ex_ite, ex_whl, ex_for, ex_expr, ex_ret, ex_retN, ex_pass, ex_brk, ex_cont, ex_never, ex_nil, ex_cons', W_ok, W_bind, fin_ret, fin_next, chK_bl, sq_next, sq_ret, sq_brk, sq_cont, bnd_ok, b_add, b_sub, i_add, i_sub, c_lt, c_le, c_gt, c_ge, c_eq, c_ne, c_eqs, c_nes, c_eqb, t_bl, t_int, t_non, p_int, f_int, as_n, as_t2, as_t3, setMany, getL, List.getElem?_cons_zero, List.getElem?_cons_succ, List.set_cons_zero, List.set_cons_succ, wipeL, tl0, tl1, tl2, tl3, tl4, tl5, tl6, Bool.not_true, Bool.not_false, decide_eq_true_eq, if_true, if_false, ite_true, ite_false, eq_self, Bool.false_eq_true, mtTy, ty_ref hws]
      simp only [ev_var, ev_cst, ev_bin, ev_neg, ev_cmp, ev_chain', ev_and, ev_or, ev_not, ev_ite, ev_tup, ev_lst, ev_ix, ev_sl, ev_call, ev_bt, ev_mt, ev_isi, ev_lc, ev_nil, ev_cons, ev_onone, ev_osome, ev_cnone, ev_csome, ev_ie, ev_rng, ev_enu, asT, ex_asg, ex_asgS, ex_par, ex_aug, ex_ite, ex_whl, ex_for, ex_expr, ex_ret, ex_retN, ex_pass, ex_brk, ex_cont, ex_never, ex_nil, ex_cons', W_ok, W_bind, fin_ret, fin_next, chK_bl, sq_next, sq_ret, sq_brk, sq_cont, bnd_ok, b_add, b_sub, i_add, i_sub, c_lt, c_le, c_gt, c_ge, c_eq, c_ne, c_eqs, c_nes, c_eqb, t_bl, t_int, t_non, p_int, f_int, as_n, as_t2, as_t3, setMany, getL, List.getElem?_cons_zero, List.getElem?_cons_succ, List.set_cons_zero, List.set_cons_succ, wipeL, tl0, tl1, tl2, tl3, tl4, tl5, tl6, Bool.not_true, Bool.not_false, decide_eq_true_eq, if_true, if_false, ite_true, ite_false, eq_self, Bool.false_eq_true, tyOf]
      refine (take_ok F__law_take F__law_draw D1 (show (0 : Int) < 8 by decide)).mono fun v S2 q => ?_
      obtain ⟨n, rfl, hn0, hn1, D2, k2⟩ := q
      have hws := k2 _ _ (by decide) hws
      try simp only [ev_var, ev_cst, ev_bin, ev_neg, ev_cmp, ev_chain', ev_and, ev_or, ev_not, ev_ite, ev_tup, ev_lst, ev_ix, ev_sl, ev_call, ev_bt, ev_mt, ev_isi, ev_lc, ev_nil, ev_cons, ev_onone, ev_osome, ev_cnone, ev_csome, ev_ie, ev_rng, ev_enu, asT, ex_asg, ex_asgS, ex_par, ex_aug, ex_ite, ex_whl, ex_for, ex_expr, ex_ret, ex_retN, ex_pass, ex_brk, ex_cont, ex_never, ex_nil, ex_cons', W_ok, W_bind, fin_ret, fin_next, chK_bl, sq_next, sq_ret, sq_brk, sq_cont, bnd_ok, b_add, b_sub, i_add, i_sub, c_lt, c_le, c_gt, c_ge, c_eq, c_ne, c_eqs, c_nes, c_eqb, t_bl, t_int, t_non, p_int, f_int, as_n, as_t2, as_t3, setMany, getL, List.getElem?_cons_zero, List.getElem?_cons_succ, List.set_cons_zero, List.set_cons_succ, wipeL, tl0, tl1, tl2, tl3, tl4, tl5, tl6, Bool.not_true, Bool.not_false, decide_eq_true_eq, if_true, if_false, ite_true, ite_false, eq_self, Bool.false_eq_true]
      refine W_r1 (bigI (by omega) (by omega)) ?_
      refine (W_lcD (p := fun n => n ≠ 2) (it := .vals (rngL 0 (1 + n).toNat)) (xs := rngL 0 (1 + n).toNat) (Dr R 0 2) (fun y => ∃ c, y = .str [c] ∧ 97 ≤ c ∧ c ≤ 122) D2 rfl trivial (by rw [rngL_len]; unfold lim; omega) fun x hx S3 D3 k3 => ?_).mono fun cs S3 q => ?_
      · try simp only [ev_var, ev_cst, ev_bin, ev_neg, ev_cmp, ev_chain', ev_and, ev_or, ev_not, ev_ite, ev_tup, ev_lst, ev_ix, ev_sl, ev_call, ev_bt, ev_mt, ev_isi, ev_lc, ev_nil, ev_cons, ev_onone, ev_osome, ev_cnone, ev_csome, ev_ie, ev_rng, ev_enu, asT, ex_asg, ex_asgS, ex_par, ex_aug, ex_ite, ex_whl, ex_for, ex_expr, ex_ret, ex_retN, ex_pass, ex_brk, ex_cont, ex_never, ex_nil, ex_cons', W_ok, W_bind, fin_ret, fin_next, chK_bl, sq_next, sq_ret, sq_brk, sq_cont, bnd_ok, b_add, b_sub, i_add, i_sub, c_lt, c_le, c_gt, c_ge, c_eq, c_ne, c_eqs, c_nes, c_eqb, t_bl, t_int, t_non, p_int, f_int, as_n, as_t2, as_t3, setMany, getL, List.getElem?_cons_zero, List.getElem?_cons_succ, List.set_cons_zero, List.set_cons_succ, wipeL, tl0, tl1, tl2, tl3, tl4, tl5, tl6, Bool.not_true, Bool.not_false, decide_eq_true_eq, if_true, if_false, ite_true, ite_false, eq_self, Bool.false_eq_true]
        refine (pickS_ok D3 (show 0 < abc.length by decide) (by decide)).mono fun v S4 q => ?_
        obtain ⟨⟨c, hc, rfl⟩, D4, k4⟩ := q
        try simp only [ev_var, ev_cst, ev_bin, ev_neg, ev_cmp, ev_chain', ev_and, ev_or, ev_not, ev_ite, ev_tup, ev_lst, ev_ix, ev_sl, ev_call, ev_bt, ev_mt, ev_isi, ev_lc, ev_nil, ev_cons, ev_onone, ev_osome, ev_cnone, ev_csome, ev_ie, ev_rng, ev_enu, asT, ex_asg, ex_asgS, ex_par, ex_aug, ex_ite, ex_whl, ex_for, ex_expr, ex_ret, ex_retN, ex_pass, ex_brk, ex_cont, ex_never, ex_nil, ex_cons', W_ok, W_bind, fin_ret, fin_next, chK_bl, sq_next, sq_ret, sq_brk, sq_cont, bnd_ok, b_add, b_sub, i_add, i_sub, c_lt, c_le, c_gt, c_ge, c_eq, c_ne, c_eqs, c_nes, c_eqb, t_bl, t_int, t_non, p_int, f_int, as_n, as_t2, as_t3, setMany, getL, List.getElem?_cons_zero, List.getElem?_cons_succ, List.set_cons_zero, List.set_cons_succ, wipeL, tl0, tl1, tl2, tl3, tl4, tl5, tl6, Bool.not_true, Bool.not_false, decide_eq_true_eq, if_true, if_false, ite_true, ite_false, eq_self, Bool.false_eq_true]
        exact ⟨⟨_, rfl, c, rfl, abc_low c hc⟩, D4, k4⟩
      · obtain ⟨hl, hP, D3, k3⟩ := q
        obtain ⟨cs, rfl, hcs⟩ := signs_map hP
        rw [rngL_len, List.length_map] at hl
        have hws := Kp.push (o := .lst (cs.map fun c => PV.str [c])) (p := fun _ => True) _ _ trivial (k3 _ _ (by decide) hws)
        have D4 := D3.kp (.push (o := .lst (cs.map fun c => PV.str [c])))
        simp only [ev_var, ev_cst, ev_bin, ev_neg, ev_cmp, ev_chain', ev_and, ev_or, ev_not, ev_ite, ev_tup, ev_lst, ev_ix, ev_sl, ev_call, ev_bt, ev_mt, ev_isi, ev_lc, ev_nil, ev_cons, ev_onone, ev_osome, ev_cnone, ev_csome, ev_ie, ev_rng, ev_enu, asT, ex_asg, ex_asgS, ex_par, ex_aug, ex_ite, ex_whl, ex_for, ex_expr, ex_ret, ex_retN, ex_pass, ex_brk, ex_cont, ex_never, ex_nil, ex_cons', W_ok, W_bind, fin_ret, fin_next, chK_bl, sq_next, sq_ret, sq_brk, sq_cont, bnd_ok, b_add, b_sub, i_add, i_sub, c_lt, c_le, c_gt, c_ge, c_eq, c_ne, c_eqs, c_nes, c_eqb, t_bl, t_int, t_non, p_int, f_int, as_n, as_t2, as_t3, setMany, getL, List.getElem?_cons_zero, List.getElem?_cons_succ, List.set_cons_zero, List.set_cons_succ, wipeL, tl0, tl1, tl2, tl3, tl4, tl5, tl6, Bool.not_true, Bool.not_false, decide_eq_true_eq, if_true, if_false, ite_true, ite_false, eq_self, Bool.false_eq_true, m_join at_push (show cs.length ≤ 100 by omega)]
        generalize S3 ++ [.lst (cs.map fun c => PV.str [c])] = S4 at hws D4
        simp only [ev_var, ev_cst, ev_bin, ev_neg, ev_cmp, ev_chain', ev_and, ev_or, ev_not, ev_ite, ev_tup, ev_lst, ev_ix, ev_sl, ev_call, ev_bt, ev_mt, ev_isi, ev_lc, ev_nil, ev_cons, ev_onone, ev_osome, ev_cnone, ev_csome, ev_ie, ev_rng, ev_enu, asT, ex_asg, ex_asgS, ex_par, ex_aug, ex_ite, ex_whl, ex_for, ex_expr, ex_ret, ex_retN, ex_pass, ex_brk, ex_cont, ex_never, ex_nil, ex_cons', W_ok, W_bind, fin_ret, fin_next, chK_bl, sq_next, sq_ret, sq_brk, sq_cont, bnd_ok, b_add, b_sub, i_add, i_sub, c_lt, c_le, c_gt, c_ge, c_eq, c_ne, c_eqs, c_nes, c_eqb, t_bl, t_int, t_non, p_int, f_int, as_n, as_t2, as_t3, setMany, getL, List.getElem?_cons_zero, List.getElem?_cons_succ, List.set_cons_zero, List.set_cons_succ, wipeL, tl0, tl1, tl2, tl3, tl4, tl5, tl6, Bool.not_true, Bool.not_false, decide_eq_true_eq, if_true, if_false, ite_true, ite_false, eq_self, Bool.false_eq_true, m_append hws (show (ws.map PV.str).length < lim by rw [List.length_map]; unfold lim; omega)]
        have h3 := lt_of_at hws
        refine ⟨⟨by rw [List.getElem?_set_ne (by decide)]; exact D4.row, D4.pos, D4.ne, by obtain ⟨s, hs⟩ := D4.spot; exact ⟨s, by rw [List.getElem?_set_ne (by decide)]; exact hs⟩⟩, ⟨ws ++ [cs], ?_, by simp; omega, fun w hw => ?_⟩, _, rfl⟩
        · rw [List.getElem?_set_self h3, List.map_append]; rfl
        · rcases List.mem_append.mp hw with hw | hw
          · exact hww w hw
          · rw [List.mem_singleton] at hw
            rw [hw]
            exact ⟨hcs, by omega, by omega⟩
    · obtain ⟨D1, ⟨ws, hws, hwl, hww⟩, z4, rfl⟩ := hI
      rw [rngL_len] at hwl
      try simp only [ev_var, ev_cst, ev_bin, ev_neg, ev_cmp, ev_chain', ev_and, ev_or, ev_not, ev_ite, ev_tup, ev_lst, ev_ix, ev_sl, ev_call, ev_bt, ev_mt, ev_isi, ev_lc, ev_nil, ev_cons, ev_onone, ev_osome, ev_cnone, ev_csome, ev_ie, ev_rng, ev_enu, asT, ex_asg, ex_asgS, ex_par, ex_aug, ex_ite, ex_whl, ex_for, ex_expr, ex_ret, ex_retN, ex_pass, ex_brk, ex_cont, ex_never, ex_nil, ex_cons', W_ok, W_bind, fin_ret, fin_next, chK_bl, sq_next, sq_ret, sq_brk, sq_cont, bnd_ok, b_add, b_sub, i_add, i_sub, c_lt, c_le, c_gt, c_ge, c_eq, c_ne, c_eqs, c_nes, c_eqb, t_bl, t_int, t_non, p_int, f_int, as_n, as_t2, as_t3, setMany, getL, List.getElem?_cons_zero, List.getElem?_cons_succ, List.set_cons_zero, List.set_cons_succ, wipeL, tl0, tl1, tl2, tl3, tl4, tl5, tl6, Bool.not_true, Bool.not_false, decide_eq_true_eq, if_true, if_false, ite_true, ite_false, eq_self, Bool.false_eq_true]
      rw [if_pos (by decide)]
      try simp only [ev_var, ev_cst, ev_bin, ev_neg, ev_cmp, ev_chain', ev_and, ev_or, ev_not, ev_ite, ev_tup, ev_lst, ev_ix, ev_sl, ev_call, ev_bt, ev_mt, ev_isi, ev_lc, ev_nil, ev_cons, ev_onone, ev_osome, ev_cnone, ev_csome, ev_ie, ev_rng, ev_enu, asT, ex_asg, ex_asgS, ex_par, ex_aug, ex_ite, ex_whl, ex_for, ex_expr, ex_ret, ex_retN, ex_pass, ex_brk, ex_cont, ex_never, ex_nil, ex_cons', W_ok, W_bind, fin_ret, fin_next, chK_bl, sq_next, sq_ret, sq_brk, sq_cont, bnd_ok, b_add, b_sub, i_add, i_sub, c_lt, c_le, c_gt, c_ge, c_eq, c_ne, c_eqs, c_nes, c_eqb, t_bl, t_int, t_non, p_int, f_int, as_n, as_t2, as_t3, setMany, getL, List.getElem?_cons_zero, List.getElem?_cons_succ, List.set_cons_zero, List.set_cons_succ, wipeL, tl0, tl1, tl2, tl3, tl4, tl5, tl6, Bool.not_true, Bool.not_false, decide_eq_true_eq, if_true, if_false, ite_true, ite_false, eq_self, Bool.false_eq_true]
      have hlt := spot_lt D1
      rw [show ([PV.str [112, 102, 105, 115, 116, 101, 114], PV.str [97, 115, 104, 99, 114, 97, 102, 116], PV.str [116, 121, 109, 99, 122, 97, 107], PV.str [108, 108, 111, 121, 100], PV.str [98, 98], PV.str [97], PV.str [104, 119, 98]] : List PV) = told.map PV.str from rfl]
      refine (pick_ok F__law_pick F__law_take F__law_draw (D1.kp (.push (o := .lst (told.map .str)))) (items_ref at_push) (show S1.length ≠ 2 by omega) (by decide)).mono fun v S2 q => ?_
      obtain ⟨hv, D2, k2⟩ := q
      obtain ⟨tw, htw, rfl⟩ := List.mem_map.mp hv
      have hws := k2 _ _ (show (3 : Nat) ≠ 2 by decide) (Kp.push (o := .lst (told.map .str)) (p := fun _ => True) _ _ trivial hws)
      have hws1 := Kp.push (o := .lst [.str tw]) (p := fun _ => True) _ _ trivial hws
      simp only [ev_var, ev_cst, ev_bin, ev_neg, ev_cmp, ev_chain', ev_and, ev_or, ev_not, ev_ite, ev_tup, ev_lst, ev_ix, ev_sl, ev_call, ev_bt, ev_mt, ev_isi, ev_lc, ev_nil, ev_cons, ev_onone, ev_osome, ev_cnone, ev_csome, ev_ie, ev_rng, ev_enu, asT, ex_asg, ex_asgS, ex_par, ex_aug, ex_ite, ex_whl, ex_for, ex_expr, ex_ret, ex_retN, ex_pass, ex_brk, ex_cont, ex_never, ex_nil, ex_cons', W_ok, W_bind, fin_ret, fin_next, chK_bl, sq_next, sq_ret, sq_brk, sq_cont, bnd_ok, b_add, b_sub, i_add, i_sub, c_lt, c_le, c_gt, c_ge, c_eq, c_ne, c_eqs, c_nes, c_eqb, t_bl, t_int, t_non, p_int, f_int, as_n, as_t2, as_t3, setMany, getL, List.getElem?_cons_zero, List.getElem?_cons_succ, List.set_cons_zero, List.set_cons_succ, wipeL, tl0, tl1, tl2, tl3, tl4, tl5, tl6, Bool.not_true, Bool.not_false, decide_eq_true_eq, if_true, if_false, ite_true, ite_false, eq_self, Bool.false_eq_true, b_cat hws1 at_push (by rw [List.length_map]; show _ + 1 ≤ _; unfold lim; omega)]
      have D3 := (D2.kp (.push (o := .lst [.str tw]))).kp (.push (o := .lst (ws.map PV.str ++ [.str tw])))
      have hu := at_push (S := S2 ++ [SO.lst [PV.str tw]]) (o := SO.lst (ws.map PV.str ++ [PV.str tw]))
      rw [show (ws.map PV.str ++ [PV.str tw]) = (ws ++ [tw]).map .str by rw [List.map_append]; rfl] at D3 hu ⊢
      have hu2 : (S2 ++ [SO.lst [PV.str tw]]).length ≠ 2 := by have := spot_lt D2; rw [List.length_append]; show _ + 1 ≠ 2; omega
      have huw : ∀ w, w ∈ ws ++ [tw] → Word w := fun w hw => by
        rcases List.mem_append.mp hw with hw | hw
        · exact hww w hw
        · rw [List.mem_singleton] at hw; rw [hw]; exact told_ok tw htw
      have hul : (ws ++ [tw]).length ≤ 100 ∧ 0 < (ws ++ [tw]).length := by rw [List.length_append]; exact ⟨by show _ + 1 ≤ _; omega, by show 0 < _ + 1; omega⟩
      generalize (S2 ++ [SO.lst [PV.str tw]]).length = a at hu hu2 ⊢
      generalize S2 ++ [SO.lst [PV.str tw]] ++ [SO.lst ((ws ++ [tw]).map PV.str)] = S3 at D3 hu ⊢
      generalize ws ++ [tw] = us at hu huw hul ⊢
      simp only [ev_var, ev_cst, ev_bin, ev_neg, ev_cmp, ev_chain', ev_and, ev_or, ev_not, ev_ite, ev_tup, ev_lst, ev_ix, ev_sl, ev_call, ev_bt, ev_mt, ev_isi, ev_lc, ev_nil, ev_cons, ev_onone, ev_osome, ev_cnone, ev_csome, ev_ie, ev_rng, ev_enu, asT, ex_asg, ex_asgS, ex_par, ex_aug, ex_ite, ex_whl, ex_for, ex_expr, ex_ret, ex_retN, ex_pass, ex_brk, ex_cont, ex_never, ex_nil, ex_cons', W_ok, W_bind, fin_ret, fin_next, chK_bl, sq_next, sq_ret, sq_brk, sq_cont, bnd_ok, b_add, b_sub, i_add, i_sub, c_lt, c_le, c_gt, c_ge, c_eq, c_ne, c_eqs, c_nes, c_eqb, t_bl, t_int, t_non, p_int, f_int, as_n, as_t2, as_t3, setMany, getL, List.getElem?_cons_zero, List.getElem?_cons_succ, List.set_cons_zero, List.set_cons_succ, wipeL, tl0, tl1, tl2, tl3, tl4, tl5, tl6, Bool.not_true, Bool.not_false, decide_eq_true_eq, if_true, if_false, ite_true, ite_false, eq_self, Bool.false_eq_true, iterV]
      refine W_for0 (it := .live a) (xs := us.map .str) hu (fun m ρ S' => Mp.Sub S3 S' ∧ ∃ z6, ρ = [some (.ltc (ns.map .int)), some (.ref 0), some (.ref 2), some (.ref a), z4, none, z6, none, none]) ⟨.refl, _, rfl⟩ (fun m ρ S' h => h.1 _ _ trivial hu) (fun m x ρ S4 hx hI => ?_) fun ρ S4 hI => ?_
      · obtain ⟨k4, z6, rfl⟩ := hI
        rw [List.getElem?_map] at hx
        obtain ⟨w, hwm, rfl⟩ := Option.map_eq_some_iff.mp hx
        have hw := huw w (List.mem_of_getElem? hwm)
        try simp only [ev_var, ev_cst, ev_bin, ev_neg, ev_cmp, ev_chain', ev_and, ev_or, ev_not, ev_ite, ev_tup, ev_lst, ev_ix, ev_sl, ev_call, ev_bt, ev_mt, ev_isi, ev_lc, ev_nil, ev_cons, ev_onone, ev_osome, ev_cnone, ev_csome, ev_ie, ev_rng, ev_enu, asT, ex_asg, ex_asgS, ex_par, ex_aug, ex_ite, ex_whl, ex_for, ex_expr, ex_ret, ex_retN, ex_pass, ex_brk, ex_cont, ex_never, ex_nil, ex_cons', W_ok, W_bind, fin_ret, fin_next, chK_bl, sq_next, sq_ret, sq_brk, sq_cont, bnd_ok, b_add, b_sub, i_add, i_sub, c_lt, c_le, c_gt, c_ge, c_eq, c_ne, c_eqs, c_nes, c_eqb, t_bl, t_int, t_non, p_int, f_int, as_n, as_t2, as_t3, setMany, getL, List.getElem?_cons_zero, List.getElem?_cons_succ, List.set_cons_zero, List.set_cons_succ, wipeL, tl0, tl1, tl2, tl3, tl4, tl5, tl6, Bool.not_true, Bool.not_false, decide_eq_true_eq, if_true, if_false, ite_true, ite_false, eq_self, Bool.false_eq_true]
        refine (code_of_ok hw).mono fun v S5 q => ?_
        obtain ⟨rfl, k5⟩ := q
        try simp only [ev_var, ev_cst, ev_bin, ev_neg, ev_cmp, ev_chain', ev_and, ev_or, ev_not, ev_ite, ev_tup, ev_lst, ev_ix, ev_sl, ev_call, ev_bt, ev_mt, ev_isi, ev_lc, ev_nil, ev_cons, ev_onone, ev_osome, ev_cnone, ev_csome, ev_ie, ev_rng, ev_enu, asT, ex_asg, ex_asgS, ex_par, ex_aug, ex_ite, ex_whl, ex_for, ex_expr, ex_ret, ex_retN, ex_pass, ex_brk, ex_cont, ex_never, ex_nil, ex_cons', W_ok, W_bind, fin_ret, fin_next, chK_bl, sq_next, sq_ret, sq_brk, sq_cont, bnd_ok, b_add, b_sub, i_add, i_sub, c_lt, c_le, c_gt, c_ge, c_eq, c_ne, c_eqs, c_nes, c_eqb, t_bl, t_int, t_non, p_int, f_int, as_n, as_t2, as_t3, setMany, getL, List.getElem?_cons_zero, List.getElem?_cons_succ, List.set_cons_zero, List.set_cons_succ, wipeL, tl0, tl1, tl2, tl3, tl4, tl5, tl6, Bool.not_true, Bool.not_false, decide_eq_true_eq, if_true, if_false, ite_true, ite_false, eq_self, Bool.false_eq_true]
        refine (law_sound_ok hw).mono fun v S6 q => ?_
        obtain ⟨rfl, k6⟩ := q
        simp only [ev_var, ev_cst, ev_bin, ev_neg, ev_cmp, ev_chain', ev_and, ev_or, ev_not, ev_ite, ev_tup, ev_lst, ev_ix, ev_sl, ev_call, ev_bt, ev_mt, ev_isi, ev_lc, ev_nil, ev_cons, ev_onone, ev_osome, ev_cnone, ev_csome, ev_ie, ev_rng, ev_enu, asT, ex_asg, ex_asgS, ex_par, ex_aug, ex_ite, ex_whl, ex_for, ex_expr, ex_ret, ex_retN, ex_pass, ex_brk, ex_cont, ex_never, ex_nil, ex_cons', W_ok, W_bind, fin_ret, fin_next, chK_bl, sq_next, sq_ret, sq_brk, sq_cont, bnd_ok, b_add, b_sub, i_add, i_sub, c_lt, c_le, c_gt, c_ge, c_eq, c_ne, c_eqs, c_nes, c_eqb, t_bl, t_int, t_non, p_int, f_int, as_n, as_t2, as_t3, setMany, getL, List.getElem?_cons_zero, List.getElem?_cons_succ, List.set_cons_zero, List.set_cons_succ, wipeL, tl0, tl1, tl2, tl3, tl4, tl5, tl6, Bool.not_true, Bool.not_false, decide_eq_true_eq, if_true, if_false, ite_true, ite_false, eq_self, Bool.false_eq_true, so_scal F__law_so (.str (sound w)) rfl]
        exact ⟨(k4.trans k5).trans k6, _, rfl⟩
      · obtain ⟨k4, z6, rfl⟩ := hI
        have hu4 := k4 _ _ trivial hu
        try simp only [ev_var, ev_cst, ev_bin, ev_neg, ev_cmp, ev_chain', ev_and, ev_or, ev_not, ev_ite, ev_tup, ev_lst, ev_ix, ev_sl, ev_call, ev_bt, ev_mt, ev_isi, ev_lc, ev_nil, ev_cons, ev_onone, ev_osome, ev_cnone, ev_csome, ev_ie, ev_rng, ev_enu, asT, ex_asg, ex_asgS, ex_par, ex_aug, ex_ite, ex_whl, ex_for, ex_expr, ex_ret, ex_retN, ex_pass, ex_brk, ex_cont, ex_never, ex_nil, ex_cons', W_ok, W_bind, fin_ret, fin_next, chK_bl, sq_next, sq_ret, sq_brk, sq_cont, bnd_ok, b_add, b_sub, i_add, i_sub, c_lt, c_le, c_gt, c_ge, c_eq, c_ne, c_eqs, c_nes, c_eqb, t_bl, t_int, t_non, p_int, f_int, as_n, as_t2, as_t3, setMany, getL, List.getElem?_cons_zero, List.getElem?_cons_succ, List.set_cons_zero, List.set_cons_succ, wipeL, tl0, tl1, tl2, tl3, tl4, tl5, tl6, Bool.not_true, Bool.not_false, decide_eq_true_eq, if_true, if_false, ite_true, ite_false, eq_self, Bool.false_eq_true]
        refine (pick_ok F__law_pick F__law_take F__law_draw (D3.kp k4) (items_ref hu4) hu2 (by rw [List.length_map]; exact hul.2)).mono fun v S5 q => ?_
        obtain ⟨hv, D5, k5⟩ := q
        obtain ⟨w1, hw1, rfl⟩ := List.mem_map.mp hv
        have hu5 := k5 _ _ hu2 hu4
        try simp only [ev_var, ev_cst, ev_bin, ev_neg, ev_cmp, ev_chain', ev_and, ev_or, ev_not, ev_ite, ev_tup, ev_lst, ev_ix, ev_sl, ev_call, ev_bt, ev_mt, ev_isi, ev_lc, ev_nil, ev_cons, ev_onone, ev_osome, ev_cnone, ev_csome, ev_ie, ev_rng, ev_enu, asT, ex_asg, ex_asgS, ex_par, ex_aug, ex_ite, ex_whl, ex_for, ex_expr, ex_ret, ex_retN, ex_pass, ex_brk, ex_cont, ex_never, ex_nil, ex_cons', W_ok, W_bind, fin_ret, fin_next, chK_bl, sq_next, sq_ret, sq_brk, sq_cont, bnd_ok, b_add, b_sub, i_add, i_sub, c_lt, c_le, c_gt, c_ge, c_eq, c_ne, c_eqs, c_nes, c_eqb, t_bl, t_int, t_non, p_int, f_int, as_n, as_t2, as_t3, setMany, getL, List.getElem?_cons_zero, List.getElem?_cons_succ, List.set_cons_zero, List.set_cons_succ, wipeL, tl0, tl1, tl2, tl3, tl4, tl5, tl6, Bool.not_true, Bool.not_false, decide_eq_true_eq, if_true, if_false, ite_true, ite_false, eq_self, Bool.false_eq_true]
        refine (pick_ok F__law_pick F__law_take F__law_draw D5 (items_ref hu5) hu2 (by rw [List.length_map]; exact hul.2)).mono fun v S6 q => ?_
        obtain ⟨hv, D6, k6⟩ := q
        obtain ⟨w2, hw2, rfl⟩ := List.mem_map.mp hv
        have h1 := huw w1 hw1
        have h2 := huw w2 hw2
        try simp only [ev_var, ev_cst, ev_bin, ev_neg, ev_cmp, ev_chain', ev_and, ev_or, ev_not, ev_ite, ev_tup, ev_lst, ev_ix, ev_sl, ev_call, ev_bt, ev_mt, ev_isi, ev_lc, ev_nil, ev_cons, ev_onone, ev_osome, ev_cnone, ev_csome, ev_ie, ev_rng, ev_enu, asT, ex_asg, ex_asgS, ex_par, ex_aug, ex_ite, ex_whl, ex_for, ex_expr, ex_ret, ex_retN, ex_pass, ex_brk, ex_cont, ex_never, ex_nil, ex_cons', W_ok, W_bind, fin_ret, fin_next, chK_bl, sq_next, sq_ret, sq_brk, sq_cont, bnd_ok, b_add, b_sub, i_add, i_sub, c_lt, c_le, c_gt, c_ge, c_eq, c_ne, c_eqs, c_nes, c_eqb, t_bl, t_int, t_non, p_int, f_int, as_n, as_t2, as_t3, setMany, getL, List.getElem?_cons_zero, List.getElem?_cons_succ, List.set_cons_zero, List.set_cons_succ, wipeL, tl0, tl1, tl2, tl3, tl4, tl5, tl6, Bool.not_true, Bool.not_false, decide_eq_true_eq, if_true, if_false, ite_true, ite_false, eq_self, Bool.false_eq_true]
        refine (alike_ok h1 h2).mono fun v S7 q => ?_
        obtain ⟨rfl, k7⟩ := q
        try simp only [ev_var, ev_cst, ev_bin, ev_neg, ev_cmp, ev_chain', ev_and, ev_or, ev_not, ev_ite, ev_tup, ev_lst, ev_ix, ev_sl, ev_call, ev_bt, ev_mt, ev_isi, ev_lc, ev_nil, ev_cons, ev_onone, ev_osome, ev_cnone, ev_csome, ev_ie, ev_rng, ev_enu, asT, ex_asg, ex_asgS, ex_par, ex_aug, ex_ite, ex_whl, ex_for, ex_expr, ex_ret, ex_retN, ex_pass, ex_brk, ex_cont, ex_never, ex_nil, ex_cons', W_ok, W_bind, fin_ret, fin_next, chK_bl, sq_next, sq_ret, sq_brk, sq_cont, bnd_ok, b_add, b_sub, i_add, i_sub, c_lt, c_le, c_gt, c_ge, c_eq, c_ne, c_eqs, c_nes, c_eqb, t_bl, t_int, t_non, p_int, f_int, as_n, as_t2, as_t3, setMany, getL, List.getElem?_cons_zero, List.getElem?_cons_succ, List.set_cons_zero, List.set_cons_succ, wipeL, tl0, tl1, tl2, tl3, tl4, tl5, tl6, Bool.not_true, Bool.not_false, decide_eq_true_eq, if_true, if_false, ite_true, ite_false, eq_self, Bool.false_eq_true]
        refine (law_sound_ok h1).mono fun v S8 q => ?_
        obtain ⟨rfl, k8⟩ := q
        try simp only [ev_var, ev_cst, ev_bin, ev_neg, ev_cmp, ev_chain', ev_and, ev_or, ev_not, ev_ite, ev_tup, ev_lst, ev_ix, ev_sl, ev_call, ev_bt, ev_mt, ev_isi, ev_lc, ev_nil, ev_cons, ev_onone, ev_osome, ev_cnone, ev_csome, ev_ie, ev_rng, ev_enu, asT, ex_asg, ex_asgS, ex_par, ex_aug, ex_ite, ex_whl, ex_for, ex_expr, ex_ret, ex_retN, ex_pass, ex_brk, ex_cont, ex_never, ex_nil, ex_cons', W_ok, W_bind, fin_ret, fin_next, chK_bl, sq_next, sq_ret, sq_brk, sq_cont, bnd_ok, b_add, b_sub, i_add, i_sub, c_lt, c_le, c_gt, c_ge, c_eq, c_ne, c_eqs, c_nes, c_eqb, t_bl, t_int, t_non, p_int, f_int, as_n, as_t2, as_t3, setMany, getL, List.getElem?_cons_zero, List.getElem?_cons_succ, List.set_cons_zero, List.set_cons_succ, wipeL, tl0, tl1, tl2, tl3, tl4, tl5, tl6, Bool.not_true, Bool.not_false, decide_eq_true_eq, if_true, if_false, ite_true, ite_false, eq_self, Bool.false_eq_true]
        refine (law_sound_ok h2).mono fun v S9 q => ?_
        obtain ⟨rfl, k9⟩ := q
        simp only [ev_var, ev_cst, ev_bin, ev_neg, ev_cmp, ev_chain', ev_and, ev_or, ev_not, ev_ite, ev_tup, ev_lst, ev_ix, ev_sl, ev_call, ev_bt, ev_mt, ev_isi, ev_lc, ev_nil, ev_cons, ev_onone, ev_osome, ev_cnone, ev_csome, ev_ie, ev_rng, ev_enu, asT, ex_asg, ex_asgS, ex_par, ex_aug, ex_ite, ex_whl, ex_for, ex_expr, ex_ret, ex_retN, ex_pass, ex_brk, ex_cont, ex_never, ex_nil, ex_cons', W_ok, W_bind, fin_ret, fin_next, chK_bl, sq_next, sq_ret, sq_brk, sq_cont, bnd_ok, b_add, b_sub, i_add, i_sub, c_lt, c_le, c_gt, c_ge, c_eq, c_ne, c_eqs, c_nes, c_eqb, t_bl, t_int, t_non, p_int, f_int, as_n, as_t2, as_t3, setMany, getL, List.getElem?_cons_zero, List.getElem?_cons_succ, List.set_cons_zero, List.set_cons_succ, wipeL, tl0, tl1, tl2, tl3, tl4, tl5, tl6, Bool.not_true, Bool.not_false, decide_eq_true_eq, if_true, if_false, ite_true, ite_false, eq_self, Bool.false_eq_true, so_scal F__law_so (.bl (decide (sound w1 = sound w2))) rfl]
        refine (alike_ok h1 h1).mono fun v S10 q => ?_
        obtain ⟨rfl, k10⟩ := q
        simp only [ev_var, ev_cst, ev_bin, ev_neg, ev_cmp, ev_chain', ev_and, ev_or, ev_not, ev_ite, ev_tup, ev_lst, ev_ix, ev_sl, ev_call, ev_bt, ev_mt, ev_isi, ev_lc, ev_nil, ev_cons, ev_onone, ev_osome, ev_cnone, ev_csome, ev_ie, ev_rng, ev_enu, asT, ex_asg, ex_asgS, ex_par, ex_aug, ex_ite, ex_whl, ex_for, ex_expr, ex_ret, ex_retN, ex_pass, ex_brk, ex_cont, ex_never, ex_nil, ex_cons', W_ok, W_bind, fin_ret, fin_next, chK_bl, sq_next, sq_ret, sq_brk, sq_cont, bnd_ok, b_add, b_sub, i_add, i_sub, c_lt, c_le, c_gt, c_ge, c_eq, c_ne, c_eqs, c_nes, c_eqb, t_bl, t_int, t_non, p_int, f_int, as_n, as_t2, as_t3, setMany, getL, List.getElem?_cons_zero, List.getElem?_cons_succ, List.set_cons_zero, List.set_cons_succ, wipeL, tl0, tl1, tl2, tl3, tl4, tl5, tl6, Bool.not_true, Bool.not_false, decide_eq_true_eq, if_true, if_false, ite_true, ite_false, eq_self, Bool.false_eq_true, decide_true]
        exact .ok rfl
  obtain ⟨a, S', e, rfl⟩ := key.get
  exact ⟨S', e⟩
end
end Kk73

open PySem PySem.W PyProof.Rows L2 Mp
set_option maxHeartbeats 0 in
theorem PySem.Challenge.cw_tidings_k73_spelling_sounds_holds : PySem.Challenge.rw_tidings_k73_spelling_sounds.Holds := by
  w_on; o_law; k_head; (case hw => w_witness2)
  k_fill
  refine Mp.law_end (l := PySem.Challenge.rw_tidings_k73_spelling_sounds) (ds := Kk73.ds) (G := Kk73.G) (n := 60) (fu := 1000) (k := 100) (iL := 14) (dL := Kk73.d_law) rfl rfl (fun w h Y => PySem.W.kIn_of Y) rfl rfl rfl Kk73.room ?T (fun kV doc pm an cdv ct u => Kk73.b_law kV doc pm an cdv ct [u] rfl) Kk73.pure_
  intro w mg h KX G
  refine ⟨?fun_, ?scope, ?body, ?names, ?cts, ?bts⟩
  case fun_ =>
    intro i d hd
    match i, hd with
    | 0, hd => (cases hd; apply mk_fun (st := Kk73.st_demand) (hb := Kk73.b_demand) (hk := Kk73.k_demand) KX G; (case a => k_is); (case l => k_is); (case c => k_is); (case k => k_is))
    | 1, hd => (cases hd; apply mk_fun (st := Kk73.st_is_text) (hb := Kk73.b_is_text) (hk := Kk73.k_is_text) KX G; (case a => k_is); (case l => k_is); (case c => k_is); (case k => k_is))
    | 2, hd => (cases hd; apply mk_fun (st := Kk73.st_is_letters) (hb := Kk73.b_is_letters) (hk := Kk73.k_is_letters) KX G; (case a => k_is); (case l => k_is); (case c => k_is); (case k => k_is))
    | 3, hd => (cases hd; apply mk_fun (st := Kk73.st_is_word) (hb := Kk73.b_is_word) (hk := Kk73.k_is_word) KX G; (case a => k_is); (case l => k_is); (case c => k_is); (case k => k_is))
    | 4, hd => (cases hd; apply mk_fun (st := Kk73.st_class_of) (hb := Kk73.b_class_of) (hk := Kk73.k_class_of) KX G; (case a => k_is); (case l => k_is); (case c => k_is); (case k => k_is))
    | 5, hd => (cases hd; apply mk_fun (st := Kk73.st_unchecked_code) (hb := Kk73.b_unchecked_code) (hk := Kk73.k_unchecked_code) KX G; (case a => k_is); (case l => k_is); (case c => k_is); (case k => k_is))
    | 6, hd => (cases hd; apply mk_fun (st := Kk73.st_alike_sound) (hb := Kk73.b_alike_sound) (hk := Kk73.k_alike_sound) KX G; (case a => k_is); (case l => k_is); (case c => k_is); (case k => k_is))
    | 7, hd => (cases hd; apply mk_fun (st := Kk73.st_code_of) (hb := Kk73.b_code_of) (hk := Kk73.k_code_of) KX G; (case a => k_is); (case l => k_is); (case c => k_is); (case k => k_is))
    | 8, hd => (cases hd; apply mk_fun (st := Kk73.st__law_so) (hb := Kk73.b__law_so) (hk := Kk73.k__law_so) KX G; (case a => k_is); (case l => k_is); (case c => k_is); (case k => k_is))
    | 9, hd => (cases hd; apply mk_fun (st := Kk73.st__law_numbers) (hb := Kk73.b__law_numbers) (hk := Kk73.k__law_numbers) KX G; (case a => k_is); (case l => k_is); (case c => k_is); (case k => k_is))
    | 10, hd => (cases hd; apply mk_fun (st := Kk73.st__law_draw) (hb := Kk73.b__law_draw) (hk := Kk73.k__law_draw) KX G; (case a => k_is); (case l => k_is); (case c => k_is); (case k => k_is))
    | 11, hd => (cases hd; apply mk_fun (st := Kk73.st__law_take) (hb := Kk73.b__law_take) (hk := Kk73.k__law_take) KX G; (case a => k_is); (case l => k_is); (case c => k_is); (case k => k_is))
    | 12, hd => (cases hd; apply mk_fun (st := Kk73.st__law_pick) (hb := Kk73.b__law_pick) (hk := Kk73.k__law_pick) KX G; (case a => k_is); (case l => k_is); (case c => k_is); (case k => k_is))
    | 13, hd => (cases hd; apply mk_fun (st := Kk73.st__law_sound) (hb := Kk73.b__law_sound) (hk := Kk73.k__law_sound) KX G; (case a => k_is); (case l => k_is); (case c => k_is); (case k => k_is))
    | 14, hd => (cases hd; apply mk_fun (st := Kk73.st_law) (hb := Kk73.b_law) (hk := Kk73.k_law) KX G; (case a => k_is); (case l => k_is); (case c => k_is); (case k => k_is))
    | n + 15, hd => simp at hd
  case scope =>
    intro d hd
    simp only [Kk73.ds, List.mem_cons, List.not_mem_nil, or_false] at hd
    rcases hd with rfl | rfl | rfl | rfl | rfl | rfl | rfl | rfl | rfl | rfl | rfl | rfl | rfl | rfl | rfl
    · exact Kk73.s_demand
    · exact Kk73.s_is_text
    · exact Kk73.s_is_letters
    · exact Kk73.s_is_word
    · exact Kk73.s_class_of
    · exact Kk73.s_unchecked_code
    · exact Kk73.s_alike_sound
    · exact Kk73.s_code_of
    · exact Kk73.s__law_so
    · exact Kk73.s__law_numbers
    · exact Kk73.s__law_draw
    · exact Kk73.s__law_take
    · exact Kk73.s__law_pick
    · exact Kk73.s__law_sound
    · exact Kk73.s_law
  case body =>
    intro d hd
    simp only [Kk73.ds, List.mem_cons, List.not_mem_nil, or_false] at hd
    rcases hd with rfl | rfl | rfl | rfl | rfl | rfl | rfl | rfl | rfl | rfl | rfl | rfl | rfl | rfl | rfl
    · exact Kk73.c_demand
    · exact Kk73.c_is_text
    · exact Kk73.c_is_letters
    · exact Kk73.c_is_word
    · exact Kk73.c_class_of
    · exact Kk73.c_unchecked_code
    · exact Kk73.c_alike_sound
    · exact Kk73.c_code_of
    · exact Kk73.c__law_so
    · exact Kk73.c__law_numbers
    · exact Kk73.c__law_draw
    · exact Kk73.c__law_take
    · exact Kk73.c__law_pick
    · exact Kk73.c__law_sound
    · exact Kk73.c_law
  case names =>
    intro x i ps hx
    exact Mp.names_ok (G := Kk73.G) (by decide +kernel) hx
  case cts =>
    intro x v hx
    have hx := Mp.lookup_mem hx
    simp only [Kk73.G, List.mem_cons, List.not_mem_nil, or_false, Prod.mk.injEq] at hx
    rcases hx with ⟨rfl, rfl⟩ | ⟨rfl, rfl⟩ | ⟨rfl, rfl⟩
    · apply Mp.ct_of KX G
      case a => k_is
      case c =>
        exact Mp.ctv_int
    · apply Mp.ct_of KX G
      case a => k_is
      case c =>
        exact Mp.ctv_str
    · apply Mp.ct_of KX G
      case a => k_is
      case c =>
        apply Mp.ctv_tup
        case l => k_is
        case hs => decide +kernel
        case h =>
          refine Mp.ctvs_cons ?_ ?_
          · exact Mp.ctv_str
          refine Mp.ctvs_cons ?_ ?_
          · exact Mp.ctv_str
          refine Mp.ctvs_cons ?_ ?_
          · exact Mp.ctv_str
          refine Mp.ctvs_cons ?_ ?_
          · exact Mp.ctv_str
          refine Mp.ctvs_cons ?_ ?_
          · exact Mp.ctv_str
          refine Mp.ctvs_cons ?_ ?_
          · exact Mp.ctv_str
          exact Mp.ctvs_nil
  case bts =>
    intro x hx
    simp only [Kk73.G, List.contains_cons, List.contains_nil, Bool.or_false, Bool.or_eq_true, beq_iff_eq] at hx
    rcases hx with rfl | rfl | rfl | rfl | rfl | rfl | rfl | rfl | rfl
    · (refine PySem.W.mg_none_of KX G ?_; k_is)
    · (refine PySem.W.mg_none_of KX G ?_; k_is)
    · (refine PySem.W.mg_none_of KX G ?_; k_is)
    · (refine PySem.W.mg_none_of KX G ?_; k_is)
    · (refine PySem.W.mg_none_of KX G ?_; k_is)
    · (refine PySem.W.mg_none_of KX G ?_; k_is)
    · (refine PySem.W.mg_none_of KX G ?_; k_is)
    · (refine PySem.W.mg_none_of KX G ?_; k_is)
    · (refine PySem.W.mg_none_of KX G ?_; k_is)
