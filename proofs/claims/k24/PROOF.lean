import PyProof.Rows.All
import Wide.All
import OpenK.AllK
import Wide.FinOn
import HandS.ForMost
import HandS.ForExc
import HandS.Wide
import HandS.WideBits
import HandS.Deep
import KE.DataEq
import PyProof.ReprLen
import HandS.Walk
import HandS.Defaults
import HandS.DictTup
import HandS.TupLen
import PyProof.DictMoreH
import HandS.IsInst
import HandS.Conv
import HandS.Zip
import HandS.More
import HandS.Text
import KE.SortData
import KE.KDictSum
import KE.KFmtOwn
import KE.KEqDict
import KE.KDictKeyed
import HandS.Style
import KE.KEqSeq
import KE.DataFind
import KE.KDictCopyH
import HandS.ListItems
import HandS.SetFor
import HandS.DictComp
import HandS.Flow
import KE.KDictList
import PyProof.StrOps2
import PyProof.Draws
import PyProof.StrLawsRepr
import PyProof.MeetsIn
import PyProof.EqAt
import HandS.Set
import HandS.SortKw
import HandS.TupLe
import HandS.Rev
import PyProof.DictUpdate
import HandS.ExcInit
import HandS.ExcField
import HandS.ExcIs
import KE.KExcInit
import HandS.WordsExc
import KE.KExcIs
import KE.KIsAll
import HandS.TryOnly
import HandS.ExcOwn
import PySem.Challenge.RW_deepfall_k24_whole_closed_groups
set_option Elab.async false
set_option linter.all false
set_option maxRecDepth 100000
set_option maxHeartbeats 4000000
/-! Dl: data over the hand layer. A value is told as a tree (D); what may change is told by address (O, Mu). -/
namespace Dl
open PySem PySem.Spec PyProof.Rows L2
abbrev Frg := PySem.W.Frag
/-- data: scalars, references, lists and tuples that change no more -/
inductive D where
  | non | bl (b : Bool) | int (i : Int) | str (x : Str) | ty (n : String) | «at» (a : Addr)
  | lst (xs : List D) | tup (xs : List D)
/-- what stands at an address that may change -/
inductive O where
  | lst (xs : List D)
  | dK (kvs : List (Key × D))
  | dT (kvs : List (List Key × D))
  | ins (C : Addr) (fs : List (Str × D))
  | pot
  | ro (xs : List D)
  /-- a dict while it is walked -/
  | fz (o : Obj) (ks : List (Key × V)) (kvs : List (Key × D))
  | fzT (o : Obj) (ks : List (List Key × V)) (kvs : List (List Key × D))
abbrev Mu := Addr → Option O
abbrev Ms := Addr → Prop
def MD (μ : Mu) : Ms := fun a => ∃ o, μ a = some o
def put (μ : Mu) (a : Addr) (o : O) : Mu := fun b => if b = a then some o else μ b
theorem put_same {μ : Mu} {a : Addr} {o : O} : put μ a o a = some o := if_pos rfl
theorem put_ne {μ : Mu} {a b : Addr} {o : O} (h : b ≠ a) : put μ a o b = μ b := if_neg h
theorem put_put {μ : Mu} {a : Addr} {o u : O} : put (put μ a o) a u = put μ a u := by
  funext b
  by_cases h : b = a
  · rw [h, put_same, put_same]
  · rw [put_ne h, put_ne h, put_ne h]
theorem put_self {μ : Mu} {a : Addr} {o : O} (h : μ a = some o) : put μ a o = μ := by
  funext b
  by_cases e : b = a
  · rw [e, put_same, h]
  · rw [put_ne e]
theorem put_comm {μ : Mu} {a b : Addr} {o u : O} (h : a ≠ b) : put (put μ a o) b u = put (put μ b u) a o := by
  funext c
  by_cases e : c = a
  · subst e
    rw [put_ne h, put_same, put_same]
  · by_cases e2 : c = b
    · subst e2
      rw [put_same, put_ne e, put_same]
    · rw [put_ne e2, put_ne e, put_ne e, put_ne e2]
mutual
/-- v stands for the data d -/
def VD (M : Ms) (H : Hp) : D → V → Prop
  | .non, v => v = .non
  | .bl b, v => v = .bl b
  | .int i, v => v = .int i
  | .str x, v => v = .str x
  | .ty n, v => v = .ty n
  | .at a, v => v = .ref a
  | .lst ds, v => ∃ a xs, v = .ref a ∧ (¬ M a ∧ H a = some (.lst xs)) ∧ VDs M H ds xs
  | .tup ds, v => ∃ a xs, v = .ref a ∧ (¬ M a ∧ H a = some (.tup xs)) ∧ VDs M H ds xs
def VDs (M : Ms) (H : Hp) : List D → List V → Prop
  | [], xs => xs = []
  | d :: ds, xs => ∃ v vs, xs = v :: vs ∧ VD M H d v ∧ VDs M H ds vs
end
/-- how a heap may go on -/
structure Step (M : Ms) (H : Hp) (M' : Ms) (H' : Hp) : Prop where
  keep : ∀ a o, ¬ M a → H a = some o → H' a = some o
  grow : ∀ a, M' a → M a ∨ H a = none
theorem Step.refl {M : Ms} {H : Hp} : Step M H M H := ⟨fun _ _ _ h => h, fun _ h => .inl h⟩
theorem Step.trans {M M1 M2 : Ms} {H H1 H2 : Hp} (a : Step M H M1 H1) (b : Step M1 H1 M2 H2) : Step M H M2 H2 where
  keep := fun x o n e => b.keep x o (fun m => (a.grow x m).elim n fun q => by rw [q] at e; cases e) (a.keep x o n e)
  grow := fun x m => by
    rcases b.grow x m with m1 | q
    · exact a.grow x m1
    · by_cases n : M x
      · exact .inl n
      · cases e : H x with
        | none => exact .inr rfl
        | some o => rw [a.keep x o n e] at q; cases q
/-- only what is new was laid -/
theorem Step.ext {M : Ms} {H H' : Hp} (h : ∀ a o, H a = some o → H' a = some o) : Step M H M H' := ⟨fun a o _ e => h a o e, fun _ m => .inl m⟩
theorem Step.new {M : Ms} {H : Hp} {p : Addr} {o : HO} (h : H p = none) : Step M H M (upd H p o) := .ext fun a u e => by
  rw [upd_ne (ne_of_none e h)]
  exact e
theorem Step.newM {μ : Mu} {H : Hp} {p : Addr} {o : HO} {x : O} (h : H p = none) : Step (MD μ) H (MD (put μ p x)) (upd H p o) where
  keep := fun a u _ e => by
    rw [upd_ne (ne_of_none e h)]
    exact e
  grow := fun a ⟨u, e⟩ => by
    by_cases q : a = p
    · subst q
      exact .inr h
    · rw [put_ne q] at e
      exact .inl ⟨u, e⟩
theorem Step.write {μ : Mu} {H : Hp} {p : Addr} {o : HO} {x : O} (h : MD μ p) : Step (MD μ) H (MD (put μ p x)) (upd H p o) where
  keep := fun a u n e => by
    have q : a ≠ p := fun z => n (z ▸ h)
    rw [upd_ne q]
    exact e
  grow := fun a ⟨u, e⟩ => by
    by_cases q : a = p
    · subst q
      exact .inl h
    · rw [put_ne q] at e
      exact .inl ⟨u, e⟩
section
variable {M M' : Ms} {H H' : Hp}
theorem Fz.step {a : Addr} {u : HO} (st : Step M H M' H') (h : ¬ M a ∧ H a = some u) : ¬ M' a ∧ H' a = some u :=
  ⟨fun m => (st.grow a m).elim h.1 fun q => (by rw [h.2] at q; cases q), st.keep a _ h.1 h.2⟩
mutual
theorem VD.step (st : Step M H M' H') : ∀ (d : D) (v : V), VD M H d v → VD M' H' d v
  | .non, _, h => h
  | .bl _, _, h => h
  | .int _, _, h => h
  | .str _, _, h => h
  | .ty _, _, h => h
  | .at _, _, h => h
  | .lst ds, _, ⟨a, xs, e, f, g⟩ => ⟨a, xs, e, Fz.step st f, VDs.step st ds xs g⟩
  | .tup ds, _, ⟨a, xs, e, f, g⟩ => ⟨a, xs, e, Fz.step st f, VDs.step st ds xs g⟩
theorem VDs.step (st : Step M H M' H') : ∀ (ds : List D) (vs : List V), VDs M H ds vs → VDs M' H' ds vs
  | [], _, h => h
  | d :: ds, _, ⟨v, vs, e, f, g⟩ => ⟨v, vs, e, VD.step st d v f, VDs.step st ds vs g⟩
end
theorem VDs.length : ∀ {ds : List D} {vs : List V}, VDs M H ds vs → ds.length = vs.length
  | [], _, h => by rw [show _ = [] from h]; rfl
  | d :: ds, _, ⟨v, vs, e, _, g⟩ => by rw [e, List.length_cons, List.length_cons, VDs.length g]
theorem VDs.get : ∀ {ds : List D} {vs : List V} {i : Nat} {d : D}, VDs M H ds vs → ds[i]? = some d → ∃ v, vs[i]? = some v ∧ VD M H d v
  | [], _, _, _, _, e => by simp at e
  | d :: ds, _, 0, x, ⟨v, vs, e, f, _⟩, q => by
    simp only [List.getElem?_cons_zero, Option.some.injEq] at q
    subst q e
    exact ⟨v, rfl, f⟩
  | d :: ds, _, i + 1, x, ⟨v, vs, e, _, g⟩, q => by
    subst e
    obtain ⟨y, h1, h2⟩ := VDs.get (i := i) g (by simpa using q)
    exact ⟨y, by simpa using h1, h2⟩
theorem VDs.of_get : ∀ {ds : List D} {vs : List V} {i : Nat} {v : V}, VDs M H ds vs → vs[i]? = some v → ∃ d, ds[i]? = some d ∧ VD M H d v := fun {ds vs i v} h e => by
  have hl := h.length
  have hi := (List.getElem?_eq_some_iff.mp e).1
  obtain ⟨d, hd⟩ : ∃ d, ds[i]? = some d := ⟨ds[i]'(by omega), List.getElem?_eq_getElem _⟩
  obtain ⟨y, h1, h2⟩ := h.get hd
  rw [e] at h1
  cases h1
  exact ⟨d, hd, h2⟩
theorem VDs.append : ∀ {ds es : List D} {vs ws : List V}, VDs M H ds vs → VDs M H es ws → VDs M H (ds ++ es) (vs ++ ws)
  | [], _, _, _, h, g => by
    rw [show _ = [] from h]
    exact g
  | d :: ds, _, _, _, ⟨v, vs, e, f, t⟩, g => by
    subst e
    exact ⟨v, _, rfl, f, VDs.append t g⟩
theorem VDs.of_all : ∀ {ds : List D} {vs : List V}, ds.length = vs.length → (∀ (i : Nat) d v, ds[i]? = some d → vs[i]? = some v → VD M H d v) → VDs M H ds vs
  | [], [], _, _ => rfl
  | [], _ :: _, h, _ => by cases h
  | _ :: _, [], h, _ => by cases h
  | d :: ds, v :: vs, h, f => ⟨v, vs, rfl, f 0 d v rfl rfl, VDs.of_all (Nat.succ.inj h) fun i x y e1 e2 => f (i + 1) x y (by simpa using e1) (by simpa using e2)⟩
theorem VDs.iff {ds : List D} {vs : List V} : VDs M H ds vs ↔ ds.length = vs.length ∧ ∀ (i : Nat) d v, ds[i]? = some d → vs[i]? = some v → VD M H d v := by
  constructor
  · intro h
    refine ⟨h.length, fun i d v e1 e2 => ?_⟩
    obtain ⟨w, e3, r⟩ := h.get e1
    rw [e2] at e3
    cases e3
    exact r
  · exact fun h => VDs.of_all h.1 h.2
theorem VDs.take {ds : List D} {vs : List V} (n : Nat) (h : VDs M H ds vs) : VDs M H (ds.take n) (vs.take n) := by
  rw [VDs.iff] at *
  refine ⟨by simp [h.1], fun i d v e1 e2 => ?_⟩
  rw [List.getElem?_take] at e1 e2
  split at e1
  · rename_i q
    rw [if_pos q] at e2
    exact h.2 i d v e1 e2
  · cases e1
theorem VDs.drop {ds : List D} {vs : List V} (n : Nat) (h : VDs M H ds vs) : VDs M H (ds.drop n) (vs.drop n) := by
  rw [VDs.iff] at *
  refine ⟨by simp [h.1], fun i d v e1 e2 => ?_⟩
  rw [List.getElem?_drop] at e1 e2
  exact h.2 _ d v e1 e2
theorem VDs.reverse {ds : List D} {vs : List V} (h : VDs M H ds vs) : VDs M H ds.reverse vs.reverse := by
  have hl := h.length
  rw [VDs.iff] at *
  refine ⟨by simp [h.1], fun i d v e1 e2 => ?_⟩
  have hi : i < ds.length := by simpa using (List.getElem?_eq_some_iff.mp e1).1
  rw [List.getElem?_reverse hi] at e1
  rw [List.getElem?_reverse (by omega)] at e2
  exact h.2 _ d v e1 (by rw [h.1]; exact e2)
theorem VDs.set {ds : List D} {vs : List V} {d : D} {v : V} (i : Nat) (h : VDs M H ds vs) (r : VD M H d v) : VDs M H (ds.set i d) (vs.set i v) := by
  rw [VDs.iff] at *
  refine ⟨by simp [h.1], fun j x y e1 e2 => ?_⟩
  by_cases q : j = i
  · subst q
    have hj : j < ds.length := by simpa using (List.getElem?_eq_some_iff.mp e1).1
    rw [List.getElem?_set_self hj] at e1
    rw [List.getElem?_set_self (by omega)] at e2
    cases e1
    cases e2
    exact r
  · rw [List.getElem?_set_ne (Ne.symm q)] at e1 e2
    exact h.2 j x y e1 e2
theorem VDs.replicate {d : D} {v : V} (r : VD M H d v) : ∀ n : Nat, VDs M H (List.replicate n d) (List.replicate n v)
  | 0 => rfl
  | n + 1 => ⟨v, _, rfl, r, VDs.replicate r n⟩
end
/-! ### what is told by address -/
abbrev KD {κ : Type} (M : Ms) (H : Hp) : List (κ × D) → List (κ × V) → Prop := Paired fun p q => p.1 = q.1 ∧ VD M H p.2 q.2
def PotOk (_ y : Int) : Prop := 0 ≤ y ∧ y < 2147483648
def OH (M : Ms) (H : Hp) (a : Addr) : O → Prop
  | .lst ds => ∃ xs, H a = some (.lst xs) ∧ VDs M H ds xs
  | .dK kvs => ∃ ks, H a = some (.dK ks) ∧ KD M H kvs ks
  | .dT kvs => ∃ ks, H a = some (.dT ks) ∧ KD M H kvs ks
  | .ins C fs => ∃ dx gs, H a = some (.ins C dx gs) ∧ KD M H fs gs
  | .ro ds => ∃ xs, Rd H a (.lst xs) ∧ VDs M H ds xs
  | .fz o ks kvs => H a = some (.frz o (.dK ks)) ∧ KD M H kvs ks
  | .fzT o ks kvs => H a = some (.frz o (.dT ks)) ∧ KD M H kvs ks
  | .pot => ∃ x y, H a = some (.lst [.int x, .int y]) ∧ PotOk x y
def MH (μ : Mu) (H : Hp) : Prop := ∀ a o, μ a = some o → OH (MD μ) H a o
section
variable {M M' : Ms} {H H' : Hp} {μ : Mu}
theorem KD.step {κ : Type} (st : Step M H M' H') : ∀ {xs : List (κ × D)} {ys : List (κ × V)}, KD M H xs ys → KD M' H' xs ys
  | _, _, .nil => .nil
  | _, _, .cons r t => .cons ⟨r.1, VD.step st _ _ r.2⟩ (KD.step st t)
theorem OH.step {a : Addr} {o : O} (st : Step M H M' H') (e : H' a = H a) (h : OH M H a o) : OH M' H' a o := by
  cases o with
  | lst ds => obtain ⟨xs, h1, h2⟩ := h; exact ⟨xs, e.trans h1, VDs.step st _ _ h2⟩
  | dK ds => obtain ⟨xs, h1, h2⟩ := h; exact ⟨xs, e.trans h1, KD.step st h2⟩
  | dT ds => obtain ⟨xs, h1, h2⟩ := h; exact ⟨xs, e.trans h1, KD.step st h2⟩
  | ins C fs => obtain ⟨dx, gs, h1, h2⟩ := h; exact ⟨dx, gs, e.trans h1, KD.step st h2⟩
  | ro ds =>
    obtain ⟨xs, h1, h2⟩ := h
    exact ⟨xs, h1.imp (fun q => e.trans q) fun ⟨ob, q⟩ => ⟨ob, e.trans q⟩, VDs.step st _ _ h2⟩
  | fz o ks kvs => obtain ⟨h1, h2⟩ := h; exact ⟨e.trans h1, KD.step st h2⟩
  | fzT o ks kvs => obtain ⟨h1, h2⟩ := h; exact ⟨e.trans h1, KD.step st h2⟩
  | pot => obtain ⟨x, y, h1, h2⟩ := h; exact ⟨x, y, e.trans h1, h2⟩
theorem OH.there {a : Addr} {o : O} (h : OH M H a o) : ∃ u, H a = some u := by
  cases o with
  | lst ds => obtain ⟨xs, h1, _⟩ := h; exact ⟨_, h1⟩
  | dK ds => obtain ⟨xs, h1, _⟩ := h; exact ⟨_, h1⟩
  | dT ds => obtain ⟨xs, h1, _⟩ := h; exact ⟨_, h1⟩
  | ins C fs => obtain ⟨dx, gs, h1, _⟩ := h; exact ⟨_, h1⟩
  | ro ds =>
    obtain ⟨xs, h1, _⟩ := h
    rcases h1 with h1 | ⟨ob, h1⟩
    · exact ⟨_, h1⟩
    · exact ⟨_, h1⟩
  | fz o ks kvs => exact ⟨_, h.1⟩
  | fzT o ks kvs => exact ⟨_, h.1⟩
  | pot => obtain ⟨x, y, h1, _⟩ := h; exact ⟨_, h1⟩
theorem MH.free (m : MH μ H) {p : Addr} (h : H p = none) : μ p = none := by
  cases e : μ p with
  | none => rfl
  | some o =>
    obtain ⟨u, q⟩ := (m p o e).there
    rw [h] at q
    cases q
theorem MH.ext (m : MH μ H) (h : ∀ a o, H a = some o → H' a = some o) : MH μ H' := fun a o e => by
  obtain ⟨u, q⟩ := (m a o e).there
  exact (m a o e).step (.ext h) ((h a u q).trans q.symm)
theorem MH.newF {p : Addr} {o : HO} (m : MH μ H) (h : H p = none) : MH μ (upd H p o) := m.ext fun a u e => by
  rw [upd_ne (ne_of_none e h)]
  exact e
theorem MH.newM {p : Addr} {o : HO} {x : O} (m : MH μ H) (h : H p = none) (n : OH (MD (put μ p x)) (upd H p o) p x) : MH (put μ p x) (upd H p o) := fun a u e => by
  by_cases q : a = p
  · subst q
    rw [put_same] at e
    cases e
    exact n
  · rw [put_ne q] at e
    exact (m a u e).step (.newM h) (upd_ne q)
theorem MH.write {p : Addr} {o : HO} {x : O} (m : MH μ H) (h : MD μ p) (n : OH (MD (put μ p x)) (upd H p o) p x) : MH (put μ p x) (upd H p o) := fun a u e => by
  by_cases q : a = p
  · subst q
    rw [put_same] at e
    cases e
    exact n
  · rw [put_ne q] at e
    exact (m a u e).step (.write h) (upd_ne q)
end
/-! ### the frame's names -/
abbrev Rho := List (Option D)
/-- where a frame began: what could change then, the heap -/
abbrev Bs := Ms × Hp
/-- the names' values; and the heap has gone on from where the frame began -/
def RS (B : Bs) (M : Ms) (H : Hp) (ρ : Rho) (σ : L2.St) : Prop := ρ.length = σ.length ∧ (∀ (i : Nat) d, ρ[i]? = some (some d) → ∃ v, σ[i]? = some (some v) ∧ VD M H d v) ∧ Step B.1 B.2 M H
section
variable {B : Bs} {M M' : Ms} {H H' : Hp} {ρ : Rho} {σ : L2.St}
theorem RS.step (st : Step M H M' H') (r : RS B M H ρ σ) : RS B M' H' ρ σ := ⟨r.1, fun i d e => by
  obtain ⟨v, e1, q⟩ := r.2.1 i d e
  exact ⟨v, e1, VD.step st _ _ q⟩, r.2.2.trans st⟩
theorem RS.set {d : D} {v : V} (i : Nat) (r : RS B M H ρ σ) (h : VD M H d v) : RS B M H (ρ.set i (some d)) (σ.set i (some v)) := by
  refine ⟨by simp [r.1], fun j x e => ?_, r.2.2⟩
  by_cases q : j = i
  · subst q
    have hj : j < ρ.length := by simpa using (List.getElem?_eq_some_iff.mp e).1
    rw [List.getElem?_set_self hj] at e
    cases e
    exact ⟨v, by rw [List.getElem?_set_self (by rw [← r.1]; exact hj)], h⟩
  · rw [List.getElem?_set_ne (Ne.symm q)] at e
    obtain ⟨y, e1, q1⟩ := r.2.1 j x e
    exact ⟨y, by rw [List.getElem?_set_ne (Ne.symm q)]; exact e1, q1⟩
end
/-! ### expressions -/
abbrev DQ := D → Mu → Prop
abbrev WE := Rho → Mu → DQ → Prop
/-- the wish over data, over values -/
def lft (μ : Mu) (H : Hp) (Q : DQ) : VK := fun v H' => ∃ d μ', Step (MD μ) H (MD μ') H' ∧ MH μ' H' ∧ VD (MD μ') H' d v ∧ Q d μ'
theorem lft.trans {μ μ1 : Mu} {H H1 H2 : Hp} {Q : DQ} {v : V} (st : Step (MD μ) H (MD μ1) H1) (h : lft μ1 H1 Q v H2) : lft μ H Q v H2 := by
  obtain ⟨d, μ', a, b, c, e⟩ := h
  exact ⟨d, μ', st.trans a, b, c, e⟩
def up (B : Bs) (w : WE) : TE := fun σ H Q => ∃ ρ μ QD, RS B (MD μ) H ρ σ ∧ MH μ H ∧ w ρ μ QD ∧ ∀ v H', lft μ H QD v H' → Q v H'
abbrev JE (B : Bs) (X : Cx) (e : Expr) (w : WE) : Prop := PE X e (up B w)
theorem PE.of {X : Cx} {e : Expr} {t t' : TE} (h : PE X e t) (g : ∀ σ H Q, t' σ H Q → t σ H Q) : PE X e t' := ⟨fun pins s σ H Q I q => h.run pins s σ H Q I (g σ H Q q)⟩
/-- how up is used: the parts in the state's own letters -/
theorem up_mk {w : WE} {σ : L2.St} {H : Hp} {Q : VK} {ρ : Rho} {μ : Mu} {QD : DQ} (r : RS B (MD μ) H ρ σ) (m : MH μ H) (h : w ρ μ QD) (k : ∀ v H' d μ', Step (MD μ) H (MD μ') H' → MH μ' H' → VD (MD μ') H' d v → QD d μ' → Q v H') : up B w σ H Q :=
  ⟨ρ, μ, QD, r, m, h, fun v H' ⟨d, μ', a, b, c, e⟩ => k v H' d μ' a b c e⟩
theorem lft_mk {μ : Mu} {H : Hp} {Q : DQ} {d : D} {v : V} (m : MH μ H) (h : VD (MD μ) H d v) (q : Q d μ) : lft μ H Q v H := ⟨d, μ, .refl, m, h, q⟩
end Dl
namespace Dl
open PySem PySem.Spec PyProof.Rows L2
variable {B : Bs}
/-! ### operations by data -/
abbrev F1 := D → Mu → DQ → Prop
abbrev F2 := D → D → Mu → DQ → Prop
abbrev FN := List D → Mu → DQ → Prop
def upF1 (r : F1) : V → Hp → VK → Prop := fun x H Q => ∃ d μ QD, VD (MD μ) H d x ∧ MH μ H ∧ r d μ QD ∧ ∀ v H', lft μ H QD v H' → Q v H'
def upF2 (r : F2) : R2 := fun x y H Q => ∃ d e μ QD, VD (MD μ) H d x ∧ VD (MD μ) H e y ∧ MH μ H ∧ r d e μ QD ∧ ∀ v H', lft μ H QD v H' → Q v H'
def upFN (r : FN) : List V → Hp → VK → Prop := fun xs H Q => ∃ ds μ QD, VDs (MD μ) H ds xs ∧ MH μ H ∧ r ds μ QD ∧ ∀ v H', lft μ H QD v H' → Q v H'
def upFM (r : D → FN) : V → List V → Hp → VK → Prop := fun x xs H Q => ∃ d ds μ QD, VD (MD μ) H d x ∧ VDs (MD μ) H ds xs ∧ MH μ H ∧ r d ds μ QD ∧ ∀ v H', lft μ H QD v H' → Q v H'
theorem OpR.of {X : Cx} {f : Value → Value → Sem Value} {r r' : R2} (h : OpR X f r) (g : ∀ x y H Q, r' x y H Q → r x y H Q) : OpR X f r' := fun pins s σ H x y v u Q I rx ry q => h pins s σ H x y v u Q I rx ry (g x y H Q q)
theorem UnR.of {X : Cx} {f : Value → Sem Value} {r r' : V → Hp → VK → Prop} (h : UnR X f r) (g : ∀ x H Q, r' x H Q → r x H Q) : UnR X f r' := fun pins s σ H x v Q I rx q => h pins s σ H x v Q I rx (g x H Q q)
theorem CallR.of {X : Cx} {f : Value} {r r' : List V → Hp → VK → Prop} (h : CallR X f r) (g : ∀ xs H Q, r' xs H Q → r xs H Q) : CallR X f r' := fun pins s σ H xs us Q I rx q => h pins s σ H xs us Q I rx (g xs H Q q)
theorem MtR.of {X : Cx} {id : String} {r r' : V → List V → Hp → VK → Prop} (h : MtR X id r) (g : ∀ x xs H Q, r' x xs H Q → r x xs H Q) : MtR X id r' := fun pins s σ H x xs v us Q I rx rxs q => h pins s σ H x xs v us Q I rx rxs (g x xs H Q q)
theorem IxR.of {X : Cx} {r r' : R2} (h : IxR X r) (g : ∀ x y H Q, r' x y H Q → r x y H Q) : IxR X r' := fun a b pins s σ H x y v u Q I rx ry q => h a b pins s σ H x y v u Q I rx ry (g x y H Q q)
theorem PT.of {X : Cx} {e : Expr} {t t' : TT} (h : PT X e t) (g : ∀ σ H Q, t' σ H Q → t σ H Q) : PT X e t' := ⟨fun pins s σ H Q I q => h.run pins s σ H Q I (g σ H Q q)⟩
theorem PW.of {X : Cx} {e : Expr} {t t' : TT} (h : PW X e t) (g : ∀ σ H Q, t' σ H Q → t σ H Q) : PW X e t' := ⟨fun whole pins s σ H Q I q => h.run whole pins s σ H Q I (g σ H Q q)⟩
theorem PA.of {X : Cx} {es : List Expr} {t t' : TA} (h : PA X es t) (g : ∀ σ H Q, t' σ H Q → t σ H Q) : PA X es t' := ⟨fun pos pins s σ H Q I q => h.run pos pins s σ H Q I (g σ H Q q)⟩
/-! ### names and constants -/
def wName (i : Nat) : WE := fun ρ μ Q => match ρ[i]? with
  | some (some d) => Q d μ
  | _ => False
def wC (d : D) : WE := fun _ μ Q => Q d μ
section
variable {X : Cx}
theorem je_name (i : Nat) {x : Str} {pos : Pos} (hN : X.N[i]? = some x := by rfl) (hv : Vis X.env.scope x := by first | exact Or.inl rfl | exact Or.inr (Or.inl rfl) | exact Or.inr (Or.inr rfl)) (hd : (x == ("__debug__" : Str)) = false := by decide)
    (hcd : (x == ("__classdict__" : Str)) = false := by decide) : JE B X (.Name x pos) (wName i) := PE.of (pe_var hN hv hd hcd) fun σ H Q ⟨ρ, μ, QD, r, m, h, k⟩ => by
  unfold wName at h
  split at h
  · rename_i d e
    obtain ⟨v, e1, q⟩ := r.2.1 i d e
    exact ⟨v, e1, k _ _ (lft_mk m q h)⟩
  · exact h.elim
theorem je_c {e : Expr} {v : V} {d : D} (h : PE X e (tC v)) (r : ∀ M H, VD M H d v) : JE B X e (wC d) := PE.of h fun σ H Q ⟨ρ, μ, QD, _, m, h, k⟩ => k _ _ (lft_mk m (r _ _) h)
theorem je_int {i j pos} : JE B X (.Constant (.int i) j pos) (wC (.int i)) := je_c pe_int fun _ _ => rfl
theorem je_bl {b j pos} : JE B X (.Constant (.bool b) j pos) (wC (.bl b)) := je_c pe_bl fun _ _ => rfl
theorem je_non {j pos} : JE B X (.Constant .none j pos) (wC .non) := je_c pe_non fun _ _ => rfl
theorem je_str {x j pos} : JE B X (.Constant (.str x) j pos) (wC (.str x)) := je_c pe_str fun _ _ => rfl
/-- a module's constant -/
theorem je_gint {x : Str} {i : Int} {t : Tok} {pos : Pos} (hm : X.mg x = some (.int i t)) (hg : Gl X x := by rfl) (hd : (x == ("__debug__" : Str)) = false := by decide) : JE B X (.Name x pos) (wC (.int i)) := je_c (pe_glob (v := .int i) hg hm ⟨t, rfl⟩ hd) fun _ _ => rfl
theorem je_gstr {x : Str} {z : Str} {t : Tok} {pos : Pos} (hm : X.mg x = some (.str z t)) (hg : Gl X x := by rfl) (hd : (x == ("__debug__" : Str)) = false := by decide) : JE B X (.Name x pos) (wC (.str z)) := je_c (pe_glob (v := .str z) hg hm ⟨t, rfl⟩ hd) fun _ _ => rfl
/-- a class of the text as a value; a built-in type as a value -/
theorem je_gref {x : Str} {a : Addr} {pos : Pos} (hm : X.mg x = some (.ref a)) (hg : Gl X x := by rfl) (hd : (x == ("__debug__" : Str)) = false := by decide) : JE B X (.Name x pos) (wC (.at a)) := je_c (pe_glob (v := .ref a) hg hm rfl hd) fun _ _ => rfl
theorem je_ty {x : Str} {n : String} {pos : Pos} (hm : X.mg x = none) (hv : bootBuiltins x = some (.type n)) (hg : Gl X x := by rfl) (hn : x ≠ "__name__" := by decide) (hd : (x == ("__debug__" : Str)) = false := by decide) : JE B X (.Name x pos) (wC (.ty n)) := je_c (pe_bltn (v := .ty n) hg hm hv rfl hn hd) fun _ _ => rfl
end
/-! ### new lists, new tuples -/
/-- a new list: it changes no more (false), or it may change (true) -/
def New (m : Bool) (ds : List D) (μ : Mu) (Q : DQ) : Prop := match m with
  | false => Q (.lst ds) μ
  | true => ∀ l, μ l = none → Q (.at l) (put μ l (.lst ds))
theorem lft_new {m : Bool} {μ : Mu} {H : Hp} {Q : DQ} {ds : List D} {xs : List V} {p : Addr} (mh : MH μ H) (hv : VDs (MD μ) H ds xs) (hp : H p = none) (q : New m ds μ Q) : lft μ H Q (.ref p) (upd H p (.lst xs)) := by
  have hn := mh.free hp
  cases m with
  | false =>
    have st : Step (MD μ) H (MD μ) (upd H p (.lst xs)) := .new hp
    exact ⟨.lst ds, μ, st, mh.newF hp, ⟨p, xs, rfl, ⟨fun ⟨o, e⟩ => (by rw [hn] at e; cases e), upd_same⟩, VDs.step st _ _ hv⟩, q⟩
  | true =>
    have st : Step (MD μ) H (MD (put μ p (.lst ds))) (upd H p (.lst xs)) := .newM hp
    exact ⟨.at p, put μ p (.lst ds), st, mh.newM hp ⟨xs, upd_same, VDs.step st _ _ hv⟩, rfl, q p hn⟩
theorem lft_tup {μ : Mu} {H : Hp} {Q : DQ} {ds : List D} {xs : List V} {p : Addr} (mh : MH μ H) (hv : VDs (MD μ) H ds xs) (hp : H p = none) (q : Q (.tup ds) μ) : lft μ H Q (.ref p) (upd H p (.tup xs)) := by
  have hn := mh.free hp
  have st : Step (MD μ) H (MD μ) (upd H p (.tup xs)) := .new hp
  exact ⟨.tup ds, μ, st, mh.newF hp, ⟨p, xs, rfl, ⟨fun ⟨o, e⟩ => (by rw [hn] at e; cases e), upd_same⟩, VDs.step st _ _ hv⟩, q⟩
/-! ### arguments, displays -/
abbrev WA := Rho → Mu → (List D → Mu → Prop) → Prop
def upA (B : Bs) (w : WA) : TA := fun σ H Q => ∃ ρ μ QD, RS B (MD μ) H ρ σ ∧ MH μ H ∧ w ρ μ QD ∧ ∀ vs H' ds μ', Step (MD μ) H (MD μ') H' → MH μ' H' → VDs (MD μ') H' ds vs → QD ds μ' → Q vs H'
abbrev JA (B : Bs) (X : Cx) (es : List Expr) (w : WA) : Prop := PA X es (upA B w)
def wNil : WA := fun _ μ Q => Q [] μ
def wCons (a : WE) (r : WA) : WA := fun ρ μ Q => a ρ μ fun d μ1 => r ρ μ1 fun ds μ2 => Q (d :: ds) μ2
section
variable {X : Cx} {e : Expr} {es : List Expr} {a : WE} {r : WA} {pos : Pos}
theorem ja_nil : JA B X [] wNil := PA.of pa_nil fun σ H Q ⟨ρ, μ, QD, _, m, h, k⟩ => k [] H [] μ .refl m rfl h
theorem ja_cons (ha : JE B X e a) (hr : JA B X es r) (hs : starEach (e :: es) X.env = (false, eval e X.env) :: starEach es X.env := by rfl) : JA B X (e :: es) (wCons a r) := PA.of (pa_cons ha hr hs) fun σ H Q ⟨ρ, μ, QD, rs, m, h, k⟩ =>
  up_mk rs m h fun v H1 d μ1 s1 m1 v1 h1 => ⟨ρ, μ1, _, rs.step s1, m1, h1, fun vs H2 ds μ2 s2 m2 v2 h2 => k _ _ (d :: ds) μ2 (s1.trans s2) m2 ⟨v, vs, rfl, VD.step s2 _ _ v1, v2⟩ h2⟩
def wLst (m : Bool) (w : WA) : WE := fun ρ μ Q => w ρ μ fun ds μ1 => ds.length ≤ sizeLine ∧ New m ds μ1 Q
def wTup (w : WA) : WE := fun ρ μ Q => w ρ μ fun ds μ1 => ds.length ≤ sizeLine ∧ Q (.tup ds) μ1
theorem je_lst (m : Bool) (h : JA B X es r) : JE B X (.List es pos) (wLst m r) := PE.of (pe_lst h) fun σ H Q ⟨ρ, μ, QD, rs, mh, h, k⟩ =>
  ⟨ρ, μ, _, rs, mh, h, fun vs H1 ds μ1 s1 m1 v1 h1 => ⟨by rw [← v1.length]; exact h1.1, fun p hp => k _ _ ((lft_new m1 v1 hp h1.2).trans s1)⟩⟩
theorem je_tup {x1} (h : JA B X es r) : JE B X (.Tuple es x1 pos) (wTup r) := PE.of (pe_tup h) fun σ H Q ⟨ρ, μ, QD, rs, mh, h, k⟩ =>
  ⟨ρ, μ, _, rs, mh, h, fun vs H1 ds μ1 s1 m1 v1 h1 => ⟨by rw [← v1.length]; exact h1.1, fun p hp => k _ _ ((lft_tup m1 v1 hp h1.2).trans s1)⟩⟩
end
/-- by cases upon a known truth -/
def Br (c : Bool) (A B : Prop) : Prop := (c = true → A) ∧ (c = false → B)
theorem Br.ite {c : Bool} {A B : Prop} (h : Br c A B) : if c = true then A else B := by
  cases c with
  | true => rw [if_pos rfl]; exact h.1 rfl
  | false => rw [if_neg Bool.false_ne_true]; exact h.2 rfl
theorem Br.mono {c : Bool} {A B A' B' : Prop} (h : Br c A B) (f : A → A') (g : B → B') : Br c A' B' := ⟨fun e => f (h.1 e), fun e => g (h.2 e)⟩
/-- a value that is True or False -/
def isBl (d : D) (Q : Bool → Prop) : Prop := match d with
  | .bl b => Q b
  | _ => False
theorem isBl.val {d : D} {Q : Bool → Prop} (h : isBl d Q) : ∃ b, d = .bl b ∧ Q b := by
  cases d with
  | bl b => exact ⟨b, rfl, h⟩
  | _ => exact h.elim
/-! ### operators -/
def wOp (f : F2) (a b : WE) : WE := fun ρ μ Q => a ρ μ fun d μ1 => b ρ μ1 fun e μ2 => f d e μ2 Q
def wUn (f : F1) (a : WE) : WE := fun ρ μ Q => a ρ μ fun d μ1 => f d μ1 Q
theorem up_op {f : F2} {a b : WE} {σ : L2.St} {H : Hp} {Q : VK} (h : up B (wOp f a b) σ H Q) : tOp (upF2 f) (up B a) (up B b) σ H Q := by
  obtain ⟨ρ, μ, QD, rs, m, h, k⟩ := h
  exact up_mk rs m h fun v H1 d μ1 s1 m1 v1 h1 => up_mk (rs.step s1) m1 h1 fun u H2 e μ2 s2 m2 v2 h2 => ⟨d, e, μ2, QD, VD.step s2 _ _ v1, v2, m2, h2, fun z H3 q => k z H3 (q.trans (s1.trans s2))⟩
section
variable {X : Cx} {x y : Expr} {a b : WE} {f : F2} {g : F1} {pos : Pos}
theorem je_op {op : Operator} (ho : OpR X (binaryOp op) (upF2 f)) (ha : JE B X x a) (hb : JE B X y b) : JE B X (.BinOp x op y pos) (wOp f a b) := PE.of (pe_op ho ha hb) fun _ _ _ h => up_op h
theorem je_un {op : UnaryOp} (ho : UnR X (unaryOp op) (upF1 g)) (ha : JE B X x a) : JE B X (.UnaryOp op x pos) (wUn g a) := PE.of (pe_un ho ha) fun σ H Q ⟨ρ, μ, QD, rs, m, h, k⟩ =>
  up_mk rs m h fun v H1 d μ1 s1 m1 v1 h1 => ⟨d, μ1, QD, v1, m1, h1, fun z H3 q => k z H3 (q.trans s1)⟩
theorem je_cmp {op : CmpOp} (ho : OpR X (compareOp op) (upF2 f)) (ha : JE B X x a) (hb : JE B X y b) (hm : behindInMarks op y = false := by first | exact nomark _ (by decide) (by decide) | rfl) : JE B X (.Compare x [op] [y] pos) (wOp f a b) := PE.of (pe_cmpR ho ha hb hm) fun _ _ _ h => up_op h
theorem je_ix (ho : IxR X (upF2 f)) (ha : JE B X x a) (hb : JE B X y b) (hs : PlainIx y := by exact fun _ _ => rfl) : JE B X (.Subscript x y pos) (wOp f a b) := PE.of (pe_ix ho ha hb hs) fun _ _ _ h => up_op h
/-- a op b op' c -/
def wChain (f f' : F2) (a b c : WE) : WE := fun ρ μ Q => a ρ μ fun d μ1 => b ρ μ1 fun e μ2 => f d e μ2 fun z μ3 => isBl z fun k => Br k (c ρ μ3 fun g μ4 => f' e g μ4 Q) (Q (.bl false) μ3)
section
variable {z : Expr} {c : WE} {f' : F2}
theorem up_chain {σ : L2.St} {H : Hp} {Q : VK} (h : up B (wChain f f' a b c) σ H Q) : tChain (upF2 f) (upF2 f') (up B a) (up B b) (up B c) σ H Q := by
  obtain ⟨ρ, μ, QD, rs, m, h, k⟩ := h
  refine up_mk rs m h fun v H1 d μ1 s1 m1 v1 h1 => up_mk (rs.step s1) m1 h1 fun u H2 e μ2 s2 m2 v2 h2 => ⟨d, e, μ2, _, VD.step s2 _ _ v1, v2, m2, h2, fun w' H3 ⟨g, μ3, s3, m3, v3, hz⟩ => ?_⟩
  obtain ⟨kk, rfl, ht, hf⟩ := hz.val
  refine ⟨kk, v3, ?_⟩
  have s123 := (s1.trans s2).trans s3
  cases kk with
  | false =>
    rw [if_neg Bool.false_ne_true]
    exact k _ _ ⟨.bl false, μ3, s123, m3, rfl, hf rfl⟩
  | true =>
    rw [if_pos rfl]
    exact up_mk (rs.step s123) m3 (ht rfl) fun t H4 g μ4 s4 m4 v4 h4 => ⟨e, g, μ4, QD, VD.step (s3.trans s4) _ _ v2, v4, m4, h4, fun q H5 hq => k q H5 (hq.trans (s123.trans s4))⟩
theorem je_chain {op op' : CmpOp} (ho : OpR X (compareOp op) (upF2 f)) (ho' : OpR X (compareOp op') (upF2 f')) (ha : JE B X x a) (hb : JE B X y b) (hc : JE B X z c)
    (hm : lastMarks [op, op'] [y, z] = false := by with_unfolding_all rfl) : JE B X (.Compare x [op, op'] [y, z] pos) (wChain f f' a b c) := PE.of (pe_chain ho ho' ha hb hc hm) fun _ _ _ h => up_chain h
end
end
/-! ### tests, truths, choices -/
abbrev WT := Rho → Mu → (Bool → Mu → Prop) → Prop
def upT (B : Bs) (w : WT) : TT := fun σ H Q => ∃ ρ μ QD, RS B (MD μ) H ρ σ ∧ MH μ H ∧ w ρ μ QD ∧ ∀ b H' μ', Step (MD μ) H (MD μ') H' → MH μ' H' → QD b μ' → Q b H'
abbrev JT (B : Bs) (X : Cx) (e : Expr) (w : WT) : Prop := PT X e (upT B w)
abbrev JW (B : Bs) (X : Cx) (e : Expr) (w : WT) : Prop := PW X e (upT B w)
theorem upT_mk {w : WT} {σ : L2.St} {H : Hp} {Q : Bool → Hp → Prop} {ρ : Rho} {μ : Mu} {QD : Bool → Mu → Prop} (r : RS B (MD μ) H ρ σ) (m : MH μ H) (h : w ρ μ QD) (k : ∀ b H' μ', Step (MD μ) H (MD μ') H' → MH μ' H' → QD b μ' → Q b H') : upT B w σ H Q := ⟨ρ, μ, QD, r, m, h, k⟩
def wB (a : WE) : WT := fun ρ μ Q => a ρ μ fun d μ1 => isBl d fun b => Q b μ1
def wAndT (s t : WT) : WT := fun ρ μ Q => s ρ μ fun c μ1 => Br c (t ρ μ1 Q) (Q false μ1)
def wOrT (s t : WT) : WT := fun ρ μ Q => s ρ μ fun c μ1 => Br c (Q true μ1) (t ρ μ1 Q)
def wNotT (t : WT) : WT := fun ρ μ Q => t ρ μ fun c μ1 => Q (!c) μ1
def wIfE (t : WT) (a b : WE) : WE := fun ρ μ Q => t ρ μ fun c μ1 => Br c (a ρ μ1 Q) (b ρ μ1 Q)
def wAndV (a b : WE) : WE := fun ρ μ Q => a ρ μ fun d μ1 => isBl d fun c => Br c (b ρ μ1 Q) (Q (.bl false) μ1)
def wOrV (a b : WE) : WE := fun ρ μ Q => a ρ μ fun d μ1 => isBl d fun c => Br c (Q (.bl true) μ1) (b ρ μ1 Q)
def wNotV (a : WE) : WE := fun ρ μ Q => a ρ μ fun d μ1 => isBl d fun c => Q (.bl (!c)) μ1
section
variable {X : Cx} {x y z : Expr} {es : List Expr} {a b : WE} {s t : WT} {pos : Pos}
theorem up_tB {σ : L2.St} {H : Hp} {Q : Bool → Hp → Prop} (h : upT B (wB a) σ H Q) : up B a σ H (fun v H1 => ∃ c, v = .bl c ∧ Q c H1) := by
  obtain ⟨ρ, μ, QD, rs, m, h, k⟩ := h
  refine up_mk rs m h fun v H1 d μ1 s1 m1 v1 h1 => ?_
  obtain ⟨c, rfl, q⟩ := h1.val
  exact ⟨c, v1, k c H1 μ1 s1 m1 q⟩
/-- an expression whose value is a truth, as a test -/
theorem jt_val (h : JE B X x a) (he : ∀ whole, isTrue x X.env whole = (do let v ← whole; standAt x.pos; holding [v] (truthy v)) := by intro _; rfl) : JT B X x (wB a) := PT.of (pt_val h he) fun _ _ _ q => up_tB q
theorem jt_cmp {f : F2} {op : CmpOp} (ho : OpR X (compareOp op) (upF2 f)) (ha : JE B X x a) (hb : JE B X y b) (hm : behindInMarks op y = false := by first | exact nomark _ (by decide) (by decide) | rfl) : JT B X (.Compare x [op] [y] pos) (wB (wOp f a b)) :=
  PT.of (pt_cmpR ho ha hb hm) fun σ H Q h => up_op (up_tB h)
theorem jt_chain {f f' : F2} {c : WE} {op op' : CmpOp} (ho : OpR X (compareOp op) (upF2 f)) (ho' : OpR X (compareOp op') (upF2 f')) (ha : JE B X x a) (hb : JE B X y b) (hc : JE B X z c)
    (hm : lastMarks [op, op'] [y, z] = false := by with_unfolding_all rfl) : JT B X (.Compare x [op, op'] [y, z] pos) (wB (wChain f f' a b c)) := PT.of (pt_chain ho ho' ha hb hc hm) fun σ H Q h => up_chain (up_tB h)
theorem jt_not (h : JT B X x t) : JT B X (.UnaryOp .Not x pos) (wNotT t) := PT.of (pt_not h) fun σ H Q ⟨ρ, μ, QD, rs, m, h, k⟩ => upT_mk rs m h fun c H1 μ1 s1 m1 h1 => k _ _ _ s1 m1 h1
theorem jw_and1 (h : JT B X x t) : JW B X (.BoolOp .And [x] pos) t := pw_and1 h
theorem jw_or1 (h : JT B X x t) : JW B X (.BoolOp .Or [x] pos) t := pw_or1 h
theorem jw_and (h : JT B X x s) (g : JW B X (.BoolOp .And (y :: es) pos) t) : JW B X (.BoolOp .And (x :: y :: es) pos) (wAndT s t) := PW.of (pw_and h g) fun σ H Q ⟨ρ, μ, QD, rs, m, h, k⟩ =>
  upT_mk rs m h fun c H1 μ1 s1 m1 h1 => (h1.mono (fun q => upT_mk (rs.step s1) m1 q fun b H2 μ2 s2 m2 h2 => k b H2 μ2 (s1.trans s2) m2 h2) fun q => k _ _ _ s1 m1 q).ite
theorem jw_or (h : JT B X x s) (g : JW B X (.BoolOp .Or (y :: es) pos) t) : JW B X (.BoolOp .Or (x :: y :: es) pos) (wOrT s t) := PW.of (pw_or h g) fun σ H Q ⟨ρ, μ, QD, rs, m, h, k⟩ =>
  upT_mk rs m h fun c H1 μ1 s1 m1 h1 => (h1.mono (fun q => k _ _ _ s1 m1 q) fun q => upT_mk (rs.step s1) m1 q fun b H2 μ2 s2 m2 h2 => k b H2 μ2 (s1.trans s2) m2 h2).ite
theorem jt_w (h : JW B X x t) : JT B X x t := h.pt
theorem je_if (h : JT B X z t) (ha : JE B X x a) (hb : JE B X y b) : JE B X (.IfExp z x y pos) (wIfE t a b) := PE.of (pe_ifExp h ha hb) fun σ H Q ⟨ρ, μ, QD, rs, m, h, k⟩ =>
  upT_mk rs m h fun c H1 μ1 s1 m1 h1 => (h1.mono (fun q => ⟨ρ, μ1, QD, rs.step s1, m1, q, fun v H2 z => k v H2 (z.trans s1)⟩) fun q => ⟨ρ, μ1, QD, rs.step s1, m1, q, fun v H2 z => k v H2 (z.trans s1)⟩).ite
theorem je_one {op} (h : JE B X x a) : JE B X (.BoolOp op [x] pos) a := pe_one h
theorem je_and (ha : JE B X x a) (hb : JE B X (.BoolOp .And (y :: es) pos) b) : JE B X (.BoolOp .And (x :: y :: es) pos) (wAndV a b) := PE.of (pe_and ha hb) fun σ H Q ⟨ρ, μ, QD, rs, m, h, k⟩ =>
  up_mk rs m h fun v H1 d μ1 s1 m1 v1 h1 => by
    obtain ⟨c, rfl, q⟩ := h1.val
    exact ⟨c, v1, (q.mono (fun q => ⟨ρ, μ1, QD, rs.step s1, m1, q, fun v H2 z => k v H2 (z.trans s1)⟩) fun q => k _ _ ⟨.bl false, μ1, s1, m1, rfl, q⟩).ite⟩
theorem je_or (ha : JE B X x a) (hb : JE B X (.BoolOp .Or (y :: es) pos) b) : JE B X (.BoolOp .Or (x :: y :: es) pos) (wOrV a b) := PE.of (pe_or ha hb) fun σ H Q ⟨ρ, μ, QD, rs, m, h, k⟩ =>
  up_mk rs m h fun v H1 d μ1 s1 m1 v1 h1 => by
    obtain ⟨c, rfl, q⟩ := h1.val
    exact ⟨c, v1, (q.mono (fun q => k _ _ ⟨.bl true, μ1, s1, m1, rfl, q⟩) fun q => ⟨ρ, μ1, QD, rs.step s1, m1, q, fun v H2 z => k v H2 (z.trans s1)⟩).ite⟩
theorem je_not (ha : JE B X x a) : JE B X (.UnaryOp .Not x pos) (wNotV a) := PE.of (pe_not ha) fun σ H Q ⟨ρ, μ, QD, rs, m, h, k⟩ =>
  up_mk rs m h fun v H1 d μ1 s1 m1 v1 h1 => by
    obtain ⟨c, rfl, q⟩ := h1.val
    exact ⟨c, v1, k _ _ ⟨.bl (!c), μ1, s1, m1, rfl, q⟩⟩
end
end Dl
namespace Dl
open PySem PySem.Spec PyProof.Rows L2
variable {B : Bs}
/-! ### lists that are read, lists that may be worked with -/
/-- the items of a list that is data or may change -/
def Ls (μ : Mu) : D → List D → Prop
  | .lst xs, ds => xs = ds
  | .at l, ds => μ l = some (.lst ds)
  | _, _ => False
/-- .. or is read only -/
def Lr (μ : Mu) : D → List D → Prop
  | .lst xs, ds => xs = ds
  | .at l, ds => μ l = some (.lst ds) ∨ μ l = some (.ro ds)
  | _, _ => False
/-- the items of a list or tuple -/
def Sq (μ : Mu) : D → List D → Prop
  | .tup xs, ds => xs = ds
  | d, ds => Lr μ d ds
section
variable {μ : Mu} {H : Hp} {d : D} {ds : List D} {x : V}
theorem Ls.to (mh : MH μ H) (v : VD (MD μ) H d x) (h : Ls μ d ds) : ∃ a xs, x = .ref a ∧ H a = some (.lst xs) ∧ VDs (MD μ) H ds xs := by
  cases d with
  | lst es =>
    obtain ⟨a, xs, e, f, g⟩ := v
    have h' : es = ds := h
    subst h'
    exact ⟨a, xs, e, f.2, g⟩
  | «at» l =>
    obtain ⟨xs, e, g⟩ := mh l _ h
    exact ⟨l, xs, v, e, g⟩
  | _ => exact h.elim
theorem Lr.to (mh : MH μ H) (v : VD (MD μ) H d x) (h : Lr μ d ds) : ∃ a xs, x = .ref a ∧ Rd H a (.lst xs) ∧ VDs (MD μ) H ds xs := by
  cases d with
  | lst es =>
    obtain ⟨a, xs, e, f, g⟩ := v
    have h' : es = ds := h
    subst h'
    exact ⟨a, xs, e, .inl f.2, g⟩
  | «at» l =>
    rcases h with h | h
    · obtain ⟨xs, e, g⟩ := mh l _ h
      exact ⟨l, xs, v, .inl e, g⟩
    · obtain ⟨xs, e, g⟩ := mh l _ h
      exact ⟨l, xs, v, e, g⟩
  | _ => exact h.elim
theorem Sq.to (K : Frg) (mh : MH μ H) (v : VD (MD μ) H d x) (h : Sq μ d ds) : ∃ a xs, x = .ref a ∧ (SqL K H a xs ∨ SqT K H a xs) ∧ VDs (MD μ) H ds xs := by
  cases d with
  | tup es =>
    obtain ⟨a, xs, e, f, g⟩ := v
    have h' : es = ds := h
    subst h'
    exact ⟨a, xs, e, .inr (SqT.of f.2), g⟩
  | lst es =>
    obtain ⟨a, xs, e, f, g⟩ := Lr.to mh v (show Lr μ (.lst es) ds from h)
    exact ⟨a, xs, e, .inl (.inl f), g⟩
  | «at» l =>
    obtain ⟨a, xs, e, f, g⟩ := Lr.to mh v (show Lr μ (.at l) ds from h)
    exact ⟨a, xs, e, .inl (.inl f), g⟩
  | _ => exact h.elim
end
/-! ### what data come to -/
mutual
inductive Rs (μ : Mu) : D → PyData → Prop
  | non : Rs μ .non .none
  | bl (b : Bool) : Rs μ (.bl b) (.bool b)
  | int (i : Int) : Rs μ (.int i) (.int i)
  | str (x : Str) : Rs μ (.str x) (.str x)
  | lst {ds : List D} {ps : List PyData} : Rss μ ds ps → Rs μ (.lst ds) (.list ps)
  | tup {ds : List D} {ps : List PyData} : Rss μ ds ps → Rs μ (.tup ds) (.tuple ps)
  | «at» {l : Addr} {ds : List D} {ps : List PyData} : μ l = some (.lst ds) → Rss μ ds ps → Rs μ (.at l) (.list ps)
inductive Rss (μ : Mu) : List D → List PyData → Prop
  | nil : Rss μ [] []
  | cons {d : D} {ds : List D} {p : PyData} {ps : List PyData} : Rs μ d p → Rss μ ds ps → Rss μ (d :: ds) (p :: ps)
end
theorem Rss.map {α : Type} {μ : Mu} {f : α → D} {g : α → PyData} : ∀ {l : List α}, (∀ x ∈ l, Rs μ (f x) (g x)) → Rss μ (l.map f) (l.map g)
  | [], _ => .nil
  | x :: l, h => .cons (h x List.mem_cons_self) (Rss.map fun y hy => h y (List.mem_cons_of_mem _ hy))
mutual
theorem Rs.dp {K : Frg} {μ : Mu} {H : Hp} (mh : MH μ H) : ∀ (p : PyData) (d : D) (v : V), Rs μ d p → VD (MD μ) H d v → Dp K H v p
  | .none, _, _, r, h => by cases r; rw [show _ = V.non from h]; exact .non
  | .bool b, _, _, r, h => by cases r; rw [show _ = V.bl b from h]; exact .bl b
  | .int i, _, _, r, h => by cases r; rw [show _ = V.int i from h]; exact .int i
  | .str x, _, _, r, h => by cases r; rw [show _ = V.str x from h]; exact .str x
  | .list ps, _, _, r, h => by
    cases r with
    | lst rs =>
      obtain ⟨a, xs, rfl, f, g⟩ := h
      exact .lst (SqL.of f.2) (Rss.dp mh ps _ _ rs g)
    | «at» e rs =>
      obtain ⟨xs, q, g⟩ := mh _ _ e
      rw [show _ = V.ref _ from h]
      exact .lst (SqL.of q) (Rss.dp mh ps _ _ rs g)
  | .tuple ps, _, _, r, h => by
    cases r with
    | tup rs =>
      obtain ⟨a, xs, rfl, f, g⟩ := h
      exact .tup (SqT.of f.2) (Rss.dp mh ps _ _ rs g)
  | .dict _, _, _, r, _ => by cases r
theorem Rss.dp {K : Frg} {μ : Mu} {H : Hp} (mh : MH μ H) : ∀ (ps : List PyData) (ds : List D) (vs : List V), Rss μ ds ps → VDs (MD μ) H ds vs → DpAll K H vs ps
  | [], _, _, r, h => by cases r; rw [show _ = [] from h]; exact .nil
  | p :: ps, _, _, r, h => by
    cases r with
    | cons r1 r2 =>
      obtain ⟨v, vs, rfl, h1, h2⟩ := h
      exact .cons (Rs.dp mh p _ _ r1 h1) (Rss.dp mh ps _ _ r2 h2)
end
mutual
theorem Rs.plain {μ : Mu} : ∀ (p : PyData) (d : D), Rs μ d p → p.plain = true
  | .none, _, _ => rfl
  | .bool _, _, _ => rfl
  | .int _, _, _ => rfl
  | .str _, _, _ => rfl
  | .list ps, _, r => by
    show PyData.plainAll ps = true
    cases r with
    | lst rs => exact Rss.plain ps _ rs
    | «at» e rs => exact Rss.plain ps _ rs
  | .tuple ps, _, r => by
    show PyData.plainAll ps = true
    cases r with
    | tup rs => exact Rss.plain ps _ rs
  | .dict _, _, r => by cases r
theorem Rss.plain {μ : Mu} : ∀ (ps : List PyData) (ds : List D), Rss μ ds ps → PyData.plainAll ps = true
  | [], _, _ => rfl
  | p :: ps, _, r => by
    cases r with
    | cons r1 r2 => simp only [PyData.plainAll, Rs.plain p _ r1, Rss.plain ps _ r2, Bool.and_self]
end
/-! ### == and != -/
def EqQ (μ : Mu) (d e : D) (Q : Bool → Prop) : Prop := match d, e with
  | .int i, .int j => Q (decide (i = j))
  | .str x, .str y => Q (decide (x = y))
  | .bl a, .bl b => Q (decide (a = b))
  | d, e => ∃ p q, Rs μ d p ∧ Rs μ e q ∧ min p.depth q.depth ≤ 60 ∧ Q (PyData.eqv p q)
theorem EqQ.to {μ : Mu} {d e : D} {Q : Bool → Prop} (h : EqQ μ d e Q) : ∃ p q, Rs μ d p ∧ Rs μ e q ∧ min p.depth q.depth ≤ 60 ∧ Q (PyData.eqv p q) := by
  unfold EqQ at h
  split at h
  · rename_i i j
    refine ⟨.int i, .int j, .int i, .int j, by simp [PyData.depth], ?_⟩
    simp only [PyData.eqv]; rw [Bool.beq_eq_decide_eq]; exact h
  · rename_i i j
    refine ⟨.str i, .str j, .str i, .str j, by simp [PyData.depth], ?_⟩
    simp only [PyData.eqv]; rw [Bool.beq_eq_decide_eq]; exact h
  · rename_i i j
    refine ⟨.bool i, .bool j, .bl i, .bl j, by simp [PyData.depth], ?_⟩
    simp only [PyData.eqv]; rw [Bool.beq_eq_decide_eq]; exact h
  · exact h
def fEq : F2 := fun d e μ Q => EqQ μ d e fun b => Q (.bl b) μ
def fNe : F2 := fun d e μ Q => EqQ μ d e fun b => Q (.bl (!b)) μ
section
variable {X : Cx}
theorem od_eq (hu : X.A.units + 65 < cLine) : OpR X (compareOp .Eq) (upF2 fEq) := fun pins s σ H x y v u Q I rx ry ⟨d, e, μ, QD, hx, hy, mh, h, k⟩ => by
  obtain ⟨p, q, rp, rq, sp, hq⟩ := EqQ.to h
  obtain ⟨as, r1⟩ := Dp.reads I p x v (Rs.dp mh p d x rp hx) rx
  obtain ⟨bs, r2⟩ := Dp.reads I q y u (Rs.dp mh q e y rq hy) ry
  exact SeqAt.eq_plain r1 r2 (rp.plain p d) (rq.plain q e) (by omega) ⟨.bl _, H, I, rfl, k _ _ (lft_mk (d := .bl _) mh rfl hq)⟩
theorem od_ne (hu : X.A.units + 65 < cLine) : OpR X (compareOp .NotEq) (upF2 fNe) := fun pins s σ H x y v u Q I rx ry ⟨d, e, μ, QD, hx, hy, mh, h, k⟩ => by
  obtain ⟨p, q, rp, rq, sp, hq⟩ := EqQ.to h
  obtain ⟨as, r1⟩ := Dp.reads I p x v (Rs.dp mh p d x rp hx) rx
  obtain ⟨bs, r2⟩ := Dp.reads I q y u (Rs.dp mh q e y rq hy) ry
  exact SeqAt.ne_plain r1 r2 (rp.plain p d) (rq.plain q e) (by omega) ⟨.bl _, H, I, rfl, k _ _ (lft_mk (d := .bl _) mh rfl hq)⟩
/-! ### x in xs, of data -/
def fIn (n : Bool) : F2 := fun d e μ Q => ∃ p qs, Rs μ d p ∧ (Rs μ e (.list qs) ∨ Rs μ e (.tuple qs)) ∧ min (PyData.depthAll qs) p.depth ≤ 60 ∧ Q (.bl (if n then !qs.any (fun z => PyData.eqv z p) else qs.any fun z => PyData.eqv z p)) μ
theorem od_in (hu : X.A.units + 65 < cLine) : OpR X (compareOp .In) (upF2 (fIn false)) := fun pins s σ H x y v u Q I rx ry ⟨d, e, μ, QD, hx, hy, mh, ⟨p, qs, rp, rq, sp, hq⟩, k⟩ => by
  obtain ⟨as, r1⟩ := Dp.reads I p x v (Rs.dp mh p d x rp hx) rx
  rcases rq with rq | rq
  · obtain ⟨bs, r2⟩ := Dp.reads I (.list qs) y u (Rs.dp mh _ e y rq hy) ry
    exact SeqAt.in_list_data r2 r1 (rq.plain _ e) (rp.plain p d) (by omega) ⟨.bl _, H, I, rfl, k _ _ (lft_mk (d := .bl _) mh rfl hq)⟩
  · obtain ⟨bs, r2⟩ := Dp.reads I (.tuple qs) y u (Rs.dp mh _ e y rq hy) ry
    exact SeqAt.in_tuple_data r2 r1 (rq.plain _ e) (rp.plain p d) (by omega) ⟨.bl _, H, I, rfl, k _ _ (lft_mk (d := .bl _) mh rfl hq)⟩
theorem od_notin (hu : X.A.units + 65 < cLine) : OpR X (compareOp .NotIn) (upF2 (fIn true)) := fun pins s σ H x y v u Q I rx ry ⟨d, e, μ, QD, hx, hy, mh, ⟨p, qs, rp, rq, sp, hq⟩, k⟩ => by
  obtain ⟨as, r1⟩ := Dp.reads I p x v (Rs.dp mh p d x rp hx) rx
  rcases rq with rq | rq
  · obtain ⟨bs, r2⟩ := Dp.reads I (.list qs) y u (Rs.dp mh _ e y rq hy) ry
    exact SeqAt.notIn_list_data r2 r1 (rq.plain _ e) (rp.plain p d) (by omega) ⟨.bl _, H, I, rfl, k _ _ (lft_mk (d := .bl _) mh rfl hq)⟩
  · obtain ⟨bs, r2⟩ := Dp.reads I (.tuple qs) y u (Rs.dp mh _ e y rq hy) ry
    exact SeqAt.notIn_tuple_data r2 r1 (rq.plain _ e) (rp.plain p d) (by omega) ⟨.bl _, H, I, rfl, k _ _ (lft_mk (d := .bl _) mh rfl hq)⟩
/-! ### arithmetic -/
def fAdd (m : Bool) : F2 := fun d e μ Q => match d, e with
  | .int i, .int j => Q (.int (i + j)) μ
  | .str x, .str y => x.length + y.length ≤ sizeLine ∧ Q (.str (x ++ y)) μ
  | .tup xs, .tup ys => xs ≠ [] ∧ xs.length + ys.length ≤ sizeLine ∧ Q (.tup (xs ++ ys)) μ
  | d, e => ∃ xs ys, Ls μ d xs ∧ Ls μ e ys ∧ xs.length + ys.length ≤ sizeLine ∧ New m (xs ++ ys) μ Q
theorem od_add (m : Bool) : OpR X (binaryOp .Add) (upF2 (fAdd m)) := OpR.of ((op_add.or op_add_str).or (op_catT.or op_cat)) fun x y H Q ⟨d, e, μ, QD, hx, hy, mh, h, k⟩ => by
  unfold fAdd at h
  split at h
  · rename_i i j
    exact .inl (.inl ⟨i, j, hx, hy, k _ _ (lft_mk (d := .int _) mh rfl h)⟩)
  · rename_i i j
    exact .inl (.inr ⟨i, j, hx, hy, h.1, k _ _ (lft_mk (d := .str _) mh rfl h.2)⟩)
  · rename_i i j
    obtain ⟨a, xs, ex, f, g⟩ := hx
    obtain ⟨b, ys, ey, f2, g2⟩ := hy
    have l1 := g.length
    have l2 := g2.length
    refine .inr (.inl ⟨a, b, xs, ys, ex, ey, SqT.of f.2, SqT.of f2.2, ?_, by omega, ?_⟩)
    · intro e0
      rw [e0] at l1
      exact h.1 (List.length_eq_zero_iff.mp l1)
    · refine ⟨fun c => ?_, fun _ p hp => k _ _ (lft_tup mh (g.append g2) hp h.2.2)⟩
      have c' : j = [] := by
        rw [c] at l2
        exact List.length_eq_zero_iff.mp l2
      have hq := h.2.2
      rw [c', List.append_nil] at hq
      rw [← ex]
      exact k _ _ (lft_mk (d := .tup i) mh ⟨a, xs, ex, f, g⟩ hq)
  · obtain ⟨xs, ys, h1, h2, h3, h4⟩ := h
    obtain ⟨a, vs, ex, f, g⟩ := h1.to mh hx
    obtain ⟨b, ws, ey, f2, g2⟩ := h2.to mh hy
    exact .inr (.inr ⟨a, b, vs, ws, ex, ey, f, f2, by rw [← g.length, ← g2.length]; exact h3, fun p hp => k _ _ (lft_new mh (g.append g2) hp h4)⟩)
/-- ints in, under a condition -/
def fI (C : Int → Int → Prop) (g : Int → Int → D) : F2 := fun d e μ Q => match d, e with
  | .int i, .int j => C i j ∧ Q (g i j) μ
  | _, _ => False
def fI0 (g : Int → Int → D) : F2 := fun d e μ Q => match d, e with
  | .int i, .int j => Q (g i j) μ
  | _, _ => False
theorem od_I {f : Value → Value → Sem Value} {C : Int → Int → Prop} {gv : Int → Int → V} {g : Int → Int → D} (h : OpR X f (rI C gv)) (r : ∀ M H i j, VD M H (g i j) (gv i j)) : OpR X f (upF2 (fI C g)) := OpR.of h fun x y H Q ⟨d, e, μ, QD, hx, hy, mh, h, k⟩ => by
  unfold fI at h
  split at h
  · rename_i i j
    exact ⟨i, j, hx, hy, h.1, k _ _ (lft_mk mh (r _ _ _ _) h.2)⟩
  · exact h.elim
theorem od_I0 {f : Value → Value → Sem Value} {gv : Int → Int → V} {g : Int → Int → D} (h : OpR X f (rI0 gv)) (r : ∀ M H i j, VD M H (g i j) (gv i j)) : OpR X f (upF2 (fI0 g)) := OpR.of h fun x y H Q ⟨d, e, μ, QD, hx, hy, mh, h, k⟩ => by
  unfold fI0 at h
  split at h
  · rename_i i j
    exact ⟨i, j, hx, hy, k _ _ (lft_mk mh (r _ _ _ _) h)⟩
  · exact h.elim
theorem od_sub : OpR X (binaryOp .Sub) (upF2 (fI0 fun i j => .int (i - j))) := od_I0 op_sub fun _ _ _ _ => rfl
theorem od_fdiv : OpR X (binaryOp .FloorDiv) (upF2 (fI CDivW fun i j => .int (i / j))) := od_I op_fdivW fun _ _ _ _ => rfl
theorem od_mod : OpR X (binaryOp .Mod) (upF2 (fI (fun _ j => 0 < j) fun i j => .int (i % j))) := od_I op_mod fun _ _ _ _ => rfl
theorem od_pow : OpR X (binaryOp .Pow) (upF2 (fI CPow fun i j => .int (i ^ j.toNat))) := od_I op_pow fun _ _ _ _ => rfl
theorem od_lt : OpR X (compareOp .Lt) (upF2 (fI0 fun i j => .bl (decide (i < j)))) := od_I0 op_lt fun _ _ _ _ => rfl
theorem od_le : OpR X (compareOp .LtE) (upF2 (fI0 fun i j => .bl (decide (i ≤ j)))) := od_I0 op_le fun _ _ _ _ => rfl
theorem od_gt : OpR X (compareOp .Gt) (upF2 (fI0 fun i j => .bl (decide (j < i)))) := od_I0 op_gt fun _ _ _ _ => rfl
theorem od_ge : OpR X (compareOp .GtE) (upF2 (fI0 fun i j => .bl (decide (j ≤ i)))) := od_I0 op_ge fun _ _ _ _ => rfl
/-- a product; a list times an int -/
def fMul (m : Bool) : F2 := fun d e μ Q => match d, e with
  | .int i, .int j => CMul i j ∧ Q (.int (i * j)) μ
  | d, .int j => ∃ xs, Ls μ d xs ∧ 0 ≤ j ∧ j < 2 ^ 63 ∧ xs.length * j.toNat ≤ sizeLine ∧ New m (List.replicate j.toNat xs).flatten μ Q
  | _, _ => False
theorem VDs.rep {M : Ms} {H : Hp} {ds : List D} {vs : List V} (h : VDs M H ds vs) : ∀ n : Nat, VDs M H (List.replicate n ds).flatten (List.replicate n vs).flatten
  | 0 => rfl
  | n + 1 => by
    rw [List.replicate_succ, List.replicate_succ, List.flatten_cons, List.flatten_cons]
    exact h.append (VDs.rep h n)
theorem od_mul (m : Bool) : OpR X (binaryOp .Mult) (upF2 (fMul m)) := OpR.of (op_mul.or op_rep) fun x y H Q ⟨d, e, μ, QD, hx, hy, mh, h, k⟩ => by
  unfold fMul at h
  split at h
  · rename_i i j
    exact .inl ⟨i, j, hx, hy, h.1, k _ _ (lft_mk (d := .int _) mh rfl h.2)⟩
  · rename_i j _
    obtain ⟨xs, h1, h2, h3, h4, h5⟩ := h
    obtain ⟨a, vs, ex, f, g⟩ := h1.to mh hx
    refine .inr ⟨a, j, vs, ex, hy, f, by omega, h3, by rw [← g.length]; exact h4, ?_⟩
    exact fun p hp => k _ _ (lft_new mh (VDs.rep g j.toNat) hp h5)
  · exact h.elim
def fNeg : F1 := fun d μ Q => match d with
  | .int i => Q (.int (-i)) μ
  | _ => False
theorem ud_neg : UnR X (unaryOp .USub) (upF1 fNeg) := UnR.of un_neg fun x H Q ⟨d, μ, QD, hx, mh, h, k⟩ => by
  unfold fNeg at h
  split at h
  · rename_i i
    exact ⟨i, hx, k _ _ (lft_mk (d := .int _) mh rfl h)⟩
  · exact h.elim
/-- is None, is not None -/
def nonD : D → Bool
  | .non => true
  | _ => false
theorem nonD_of {M : Ms} {H : Hp} {d : D} {v : V} (h : VD M H d v) : decide (v = V.non) = nonD d := by
  cases d with
  | non => rw [show v = V.non from h]; rfl
  | bl b => rw [show v = V.bl b from h]; rfl
  | int b => rw [show v = V.int b from h]; rfl
  | str b => rw [show v = V.str b from h]; rfl
  | ty b => rw [show v = V.ty b from h]; rfl
  | «at» b => rw [show v = V.ref b from h]; rfl
  | lst b => obtain ⟨a, xs, e, _⟩ := h; rw [e]; rfl
  | tup b => obtain ⟨a, xs, e, _⟩ := h; rw [e]; rfl
def fIsN (n : Bool) : F2 := fun d e μ Q => match e with
  | .non => Q (.bl (if n then !nonD d else nonD d)) μ
  | _ => False
theorem od_notN : OpR X (compareOp .IsNot) (upF2 (fIsN true)) := OpR.of op_notN fun x y H Q ⟨d, e, μ, QD, hx, hy, mh, h, k⟩ => by
  unfold fIsN at h
  split at h
  · exact ⟨hy, by rw [nonD_of hx]; exact k _ _ (lft_mk (d := .bl _) mh rfl h)⟩
  · exact h.elim
/-! ### items -/
theorem atI_rel {M : Ms} {H : Hp} {ds : List D} {vs : List V} {i : Int} {d : D} (g : VDs M H ds vs) (h : atI ds i = some d) : ∃ v, atI vs i = some v ∧ VD M H d v := by
  unfold atI at *
  rw [← g.length]
  cases e : ixN ds.length i with
  | none => rw [e] at h; cases h
  | some j =>
    rw [e] at h
    exact g.get h
def fIx : F2 := fun d e μ Q => match d, e with
  | .str z, .int i => ∃ c, z.length ≤ sizeLine ∧ atI z.cps.toList i = some c ∧ Q (.str ⟨#[c]⟩) μ
  | d, .int i => ∃ ds z, Sq μ d ds ∧ atI ds i = some z ∧ Q z μ
  | _, _ => False
theorem id_ix : IxR X (upF2 fIx) := IxR.of ix_seq fun x y H Q ⟨d, e, μ, QD, hx, hy, mh, h, k⟩ => by
  unfold fIx at h
  split at h
  · rename_i z i
    obtain ⟨c, h1, h2, h3⟩ := h
    exact .inr (.inr ⟨z, i, c, hx, hy, h1, h2, k _ _ (lft_mk (d := .str _) mh rfl h3)⟩)
  · rename_i i _
    obtain ⟨ds, z, h1, h2, h3⟩ := h
    obtain ⟨a, vs, ex, f, g⟩ := h1.to X.K mh hx
    obtain ⟨v, e1, e2⟩ := atI_rel g h2
    have q := k _ _ (lft_mk mh e2 h3)
    rcases f with f | f
    · exact .inl ⟨a, vs, i, v, ex, hy, f, e1, q⟩
    · exact .inr (.inl ⟨a, vs, i, v, ex, hy, f, e1, q⟩)
  · exact h.elim
end
end Dl
namespace Dl
open PySem PySem.Spec PyProof.Rows L2
variable {B : Bs}
/-! ### statements -/
structure Ed where
  nx : Rho → Mu → Prop
  rt : D → Mu → Prop
  bk : Rho → Mu → Prop := fun _ _ => False
  ct : Rho → Mu → Prop := fun _ _ => False
abbrev WS := Ed → Rho → Mu → Prop
structure EdLe (B : Bs) (DD : Ed) (E : Ends) (μ : Mu) (H : Hp) : Prop where
  nx : ∀ σ' H' ρ' μ', Step (MD μ) H (MD μ') H' → RS B (MD μ') H' ρ' σ' → MH μ' H' → DD.nx ρ' μ' → E.nx σ' H'
  rt : ∀ v H' d μ', Step (MD μ) H (MD μ') H' → MH μ' H' → VD (MD μ') H' d v → DD.rt d μ' → E.rt v H'
  bk : ∀ σ' H' ρ' μ', Step (MD μ) H (MD μ') H' → RS B (MD μ') H' ρ' σ' → MH μ' H' → DD.bk ρ' μ' → E.bk σ' H'
  ct : ∀ σ' H' ρ' μ', Step (MD μ) H (MD μ') H' → RS B (MD μ') H' ρ' σ' → MH μ' H' → DD.ct ρ' μ' → E.ct σ' H'
theorem EdLe.step {DD : Ed} {E : Ends} {μ μ1 : Mu} {H H1 : Hp} (s : Step (MD μ) H (MD μ1) H1) (l : EdLe B DD E μ H) : EdLe B DD E μ1 H1 :=
  ⟨fun σ H' ρ μ' a b c d => l.nx σ H' ρ μ' (s.trans a) b c d, fun v H' d μ' a b c e => l.rt v H' d μ' (s.trans a) b c e, fun σ H' ρ μ' a b c d => l.bk σ H' ρ μ' (s.trans a) b c d, fun σ H' ρ μ' a b c d => l.ct σ H' ρ μ' (s.trans a) b c d⟩
def upS (B : Bs) (w : WS) : TS := fun E σ H => ∃ ρ μ DD, RS B (MD μ) H ρ σ ∧ MH μ H ∧ w DD ρ μ ∧ EdLe B DD E μ H
abbrev JS (B : Bs) (X : Cx) (st : Stmt) (w : WS) : Prop := PS X st (upS B w)
abbrev JSs (B : Bs) (X : Cx) (st : List Stmt) (w : WS) : Prop := PSs X st (upS B w)
theorem PS.of {X : Cx} {st : Stmt} {t t' : TS} (h : PS X st t) (g : ∀ D σ H, t' D σ H → t D σ H) : PS X st t' := ⟨fun pins s σ H D I q => h.run pins s σ H D I (g D σ H q)⟩
theorem PSs.of {X : Cx} {st : List Stmt} {t t' : TS} (h : PSs X st t) (g : ∀ D σ H, t' D σ H → t D σ H) : PSs X st t' := ⟨fun pins s σ H D I q => h.run pins s σ H D I (g D σ H q)⟩
def wNext : WS := fun DD ρ μ => DD.nx ρ μ
def wSeq (a b : WS) : WS := fun DD ρ μ => a { nx := fun ρ1 μ1 => b DD ρ1 μ1, rt := DD.rt, bk := DD.bk, ct := DD.ct } ρ μ
def wDrop (a : WE) : WS := fun DD ρ μ => a ρ μ fun _ μ1 => DD.nx ρ μ1
def wRet (a : WE) : WS := fun DD ρ μ => a ρ μ fun d μ1 => DD.rt d μ1
def wRetN : WS := fun DD _ μ => DD.rt .non μ
def wIf (t : WT) (a b : WS) : WS := fun DD ρ μ => t ρ μ fun c μ1 => Br c (a DD ρ μ1) (b DD ρ μ1)
def wSet (i : Nat) (a : WE) : WS := fun DD ρ μ => a ρ μ fun d μ1 => DD.nx (ρ.set i (some d)) μ1
def wBreak : WS := fun DD ρ μ => DD.bk ρ μ
def wCont : WS := fun DD ρ μ => DD.ct ρ μ
def wNever : WS := fun _ _ _ => False
section
variable {X : Cx} {st : Stmt} {rest : List Stmt} {a b : WS} {e : Expr} {w : WE} {t : WT} {pos : Pos}
theorem jss_nil : JSs B X [] wNext := PSs.of pss_nil fun E σ H ⟨ρ, μ, DD, rs, m, h, l⟩ => l.nx σ H ρ μ .refl rs m h
theorem jss_cons (h1 : JS B X st a) (h2 : JSs B X rest b) : JSs B X (st :: rest) (wSeq a b) := PSs.of (pss_cons h1 h2) fun E σ H ⟨ρ, μ, DD, rs, m, h, l⟩ =>
  ⟨ρ, μ, _, rs, m, h, ⟨fun σ' H' ρ' μ' s r m' q => ⟨ρ', μ', DD, r, m', q, l.step s⟩, l.rt, l.bk, l.ct⟩⟩
theorem jss_one (h1 : JS B X st a) : JSs B X [st] a := pss_one h1
theorem js_pass : JS B X (.Pass pos) wNext := PS.of ps_pass fun E σ H ⟨ρ, μ, DD, rs, m, h, l⟩ => l.nx σ H ρ μ .refl rs m h
theorem js_never : JS B X st wNever := PS.of ps_never fun E σ H ⟨ρ, μ, DD, rs, m, h, l⟩ => h
theorem js_expr (he : JE B X e w) (hs : swapsWith e none pos.line X.env = pure false := by rfl) : JS B X (.Expr e pos) (wDrop w) := PS.of (ps_expr he hs) fun E σ H ⟨ρ, μ, DD, rs, m, h, l⟩ =>
  up_mk rs m h fun v H' d μ' s m' _ q => l.nx σ H' ρ μ' s (rs.step s) m' q
theorem js_ret (he : JE B X e w) : JS B X (.Return (some e) pos) (wRet w) := PS.of (ps_ret he) fun E σ H ⟨ρ, μ, DD, rs, m, h, l⟩ => up_mk rs m h fun v H' d μ' s m' r q => l.rt v H' d μ' s m' r q
theorem js_if {c : Expr} {x y : List Stmt} (hc : JT B X c t) (ha : JSs B X x a) (hb : JSs B X y b) : JS B X (.If c x y pos) (wIf t a b) := PS.of (ps_if hc ha hb) fun E σ H ⟨ρ, μ, DD, rs, m, h, l⟩ =>
  upT_mk rs m h fun k H1 μ1 s1 m1 h1 => (h1.mono (fun q => ⟨ρ, μ1, DD, rs.step s1, m1, q, l.step s1⟩) fun q => ⟨ρ, μ1, DD, rs.step s1, m1, q, l.step s1⟩).ite
theorem js_set (i : Nat) {x : Str} {pos' : Pos} (he : JE B X e w) (hN : X.N.Nodup) (hi : X.N[i]? = some x := by rfl) (hx : Loc X.env.scope x := by first | exact Or.inl rfl | exact Or.inr rfl) (hs : swapsWith e (some (.Name x pos')) pos.line X.env = pure false := by rfl)
    (hf : X.fn x = true ∨ X.env.scope.names.lookup x = some .local := by first | exact .inl rfl | exact .inr rfl) : JS B X (.Assign [.Name x pos'] e pos) (wSet i w) := PS.of (ps_set hN hi hx he hs hf) fun E σ H ⟨ρ, μ, DD, rs, m, h, l⟩ =>
  up_mk rs m h fun v H' d μ' s m' r q => l.nx _ H' _ μ' s ((rs.step s).set i r) m' q
end
/-! ### targets -/
abbrev WG := D → Rho → Mu → (Rho → Mu → Prop) → Prop
abbrev WGs := List D → Rho → Mu → (Rho → Mu → Prop) → Prop
def upG (B : Bs) (w : WG) : TG := fun v σ H Q => ∃ d ρ μ QD, VD (MD μ) H d v ∧ RS B (MD μ) H ρ σ ∧ MH μ H ∧ w d ρ μ QD ∧ ∀ σ' H' ρ' μ', Step (MD μ) H (MD μ') H' → RS B (MD μ') H' ρ' σ' → MH μ' H' → QD ρ' μ' → Q σ' H'
def upGs (B : Bs) (w : WGs) : TGs := fun vs σ H Q => ∃ ds ρ μ QD, VDs (MD μ) H ds vs ∧ RS B (MD μ) H ρ σ ∧ MH μ H ∧ w ds ρ μ QD ∧ ∀ σ' H' ρ' μ', Step (MD μ) H (MD μ') H' → RS B (MD μ') H' ρ' σ' → MH μ' H' → QD ρ' μ' → Q σ' H'
abbrev JG (B : Bs) (X : Cx) (e : Expr) (w : WG) : Prop := PG X e (upG B w)
abbrev JGs (B : Bs) (X : Cx) (es : List Expr) (w : WGs) : Prop := PGs X es (upGs B w)
theorem PG.of {X : Cx} {e : Expr} {t t' : TG} (h : PG X e t) (g : ∀ v σ H Q, t' v σ H Q → t v σ H Q) : PG X e t' := ⟨fun pins s σ H v u Q I r q => h.run pins s σ H v u Q I r (g v σ H Q q)⟩
theorem PGs.of {X : Cx} {es : List Expr} {t t' : TGs} (h : PGs X es t) (g : ∀ v σ H Q, t' v σ H Q → t v σ H Q) : PGs X es t' := ⟨fun pins s σ H v u Q I r q => h.run pins s σ H v u Q I r (g v σ H Q q)⟩
def wgName (i : Nat) : WG := fun d ρ μ Q => Q (ρ.set i (some d)) μ
def wgNil : WGs := fun ds ρ μ Q => ds = [] ∧ Q ρ μ
def wgCons (a : WG) (r : WGs) : WGs := fun ds ρ μ Q => ∃ d es, ds = d :: es ∧ a d ρ μ fun ρ1 μ1 => r es ρ1 μ1 Q
/-- (a, b, ..) = a tuple -/
def wgTup (n : Nat) (r : WGs) : WG := fun d ρ μ Q => match d with
  | .tup ds => ds.length = n ∧ r ds ρ μ Q
  | _ => False
section
variable {X : Cx} {e : Expr} {es : List Expr} {a : WG} {r : WGs} {pos : Pos}
theorem jg_name (i : Nat) {x : Str} (hN : X.N.Nodup) (hi : X.N[i]? = some x := by rfl) (hx : Loc X.env.scope x := by first | exact Or.inl rfl | exact Or.inr rfl) (hf : X.fn x = true ∨ X.env.scope.names.lookup x = some .local := by first | exact .inl rfl | exact .inr rfl) : JG B X (.Name x pos) (wgName i) :=
  PG.of (pg_name hN hi hx hf) fun v σ H Q ⟨d, ρ, μ, QD, vd, rs, m, h, k⟩ => k _ H _ μ .refl (rs.set i vd) m h
theorem jgs_nil : JGs B X [] wgNil := PGs.of pgs_nil fun v σ H Q ⟨ds, ρ, μ, QD, vd, rs, m, ⟨e, h⟩, k⟩ => ⟨by subst e; exact vd, k σ H ρ μ .refl rs m h⟩
theorem jgs_cons (h1 : JG B X e a) (h2 : JGs B X es r) (hs : (assignEach (e :: es) X.env).map (·.2) = assign e X.env :: (assignEach es X.env).map (·.2) := by rfl) : JGs B X (e :: es) (wgCons a r) := PGs.of (pgs_cons h1 h2 hs) fun v σ H Q ⟨ds, ρ, μ, QD, vd, rs, m, ⟨d, es', e, h⟩, k⟩ => by
  subst e
  obtain ⟨x, xs, rfl, v1, v2⟩ := vd
  exact ⟨x, xs, rfl, d, ρ, μ, _, v1, rs, m, h, fun σ' H' ρ' μ' s rs' m' h' => ⟨es', ρ', μ', QD, VDs.step s _ _ v2, rs', m', h', fun σ2 H2 ρ2 μ2 s2 => k σ2 H2 ρ2 μ2 (s.trans s2)⟩⟩
theorem jg_tup {k : Nat} (n : Nat) (hc : X.calm = true) (h : JGs B X es r) (hn : (assignEach es X.env).length = n := by rfl) (hst : (assignEach es X.env).findIdx? (·.1) = none := by rfl) : JG B X (.Tuple es k pos) (wgTup n r) := PG.of (pg_tup hc h hn hst) fun v σ H Q ⟨d, ρ, μ, QD, vd, rs, m, h, kk⟩ => by
  unfold wgTup at h
  split at h
  · rename_i ds
    obtain ⟨p, xs, ev, f, g⟩ := vd
    exact ⟨p, xs, ev, SqT.of f.2, by rw [← g.length]; exact h.1, ds, ρ, μ, QD, g, rs, m, h.2, kk⟩
  · exact h.elim
/-- o[i] = v by data: Q of the store behind it -/
abbrev F3 := D → D → D → Mu → (Mu → Prop) → Prop
def upF3 (r : F3) : TSet := fun x y z H Q => ∃ d e f μ QD, VD (MD μ) H d x ∧ VD (MD μ) H e y ∧ VD (MD μ) H f z ∧ MH μ H ∧ r d e f μ QD ∧ ∀ H' μ', Step (MD μ) H (MD μ') H' → MH μ' H' → QD μ' → Q H'
theorem PSet.of {t t' : TSet} (h : PSet X t) (g : ∀ x y z H Q, t' x y z H Q → t x y z H Q) : PSet X t' := fun pins s σ H x y z a b c Q I r1 r2 r3 q => h pins s σ H x y z a b c Q I r1 r2 r3 (g x y z H Q q)
def wgSub (o i : WE) (t : F3) : WG := fun v ρ μ Q => o ρ μ fun d μ1 => i ρ μ1 fun e μ2 => t d e v μ2 fun μ3 => Q ρ μ3
theorem jg_sub {o i : Expr} {wo wi : WE} {t : F3} (ho : JE B X o wo) (hi : JE B X i wi) (hs : PSet X (upF3 t)) (hsl : ∀ v, assign (.Subscript o i pos) X.env v = (do let ov ← holding [v] (eval o X.env); let iv ← holding [v, ov] (eval i X.env); standAt pos; holding [v, ov, iv] (setItem ov iv v); release [v, ov, iv] []) := by intro _; rfl) : JG B X (.Subscript o i pos) (wgSub wo wi t) :=
  PG.of (pg_sub ho hi hs hsl) fun v σ H Q ⟨f, ρ, μ, QD, vd, rs, m, h, k⟩ => up_mk rs m h fun x H1 d μ1 s1 m1 v1 h1 => up_mk (rs.step s1) m1 h1 fun y H2 e μ2 s2 m2 v2 h2 =>
    ⟨d, e, f, μ2, _, VD.step s2 _ _ v1, v2, VD.step (s1.trans s2) _ _ vd, m2, h2, fun H3 μ3 s3 m3 h3 => k _ H3 _ μ3 ((s1.trans s2).trans s3) (rs.step ((s1.trans s2).trans s3)) m3 h3⟩
/-- xs[k] = v -/
def f3List : F3 := fun d e v μ Q => match d, e with
  | .at l, .int k => ∃ ds j, μ l = some (.lst ds) ∧ ixN ds.length k = some j ∧ Q (put μ l (.lst (ds.set j v)))
  | _, _ => False
theorem set_lst : PSet X (upF3 f3List) := PSet.of set_list fun x y z H Q ⟨d, e, f, μ, QD, v1, v2, v3, m, h, k⟩ => by
  unfold f3List at h
  split at h
  · rename_i l i
    obtain ⟨ds, j, h1, h2, h3⟩ := h
    obtain ⟨xs, e1, g⟩ := m l _ h1
    have st : Step (MD μ) H (MD (put μ l (.lst (ds.set j f)))) (upd H l (.lst (xs.set j z))) := .write ⟨_, h1⟩
    exact ⟨l, xs, i, j, v1, v2, e1, by rw [← g.length]; exact h2, k _ _ st (m.write ⟨_, h1⟩ ⟨_, upd_same, VDs.step st _ _ (g.set j v3)⟩) h3⟩
  · exact h.elim
end
/-! ### assignments -/
def wAsg (a : WE) (g : WG) : WS := fun DD ρ μ => a ρ μ fun d μ1 => g d ρ μ1 fun ρ2 μ2 => DD.nx ρ2 μ2
section
variable {X : Cx} {e tg : Expr} {w : WE} {g : WG} {pos : Pos}
theorem js_asg (he : JE B X e w) (hg : JG B X tg g) (hs : swapsWithSole [tg] e pos.line X.env = pure false := by rfl) (hw : swappedStores [tg] e X.env = pure none := by rfl) (h1 : (assignEach [tg] X.env).map (·.2) = [assign tg X.env] := by rfl) : JS B X (.Assign [tg] e pos) (wAsg w g) := PS.of (ps_asg he hg hs hw h1) fun E σ H ⟨ρ, μ, DD, rs, m, h, l⟩ =>
  up_mk rs m h fun v H1 d μ1 s1 m1 v1 h1 => ⟨d, ρ, μ1, _, v1, rs.step s1, m1, h1, fun σ' H' ρ' μ' s2 r2 m2 q => l.nx σ' H' ρ' μ' (s1.trans s2) r2 m2 q⟩
/-- a, b = x, y -/
def wPar (i j : Nat) (a : WA) : WS := fun DD ρ μ => a ρ μ fun ds μ1 => ∃ d e, ds = [d, e] ∧ DD.nx ((ρ.set i (some d)).set j (some e)) μ1
theorem js_par (i j : Nat) {x y : Str} {a b : Expr} {wa : WA} {px py pt : Pos} {kt k2 pt2} (ha : JA B X [a, b] wa) (hN : X.N.Nodup) (hc : X.calm = true := by rfl) (hi : X.N[i]? = some x := by rfl) (hj : X.N[j]? = some y := by rfl) (hij : i ≠ j := by decide)
    (hx : X.env.scope.names.lookup x = some .local := by rfl) (hy : X.env.scope.names.lookup y = some .local := by rfl)
    (hw : swappedStores [.Tuple [.Name x px, .Name y py] kt pt] (.Tuple [a, b] k2 pt2) X.env = pure (some [x, y]) := by rfl)
    (hs : swapsWithSole [.Tuple [.Name x px, .Name y py] kt pt] (.Tuple [a, b] k2 pt2) pos.line X.env = pure false := by rfl) :
    JS B X (.Assign [.Tuple [.Name x px, .Name y py] kt pt] (.Tuple [a, b] k2 pt2) pos) (wPar i j wa) := PS.of (ps_par hc hN hi hj hij hx hy ha hw hs) fun E σ H ⟨ρ, μ, DD, rs, m, h, l⟩ =>
  ⟨ρ, μ, _, rs, m, h, fun vs H1 ds μ1 s1 m1 v1 ⟨d, e, eq, q⟩ => by
    subst eq
    obtain ⟨v, ws, rfl, r1, u, us, rfl, r2, e2⟩ := v1
    rw [show us = [] from e2]
    exact ⟨v, u, rfl, l.nx _ H1 _ μ1 s1 (((rs.step s1).set i r1).set j r2) m1 q⟩⟩
end
/-! ### what is forgotten -/
/-- fewer names, fewer addresses -/
inductive Fg : Rho → Rho → Prop
  | nil : Fg [] []
  | keep {x : Option D} {a b : Rho} : Fg a b → Fg (x :: a) (x :: b)
  | drop {x : Option D} {a b : Rho} : Fg a b → Fg (x :: a) (none :: b)
theorem Fg.refl : ∀ ρ : Rho, Fg ρ ρ
  | [] => .nil
  | _ :: ρ => .keep (Fg.refl ρ)
theorem Fg.length : ∀ {a b : Rho}, Fg a b → a.length = b.length
  | _, _, .nil => rfl
  | _, _, .keep h => congrArg (· + 1) h.length
  | _, _, .drop h => congrArg (· + 1) h.length
theorem Fg.at : ∀ {a b : Rho} {i : Nat} {d : D}, Fg a b → b[i]? = some (some d) → a[i]? = some (some d)
  | _, _, _, _, .nil, e => e
  | _, _, 0, _, .keep h, e => e
  | _, _, 0, _, .drop h, e => by simp at e
  | _, _, i + 1, _, .keep h, e => by
    rw [List.getElem?_cons_succ] at *
    exact h.at e
  | _, _, i + 1, _, .drop h, e => by
    rw [List.getElem?_cons_succ] at *
    exact h.at e
def Less (μ μ' : Mu) : Prop := ∀ a, μ' a = none ∨ μ' a = μ a
theorem Less.refl (μ : Mu) : Less μ μ := fun _ => .inr rfl
theorem Less.put {μ0 μ : Mu} {l : Addr} {o : O} (h : Less μ μ0) (n : μ0 l = none) : Less (put μ l o) μ0 := fun a => by
  by_cases e : a = l
  · subst e
    exact .inl n
  · rw [put_ne e]
    exact h a
theorem Less.trans {a b c : Mu} (h : Less a b) (g : Less b c) : Less a c := fun x => by
  rcases g x with e | e
  · exact .inl e
  · rw [e]
    exact h x
theorem Less.step {μ μ' : Mu} (h : Less μ μ') {H : Hp} : Step (MD μ) H (MD μ') H := ⟨fun _ _ _ e => e, fun a ⟨o, e⟩ => by
  rcases h a with q | q
  · rw [q] at e; cases e
  · exact .inl ⟨o, q ▸ e⟩⟩
theorem Less.mh {μ μ' : Mu} {H : Hp} (h : Less μ μ') (m : MH μ H) : MH μ' H := fun a o e => by
  rcases h a with q | q
  · rw [q] at e; cases e
  · exact (m a o (q ▸ e)).step h.step rfl
/-- a state may be told with less -/
def wk (P : Rho → Mu → Prop) (ρ : Rho) (μ : Mu) : Prop := ∃ ρ' μ', Fg ρ ρ' ∧ Less μ μ' ∧ P ρ' μ'
theorem wk.same {P : Rho → Mu → Prop} {ρ : Rho} {μ : Mu} (h : P ρ μ) : wk P ρ μ := ⟨ρ, μ, .refl _, .refl _, h⟩
theorem RS.fg {M : Ms} {H : Hp} {ρ ρ' : Rho} {σ : L2.St} (f : Fg ρ ρ') (r : RS B M H ρ σ) : RS B M H ρ' σ := ⟨f.length.symm.trans r.1, fun i d e => r.2.1 i d (f.at e), r.2.2⟩
/-! ### what is walked -/
abbrev WI := Rho → Mu → (List D → (Mu → Prop) → Mu → Prop) → Prop
/-- J gives the items ds one by one, as long as kp stands -/
def Gives (J : It) (μ1 : Mu) (H1 : Hp) (ds : List D) (kp : Mu → Prop) : Prop := Walk J ds.length (fun H => ∃ μ, Step (MD μ1) H1 (MD μ) H ∧ MH μ H ∧ kp μ)
  (fun i H x H' => ∀ μ, Step (MD μ1) H1 (MD μ) H → MH μ H → kp μ → ∃ d, ds[i]? = some d ∧ Step (MD μ) H (MD μ) H' ∧ MH μ H' ∧ VD (MD μ) H' d x)
def upI (B : Bs) (w : WI) : TI := fun σ H R => ∃ ρ μ QD, RS B (MD μ) H ρ σ ∧ MH μ H ∧ w ρ μ QD ∧ ∀ J H' ds kp μ', Step (MD μ) H (MD μ') H' → MH μ' H' → Gives J μ' H' ds kp → QD ds kp μ' → R J H'
abbrev JI (B : Bs) (X : Cx) (tg e : Expr) (w : WI) : Prop := PI X tg e (upI B w)
theorem PI.of {X : Cx} {tg e : Expr} {t t' : TI} (h : PI X tg e t) (g : ∀ σ H R, t' σ H R → t σ H R) : PI X tg e t' := ⟨fun pins s σ H R I q => h.run pins s σ H R I (g σ H R q)⟩
def wIt (a : WE) : WI := fun ρ μ Q => a ρ μ fun d μ1 => ∃ ds, Lr μ1 d ds ∧ Q ds (fun μ => Lr μ d ds) μ1
def wItT (a : WE) : WI := fun ρ μ Q => a ρ μ fun d μ1 => ∃ ds, d = .tup ds ∧ Q ds (fun _ => True) μ1
def wRng1 (a : WA) : WI := fun ρ μ Q => a ρ μ fun vs μ1 => ∃ j, vs = [.int j] ∧ -(2 ^ 62) ≤ j ∧ j < 2 ^ 62 ∧ Q ((List.range j.toNat).map fun i : Nat => .int i) (fun _ => True) μ1
section
variable {X : Cx} {tg e : Expr} {w : WE}
theorem ji_list (h : JE B X e w) : JI B X tg e (wIt w) := PI.of (pi_list h) fun σ H R ⟨ρ, μ, QD, rs, m, h, k⟩ => up_mk rs m h fun v H1 d μ1 s1 m1 v1 ⟨ds, hl, h1⟩ => by
  obtain ⟨a, xs, ev, r, g⟩ := hl.to m1 v1
  have ha : ∀ μ H2, Step (MD μ1) H1 (MD μ) H2 → MH μ H2 → Lr μ d ds → ∃ ys, SqL X.K H2 a ys ∧ VDs (MD μ) H2 ds ys := fun μ H2 st mh kp => by
    obtain ⟨b, ys, eb, rb, gb⟩ := kp.to mh (VD.step st _ _ v1)
    rw [ev] at eb
    cases eb
    exact ⟨ys, .inl rb, gb⟩
  refine ⟨a, ev, ⟨xs, .inl r⟩, k _ H1 ds (fun μ => Lr μ d ds) μ1 s1 m1 ⟨fun i H2 hi ⟨μ, st, mh, kp⟩ => ?_, fun H2 ⟨μ, st, mh, kp⟩ => ?_, fun i H2 x H' hi _ ⟨e1, e2⟩ μ st mh kp => ?_⟩ h1⟩
  · obtain ⟨ys, q, gb⟩ := ha μ H2 st mh kp
    obtain ⟨y, hy, _⟩ := gb.get (List.getElem?_eq_getElem hi)
    exact ⟨ys, y, q, hy⟩
  · obtain ⟨ys, q, gb⟩ := ha μ H2 st mh kp
    exact ⟨ys, q, Nat.le_of_eq gb.length.symm⟩
  · obtain ⟨ys, q, gb⟩ := ha μ H2 st mh kp
    subst e1
    obtain ⟨d', hd, hv⟩ := gb.of_get (e2 ys q)
    exact ⟨d', hd, .refl, mh, hv⟩
theorem ji_tup (h : JE B X e w) : JI B X tg e (wItT w) := PI.of (pi_tup h) fun σ H R ⟨ρ, μ, QD, rs, m, h, k⟩ => up_mk rs m h fun v H1 d μ1 s1 m1 v1 ⟨ds, hl, h1⟩ => by
  subst hl
  obtain ⟨a, xs, ev, r, g⟩ := id v1
  have ha : ∀ μ H2, Step (MD μ1) H1 (MD μ) H2 → MH μ H2 → ∃ ys, SqT X.K H2 a ys ∧ VDs (MD μ) H2 ds ys := fun μ H2 st mh => by
    obtain ⟨b, ys, eb, rb, gb⟩ := VD.step st _ _ v1
    rw [ev] at eb
    cases eb
    exact ⟨ys, SqT.of rb.2, gb⟩
  refine ⟨a, ev, ⟨xs, SqT.of r.2⟩, k _ H1 ds (fun _ => True) μ1 s1 m1 ⟨fun i H2 hi ⟨μ, st, mh, kp⟩ => ?_, fun H2 ⟨μ, st, mh, kp⟩ => ?_, fun i H2 x H' hi _ ⟨e1, e2⟩ μ st mh kp => ?_⟩ h1⟩
  · obtain ⟨ys, q, gb⟩ := ha μ H2 st mh
    obtain ⟨y, hy, _⟩ := gb.get (List.getElem?_eq_getElem hi)
    exact ⟨ys, y, q, hy⟩
  · obtain ⟨ys, q, gb⟩ := ha μ H2 st mh
    exact ⟨ys, q, Nat.le_of_eq gb.length.symm⟩
  · obtain ⟨ys, q, gb⟩ := ha μ H2 st mh
    subst e1
    obtain ⟨d', hd, hv⟩ := gb.of_get (e2 ys q)
    exact ⟨d', hd, .refl, mh, hv⟩
theorem ji_range1 {a : Expr} {wa : WA} {p pos : Pos} (hm : X.mg "range" = none) (ha : JA B X [a] wa) (hg : Gl X "range" := by rfl) (hs : starEach [a] X.env = [(false, eval a X.env)] := by rfl) : JI B X tg (.Call (.Name "range" p) [a] [] pos) (wRng1 wa) := PI.of (pi_range1 hg hm ha hs) fun σ H R ⟨ρ, μ, QD, rs, m, h, k⟩ =>
  ⟨ρ, μ, _, rs, m, h, fun vs H1 ds μ1 s1 m1 v1 ⟨j, ej, h1, h2, h3⟩ => by
    subst ej
    obtain ⟨v, ws, rfl, r1, e2⟩ := v1
    rw [show v = V.int j from r1, show ws = [] from e2]
    refine ⟨j, rfl, h1, h2, k _ H1 _ _ μ1 s1 m1 ⟨fun i H2 hi _ => ?_, fun H2 _ => ?_, fun i H2 x H' hi _ ⟨q1, q2⟩ μ st mh kp => ?_⟩ h3⟩
    · have hi' : i < j.toNat := by simpa using hi
      exact hi'
    · show j.toNat ≤ _
      simp
    · subst q1 q2
      have hi' : i < j.toNat := by simpa using hi
      refine ⟨.int i, by simp [hi'], .refl, mh, ?_⟩
      show V.int (0 + (i : Int)) = V.int i
      rw [Int.zero_add]⟩
end
/-! ### for -/
def wFor (wi : WI) (g : WG) (b : WS) : WS := fun DD ρ μ => wi ρ μ fun ds kp μ1 => ∃ P : Nat → Rho → Mu → Prop, wk (P 0) ρ μ1 ∧ (∀ i ρ μ, i ≤ ds.length → P i ρ μ → kp μ) ∧
  (∀ i d ρ μ, ds[i]? = some d → P i ρ μ → g d ρ μ fun ρ2 μ2 => b { nx := wk (P (i + 1)), rt := DD.rt, bk := DD.nx, ct := wk (P (i + 1)) } ρ2 μ2) ∧ (∀ ρ μ, P ds.length ρ μ → DD.nx ρ μ)
section
variable {X : Cx} {tg iter : Expr} {body : List Stmt} {wi : WI} {g : WG} {b : WS} {pos : Pos}
theorem js_for (hp : PassesOwn (model X.prog X.w) X.A X.env X.xe) (hi : JI B X tg iter wi) (hg : JG B X tg g) (hb : JSs B X body b) (hc : X.calm = true := by rfl) (hs : ∀ x, foldedSetIterable iter X.env x = pure x := by intro _; rfl) : JS B X (.For tg iter body [] pos) (wFor wi g b) :=
  PS.of (ps_for hp hc hi hg hb hs) fun E σ H ⟨ρ, μ, DD, rs, m, h, l⟩ => ⟨ρ, μ, _, rs, m, h, fun J H1 ds kp μ1 s1 m1 gv ⟨P, p0, pk, ps, pd⟩ => by
    have l1 := l.step s1
    refine for_it gv (fun i σ H2 => ∃ ρ μ, Step (MD μ1) H1 (MD μ) H2 ∧ RS B (MD μ) H2 ρ σ ∧ MH μ H2 ∧ P i ρ μ) ?_ ?_ ?_ ?_
    · obtain ⟨ρ', μ', f, le, p⟩ := p0
      exact ⟨ρ', μ', le.step, ((rs.step s1).step le.step).fg f, le.mh m1, p⟩
    · rintro i σ H2 hi ⟨ρ, μ, st, rs, mh, p⟩
      exact ⟨μ, st, mh, pk i ρ μ hi p⟩
    · rintro i x σ H2 H3 hi ⟨ρ, μ, st, rs, mh, p⟩ y
      obtain ⟨d, hd, st2, mh2, vd⟩ := y μ st mh (pk i ρ μ (Nat.le_of_lt hi) p)
      have st3 := st.trans st2
      refine ⟨d, ρ, μ, _, vd, rs.step st2, mh2, ps i d ρ μ hd p, fun σ4 H4 ρ4 μ4 s4 r4 m4 q4 => ⟨ρ4, μ4, _, r4, m4, q4, ?_⟩⟩
      have l4 := l1.step (st3.trans s4)
      have back : ∀ σ' H' ρ' μ', Step (MD μ4) H4 (MD μ') H' → RS B (MD μ') H' ρ' σ' → MH μ' H' → wk (P (i + 1)) ρ' μ' → ∃ ρ μ, Step (MD μ1) H1 (MD μ) H' ∧ RS B (MD μ) H' ρ σ' ∧ MH μ H' ∧ P (i + 1) ρ μ := fun σ' H' ρ' μ' s r mm ⟨ρ5, μ5, f, le, p5⟩ =>
        ⟨ρ5, μ5, ((st3.trans s4).trans s).trans le.step, (r.step le.step).fg f, le.mh mm, p5⟩
      exact ⟨back, l4.rt, l4.nx, back⟩
    · rintro σ H2 ⟨ρ, μ, st, rs, mh, p⟩
      exact l1.nx σ H2 ρ μ st rs mh (pd ρ μ p)⟩
end
/-! ### while -/
def wWhile (t : WT) (b : WS) : WS := fun DD ρ μ => ∃ P : Nat → Rho → Mu → Prop, (∃ n, wk (P n) ρ μ) ∧ ∀ n ρ μ, P n ρ μ → t ρ μ fun c μ1 => Br c (b { nx := fun ρ2 μ2 => ∃ k, k < n ∧ wk (P k) ρ2 μ2, rt := DD.rt, bk := DD.nx, ct := fun ρ2 μ2 => ∃ k, k < n ∧ wk (P k) ρ2 μ2 } ρ μ1) (DD.nx ρ μ1)
theorem js_while {X : Cx} {c : Expr} {body : List Stmt} {t : WT} {b : WS} {pos : Pos} (hp : PassesOwn (model X.prog X.w) X.A X.env X.xe) (hc : JT B X c t) (hb : JSs B X body b) : JS B X (.While c body [] pos) (wWhile t b) :=
  PS.of (ps_while hp hc hb) fun E σ H ⟨ρ, μ, DD, rs, m, ⟨P, ⟨n, ρ0, μ0, f, le, p0⟩, ps⟩, l⟩ => by
    refine ⟨fun n σ H2 => ∃ ρ' μ', Step (MD μ) H (MD μ') H2 ∧ RS B (MD μ') H2 ρ' σ ∧ MH μ' H2 ∧ P n ρ' μ', ⟨n, ρ0, μ0, le.step, (rs.step le.step).fg f, le.mh m, p0⟩, ?_⟩
    rintro k σ2 H2 ⟨ρ2, μ2, st, rs2, mh, p⟩
    refine upT_mk rs2 mh (ps k ρ2 μ2 p) fun c H3 μ3 s3 m3 h3 => (h3.mono (fun q => ?_) fun q => ?_).ite
    · refine ⟨fun σ' H' => ∃ j, j < k ∧ ∃ ρ' μ', Step (MD μ) H (MD μ') H' ∧ RS B (MD μ') H' ρ' σ' ∧ MH μ' H' ∧ P j ρ' μ', fun σ' H' ⟨j, hj, q⟩ => ⟨j, hj, q⟩, ρ2, μ3, _, rs2.step s3, m3, q, ?_⟩
      have l4 := l.step (st.trans s3)
      have back : ∀ σ' H' ρ' μ', Step (MD μ3) H3 (MD μ') H' → RS B (MD μ') H' ρ' σ' → MH μ' H' → (∃ j, j < k ∧ wk (P j) ρ' μ') → ∃ j, j < k ∧ ∃ ρ' μ', Step (MD μ) H (MD μ') H' ∧ RS B (MD μ') H' ρ' σ' ∧ MH μ' H' ∧ P j ρ' μ' := fun σ' H' ρ' μ' s r mm ⟨j, hj, ρ5, μ5, f, le, p5⟩ =>
        ⟨j, hj, ρ5, μ5, ((st.trans s3).trans s).trans le.step, (r.step le.step).fg f, le.mh mm, p5⟩
      exact ⟨back, l4.rt, l4.nx, back⟩
    · exact l.nx σ2 H3 ρ2 μ3 (st.trans s3) (rs2.step s3) m3 q
end Dl
namespace Dl
open PySem PySem.Spec PyProof.Rows L2
variable {B : Bs}
/-! ### what a def promises, over data -/
abbrev XD := Value → List (Str × D) → Mu → Prop
abbrev SpD := List D → Mu → DQ → XD → Prop
/-- an exception's own fields -/
def Flds (M : Ms) (H : Hp) (d : Option Addr) (fs : List (Str × D)) : Prop := match d with
  | none => fs = []
  | some dd => ∃ gs, H dd = some (.xd gs) ∧ KD M H fs gs
def lftX (μ : Mu) (H : Hp) (E : XD) : XK := fun cls d H' => ∃ fs μ', Step (MD μ) H (MD μ') H' ∧ MH μ' H' ∧ Flds (MD μ') H' d fs ∧ E cls fs μ'
def toSp (sp : SpD) : Sp := fun vs H Q E => ∃ ds μ QD ED, VDs (MD μ) H ds vs ∧ MH μ H ∧ sp ds μ QD ED ∧ (∀ v H', lft μ H QD v H' → Q v H') ∧ ∀ cls d H', lftX μ H ED cls d H' → E cls d H'
/-- a wish about exceptions, with the names -/
abbrev WXD := Value → List (Str × D) → Rho → Mu → Prop
def upX (B : Bs) (W : WXD) : WX := fun cls d σ H => ∃ fs ρ μ, Flds (MD μ) H d fs ∧ RS B (MD μ) H ρ σ ∧ MH μ H ∧ W cls fs ρ μ
/-- at f stands a def that keeps the promise, where nothing is being shown (repr) around it -/
structure FnG (P : Program) (w : World) (K : Frg) (mg : Str → Option Value) (base : Heap) (k : Nat) (f : Addr) (fd : FuncData) (ps : List Str) (sp : SpD) : Prop where
  len : ∀ ds μ Q E, sp ds μ Q E → ds.length = ps.length
  run : ∀ (A : Around) (outer : List Env) (s : Shared) (H : Hp) (args : Args) (us : List Value) (vs : List V) (Q : VK) (E : XK), A.guards = some [] → Room k A → Env0 P w K mg base A outer s H → BindsTo s fd args (ps.zip us) → Vals vs us → toSp sp vs H Q E →
    codeAny (model P w) A (.call (.ref f) args) (CR (L2.CX P w) outer P w H s Q E) s
theorem FnG.mono {P : Program} {w : World} {K : Frg} {mg : Str → Option Value} {base : Heap} {j k : Nat} {f : Addr} {fd : FuncData} {ps : List Str} {sp : SpD} (F : FnG P w K mg base j f fd ps sp) (h : j ≤ k) : FnG P w K mg base k f fd ps sp :=
  ⟨F.len, fun A o s H a us vs Q E g r => F.run A o s H a us vs Q E g (r.mono h)⟩
theorem toSp_len {sp : SpD} {n : Nat} (h : ∀ ds μ Q E, sp ds μ Q E → ds.length = n) {vs : List V} {H : Hp} {Q : VK} {E : XK} (q : toSp sp vs H Q E) : vs.length = n := by
  obtain ⟨ds, μ, QD, ED, hv, _, hs, _⟩ := q
  rw [← hv.length]
  exact h _ _ _ _ hs
/-- a result may be told with less: lists that change no more -/
def Wkn (μ : Mu) (d : D) (μ' : Mu) (d' : D) : Prop := ∀ H, MH μ H → (Step (MD μ) H (MD μ') H ∧ MH μ' H) ∧ ∀ v, VD (MD μ) H d v → VD (MD μ') H d' v
def wkR (Q : DQ) : DQ := fun d μ => ∃ d' μ', Wkn μ d μ' d' ∧ Q d' μ'
theorem Wkn.less {μ μ' : Mu} {d : D} (h : Less μ μ') : Wkn μ d μ' d := fun _ m => ⟨⟨h.step, h.mh m⟩, fun _ v => VD.step h.step _ _ v⟩
theorem Wkn.trans {μ μ1 μ2 : Mu} {d d1 d2 : D} (h : Wkn μ d μ1 d1) (g : Wkn μ1 d1 μ2 d2) : Wkn μ d μ2 d2 := fun H m =>
  have a := h H m
  have b := g H a.1.2
  ⟨⟨a.1.1.trans b.1.1, b.1.2⟩, fun v hv => b.2 v (a.2 v hv)⟩
theorem wkR.same {Q : DQ} {d : D} {μ : Mu} (h : Q d μ) : wkR Q d μ := ⟨d, μ, .less (.refl _), h⟩
theorem wkR.less {Q : DQ} {d : D} {μ μ' : Mu} (l : Less μ μ') (h : Q d μ') : wkR Q d μ := ⟨d, μ', .less l, h⟩
theorem wkR.wk {Q : DQ} {d d' : D} {μ μ' : Mu} (l : Wkn μ d μ' d') (h : wkR Q d' μ') : wkR Q d μ := let ⟨e, ν, w, q⟩ := h; ⟨e, ν, l.trans w, q⟩
/-- a list that changes no more -/
theorem Wkn.froze {μ μ' : Mu} {l : Addr} {ds : List D} (h : Less μ μ') (e : μ l = some (.lst ds)) (n : μ' l = none) : Wkn μ (.at l) μ' (.lst ds) := fun H m => ⟨⟨h.step, h.mh m⟩, fun v hv => by
  obtain ⟨xs, h1, h2⟩ := m l _ e
  exact ⟨l, xs, hv, ⟨fun ⟨o, q⟩ => (by rw [n] at q; cases q), h1⟩, VDs.step h.step _ _ h2⟩⟩
theorem wkR.froze {Q : DQ} {μ μ' : Mu} {l : Addr} {ds : List D} (h : Less μ μ') (e : μ l = some (.lst ds)) (n : μ' l = none) (q : Q (.lst ds) μ') : wkR Q (.at l) μ := ⟨_, _, .froze h e n, q⟩
/-- a list of two whole numbers is a pot from here -/
theorem Wkn.pot {μ : Mu} {d : D} {l : Addr} {x y : Int} (e : μ l = some (.lst [.int x, .int y])) (ok : PotOk x y) : Wkn μ d (put μ l .pot) d := fun H m => by
  have st : Step (MD μ) H (MD (put μ l .pot)) H := ⟨fun _ _ _ e => e, fun a ⟨z, q⟩ => by
    by_cases c : a = l
    · subst c
      exact .inl ⟨_, e⟩
    · rw [put_ne c] at q
      exact .inl ⟨_, q⟩⟩
  refine ⟨⟨st, fun a z q => ?_⟩, fun v hv => VD.step st _ _ hv⟩
  by_cases c : a = l
  · subst c
    rw [put_same] at q
    cases q
    obtain ⟨xs, h1, v, vs, rfl, rx, v2, vs2, rfl, ry, e0⟩ := m a _ e
    rw [show v = V.int x from rx, show v2 = V.int y from ry, show vs2 = [] from e0] at h1
    exact ⟨x, y, h1, ok⟩
  · rw [put_ne c] at q
    exact (m a z q).step st rfl
/-- the names at a def's entry -/
def startD (N : List Str) (ds : List D) : Rho := ds.map some ++ List.replicate (N.length - ds.length) none
theorem start_rs {M : Ms} {H : Hp} {N : List Str} {ds : List D} {vs : List V} (h : VDs M H ds vs) : RS (M, H) M H (startD N ds) (L2.start N vs) := by
  have hl := h.length
  refine ⟨by simp [startD, L2.start, hl], fun i d e => ?_, .refl⟩
  unfold startD at e
  unfold L2.start
  by_cases hi : i < ds.length
  · rw [List.getElem?_append_left (by simpa using hi), List.getElem?_map] at e
    rw [List.getElem?_append_left (by rw [List.length_map]; omega), List.getElem?_map]
    cases q : ds[i]? with
    | none => rw [q] at e; cases e
    | some x =>
      rw [q] at e
      cases e
      obtain ⟨v, h1, h2⟩ := h.get q
      exact ⟨v, by rw [h1]; rfl, h2⟩
  · rw [List.getElem?_append_right (by simpa using hi)] at e
    rw [List.getElem?_replicate] at e
    split at e <;> cases e
/-- THE RULE for a def of the text, over data -/
theorem fnD {P : Program} {w : World} {K : Frg} {mg : Str → Option Value} {base : Heap} {k : Nat} {f : Addr} {x qual : Str} {st : Stmt} {fd : FuncData} {N ps : List Str} {sp : SpD} (F : ∃ (oc : Value) (od : Option Addr) (dV kV doc pm : Value) (an : Option Addr) (cdv ct : Value) (osl : Array (Option Value)),
    fd = PySem.W.fnOf x qual (defArgs st) (defBody st) (defScope st) dV kV doc pm an cdv ct ∧ K.lookup f = some ⟨oc, od, .func fd, osl⟩ ∧ PySem.W.codeIn K cdv qual = true)
    (S : FnScope N ps (defScope st)) (len : ∀ ds μ Q E, sp ds μ Q E → ds.length = ps.length)
    (hbody : ∀ (cdv : Value) (A : Around) (outer : List Env) (s : Shared) (H : Hp) (EX : XK) (ds : List D) (μ : Mu) (Q : DQ) (E : XD), A.guards = some [] → Room k (A.deeper (envOfC qual (defScope st) s.heap.objs.size f cdv)) →
      Takes (cxOf (L2.CX P w) P w K mg base N qual (defScope st) f cdv A outer s H EX) (upX (MD μ, H) fun cls fs _ μ' => E cls fs μ') →
      PassesOwn (model P w) (A.deeper (envOfC qual (defScope st) s.heap.objs.size f cdv)) (envOfC qual (defScope st) s.heap.objs.size f cdv) (cxOf (L2.CX P w) P w K mg base N qual (defScope st) f cdv A outer s H EX).xe → sp ds μ Q E →
      ∃ b, JSs (MD μ, H) (cxOf (L2.CX P w) P w K mg base N qual (defScope st) f cdv A outer s H EX) (defBody st) b ∧ b { nx := fun _ μ' => wkR Q .non μ', rt := wkR Q } (startD N ds) μ) : FnG P w K mg base (k + 1) f fd ps sp := by
  obtain ⟨oc, od, dV, kV, doc, pm, an, cdv, ct, osl, rfl, lk, hcd⟩ := F
  refine ⟨len, fun A outer s H args us vs Q E hg hr e0 hb r hsp => ?_⟩
  have hl := toSp_len len hsp
  have KX : K.In s.heap := e0.mod.kin.keeps fun b o e => (e0.bs b o e).1
  have lim : s.heap.NoLimit := e0.mod.nolimit.keeps fun b o e => (e0.bs b o e).1
  have hkind : ∀ y ∈ ps.zip us, (defScope st).names.lookup y.1 = some .local ∨ ((defScope st).names.lookup y.1 = some .cell ∧ ((cellsFrom (s.heap.objs.size + 1) (defScope st).names []).lookup y.1).isSome = true) := by
    rintro ⟨n, v⟩ hy
    cases S.par n (List.of_mem_zip hy).1 with
    | inl q => exact .inl q
    | inr q => exact .inr ⟨q, PySem.W.cellsFrom_some _ _ _ (.inl q)⟩
  refine codeAny_call_function hr.depth (KX _ _ lk) rfl S.co S.gen rfl (PySem.W.codeRec_of KX hcd) (hb _ _ _ _ (wpAny_newFunctionEnv_cells S.kind hkind fun env he s1 x => ?_))
  subst he
  refine ⟨lim.keeps x.toInCall.keep, codeAny_func ?_⟩
  obtain ⟨ds, μ, QD, ED, hv, mh, hs, kQ, kE⟩ := hsp
  have tk : Takes (cxOf (L2.CX P w) P w K mg base N qual (defScope st) f cdv A outer s H E) (upX (MD μ, H) fun cls fs _ μ' => ED cls fs μ') :=
    Takes.imp (takes_of rfl rfl rfl rfl) fun c d σ H' ⟨fs, ρ, μ', h1, h2, h3, h4⟩ => kE c d H' ⟨fs, μ', h2.2.2, h3, h1, h4⟩
  obtain ⟨b, hb1, hb2⟩ := hbody cdv A outer s H E ds μ QD ED hg (hr.deeper _) tk (passes_of rfl) hs
  have I : Inv (cxOf (L2.CX P w) P w K mg base N qual (defScope st) f cdv A outer s H E) [] (L2.start N vs) H s1 := inv_start S hr.hd e0 hl r x
  have le : EdLe (MD μ, H) { nx := fun _ μ' => wkR QD .non μ', rt := wkR QD } { nx := fun _ H' => Q .non H', rt := Q } μ H :=
    ⟨fun σ' H' ρ' μ' st rs m ⟨d', μ2, wk, q⟩ => kQ _ _ ⟨d', μ2, st.trans (wk _ m).1.1, (wk _ m).1.2, (wk _ m).2 _ rfl, q⟩, fun v H' d μ' st m hd ⟨d', μ2, wk, q⟩ => kQ _ _ ⟨d', μ2, st.trans (wk _ m).1.1, (wk _ m).1.2, (wk _ m).2 _ hd, q⟩, fun _ _ _ _ _ _ _ q => q.elim, fun _ _ _ _ _ _ _ q => q.elim⟩
  refine wpAny_mono (hb1.run [] s1 (L2.start N vs) H { nx := fun _ H' => Q .non H', rt := Q } I ⟨startD N ds, μ, _, start_rs hv, mh, hb2, le⟩) (fun fl s' hs' => ?_) fun _ _ z => z
  have fin : ∀ {σ' : L2.St} {H' : Hp} {v : V} {u : Value}, Inv (cxOf (L2.CX P w) P w K mg base N qual (defScope st) f cdv A outer s H E) [] σ' H' s' → RelV v u → Q v H' → CE outer P w H s Q u s' := fun {σ' H' v u} J rv q => ⟨v, H', J.os, J.bare, J.base, J.hok, rv, q⟩
  cases fl with
  | ret u => obtain ⟨v, σ', H', J, rv, q⟩ := hs'; exact fin J rv q
  | next => obtain ⟨σ', H', J, q⟩ := hs'; exact fin (v := V.non) (u := Value.none) J rfl q
  | brk => obtain ⟨_, _, _, q⟩ := hs'; exact q.elim
  | cont => obtain ⟨_, _, _, q⟩ := hs'; exact q.elim
/-! ### calls -/
/-- how arguments come to parameters: n by place, ks by name -/
structure KBd (K : Frg) (fd : FuncData) (ps : List Str) (n : Nat) (ks : List Str) (gD : List D → List D → List D) : Prop where
  to : ∀ (s : Shared) (us ws : List Value), K.In s.heap → us.length = n → ws.length = ks.length → ∃ zs, BindsTo s fd ⟨us, ks.zip ws⟩ (ps.zip zs) ∧
    ∀ (M : Ms) (H : Hp) (ds es : List D) (vs ms : List V), VDs M H ds vs → VDs M H es ms → Vals vs us → Vals ms ws → ∃ xs, Vals xs zs ∧ VDs M H (gD ds es) xs
theorem KBd.pos {K : Frg} {fd : FuncData} {ps : List Str} (n : Nat) (h : ∀ us : List Value, us.length = n → bindArgs fd ⟨us, []⟩ = pure (ps.zip us)) : KBd K fd ps n [] (fun ds _ => ds) :=
  ⟨fun s us ws _ h1 h2 => ⟨us, by
    have e : ([] : List Str).zip ws = [] := rfl
    rw [e]
    exact .of_eq (h us h1), fun M H ds es vs ms a b c d => ⟨vs, c, a⟩⟩⟩
def picked {α : Type} (l : List α) (d : α) (idx : List Nat) : List α := idx.map fun i => l.getD i d
theorem VDs.picked {M : Ms} {H : Hp} {es : List D} {ms : List V} (h : VDs M H es ms) : ∀ idx : List Nat, VDs M H (picked es .non idx) (picked ms .non idx)
  | [] => rfl
  | i :: idx => by
    refine ⟨_, _, rfl, ?_, VDs.picked h idx⟩
    show VD M H (es.getD i .non) (ms.getD i .non)
    rw [List.getD_eq_getElem?_getD, List.getD_eq_getElem?_getD]
    cases q : es[i]? with
    | some d =>
      obtain ⟨v, e, r⟩ := h.get q
      rw [e]
      exact r
    | none =>
      have e : ms[i]? = none := by
        rw [List.getElem?_eq_none_iff] at *
        rw [← h.length]
        exact q
      rw [e]
      exact rfl
theorem Vals.picked {ms : List V} {ws : List Value} (h : Vals ms ws) : ∀ idx : List Nat, Vals (picked ms .non idx) (picked ws .none idx)
  | [] => .nil
  | i :: idx => by
    refine .cons ?_ (Vals.picked h idx)
    show RelV (ms.getD i .non) (ws.getD i .none)
    rw [List.getD_eq_getElem?_getD, List.getD_eq_getElem?_getD]
    cases q : ms[i]? with
    | some d =>
      obtain ⟨v, e, r⟩ := h.get q
      rw [e]
      exact r
    | none =>
      rw [h.none_of q]
      exact rfl
/-- the keywords in any order, all given -/
theorem KBd.kw {K : Frg} {fd : FuncData} {ps ks : List Str} (n : Nat) (idx : List Nat) (h : ∀ us ws : List Value, us.length = n → ws.length = ks.length → bindArgs fd ⟨us, ks.zip ws⟩ = pure (ps.zip (us ++ picked ws .none idx))) : KBd K fd ps n ks (fun ds es => ds ++ picked es .non idx) :=
  ⟨fun s us ws _ h1 h2 => ⟨_, .of_eq (h us ws h1 h2), fun M H ds es vs ms a b c d => ⟨_, c.append (Vals.picked d idx), a.append (VDs.picked b idx)⟩⟩⟩
abbrev WCl := Rho → Mu → (List D → List D → Mu → Prop) → Prop
/-- a call's written arguments, by place and by name (ks) -/
def JCl (B : Bs) (X : Cx) (es : List Expr) (kws : List Keyword) (ks : List Str) (t : WCl) : Prop :=
  ∀ (pos : Pos) (f : Value) (first : List Value) (pins : List (Addr × Obj)) (s : Shared) (σ : L2.St) (H : Hp) (ρ : Rho) (μ : Mu) (QD : List D → List D → Mu → Prop) (R : Value → Shared → Prop), PySem.W.keepIn X.K f = true → Inv X pins σ H s → RS B (MD μ) H ρ σ → MH μ H → t ρ μ QD →
    (∀ ds es μ1 H1 vs zs us ws s1, Step (MD μ) H (MD μ1) H1 → MH μ1 H1 → VDs (MD μ1) H1 ds vs → VDs (MD μ1) H1 es zs → Vals vs us → Vals zs ws → ws.length = ks.length → Inv X pins σ H1 s1 → QD ds es μ1 → wpAny (model X.prog X.w) X.A (call f (first ++ us) (ks.zip ws)) R X.xe s1) →
    wpAny (model X.prog X.w) X.A (callWith pos f first (backTo pos (starEach es X.env)) (backToKw pos (keywordEach kws X.env))) R X.xe s
def wCl0 : WCl := fun _ μ Q => Q [] [] μ
def wClP (a : WA) : WCl := fun ρ μ Q => a ρ μ fun ds μ1 => Q ds [] μ1
def wClK (k : WA) : WCl := fun ρ μ Q => k ρ μ fun es μ1 => Q [] es μ1
def wClPK (a k : WA) : WCl := fun ρ μ Q => a ρ μ fun ds μ1 => k ρ μ1 fun es μ2 => Q ds es μ2
def upAn (B : Bs) (w : WA) (n : Nat) : TA := fun σ H Q => ∃ ρ μ QD, RS B (MD μ) H ρ σ ∧ MH μ H ∧ w ρ μ QD ∧ ∀ vs H' ds μ', Step (MD μ) H (MD μ') H' → MH μ' H' → VDs (MD μ') H' ds vs → ds.length = n → QD ds μ' → Q vs H'
abbrev JK (B : Bs) (X : Cx) (kws : List Keyword) (w : WA) : Prop := PK X kws (upAn B w kws.length)
section
variable {X : Cx} {e : Expr} {es : List Expr} {kws : List Keyword} {ks : List Str} {a k : WA}
theorem PK.of {t t' : TA} (h : PK X kws t) (g : ∀ σ H Q, t' σ H Q → t σ H Q) : PK X kws t' := ⟨fun pos pins s σ H Q I q => h.run pos pins s σ H Q I (g σ H Q q)⟩
theorem jk_nil : JK B X [] wNil := PK.of pk_nil fun σ H Q ⟨ρ, μ, QD, _, m, h, k⟩ => k [] H [] μ .refl m rfl rfl h
theorem jk_cons {nm : Option Str} {kpos : Pos} {w : WE} (ha : JE B X e w) (hr : JK B X kws a) : JK B X (⟨nm, e, kpos⟩ :: kws) (wCons w a) := PK.of (pk_cons ha hr) fun σ H Q ⟨ρ, μ, QD, rs, m, h, k⟩ =>
  up_mk rs m h fun v H1 d μ1 s1 m1 v1 h1 => ⟨ρ, μ1, _, rs.step s1, m1, h1, fun vs H2 ds μ2 s2 m2 v2 l2 h2 => k _ _ (d :: ds) μ2 (s1.trans s2) m2 ⟨v, vs, rfl, VD.step s2 _ _ v1, v2⟩ (by rw [List.length_cons, List.length_cons, l2]) h2⟩
theorem jc_0 : JCl B X [] [] [] wCl0 := fun pos f first pins s σ H ρ μ QD R hk I rs m h q => PySem.W.callWith_K0 I.kIn hk (q [] [] μ H [] [] [] [] s .refl m rfl rfl .nil .nil rfl I h)
theorem jc_p (ha : JA B X (e :: es) a) (he : starEach (e :: es) X.env = (false, eval e X.env) :: starEach es X.env := by rfl) (hpl : ∀ pos, (backTo pos (starEach es X.env)).any (·.1) = false := by intro _; rfl) : JCl B X (e :: es) [] [] (wClP a) := fun pos f first pins s σ H ρ μ QD R hk I rs m h q =>
  PySem.W.callWith_K (h₀ := X.base) I.ok.mod.kin hk (thn (ha.run pos pins s σ H (fun vs H1 => ∃ ds μ1, Step (MD μ) H (MD μ1) H1 ∧ MH μ1 H1 ∧ VDs (MD μ1) H1 ds vs ∧ QD ds [] μ1) I ⟨ρ, μ, _, rs, m, h, fun vs H1 ds μ1 s1 m1 v1 h1 => ⟨ds, μ1, s1, m1, v1, h1⟩⟩) fun us s1 ⟨vs, H1, I1, r, ds, μ1, s2, m2, v2, q2⟩ =>
    ⟨I1.kIn, q ds [] μ1 H1 vs [] us [] s1 s2 m2 v2 rfl r .nil rfl I1 q2⟩) he (hpl pos)
theorem jc_k (hkw : JK B X kws k) (hall : ∀ pos, (backToKw pos (keywordEach kws X.env)).all (·.1.isSome) = true := by intro _; rfl) (hks : ∀ pos, (backToKw pos (keywordEach kws X.env)).filterMap (·.1) = ks := by intro _; rfl)
    (hpl : ∀ pos, ((backTo pos (starEach [] X.env)).any (·.1) || (backToKw pos (keywordEach kws X.env)).any (·.1.isNone)) = false := by intro _; rfl) (hl : kws.length = ks.length := by rfl) : JCl B X [] kws ks (wClK k) := fun pos f first pins s σ H ρ μ QD R hk I rs m h q =>
  PySem.W.callWith_KW0 (h₀ := X.base) I.ok.mod.kin hk (hall pos) (thn (hkw.run pos pins s σ H (fun vs H1 => ∃ ds μ1, Step (MD μ) H (MD μ1) H1 ∧ MH μ1 H1 ∧ VDs (MD μ1) H1 ds vs ∧ ds.length = kws.length ∧ QD [] ds μ1) I ⟨ρ, μ, _, rs, m, h, fun vs H1 ds μ1 s1 m1 v1 l1 h1 => ⟨ds, μ1, s1, m1, v1, l1, h1⟩⟩) fun us s1 ⟨vs, H1, I1, r, ds, μ1, s2, m2, v2, l2, q2⟩ => by
    refine ⟨I1.kIn, ?_⟩
    rw [hks pos]
    exact q [] ds μ1 H1 [] vs [] us s1 s2 m2 rfl v2 .nil r (by rw [← r.length, ← v2.length, l2, hl]) I1 q2) (hpl pos)
theorem jc_pk (ha : JA B X (e :: es) a) (hkw : JK B X kws k) (hall : ∀ pos, (backToKw pos (keywordEach kws X.env)).all (·.1.isSome) = true := by intro _; rfl) (hks : ∀ pos, (backToKw pos (keywordEach kws X.env)).filterMap (·.1) = ks := by intro _; rfl)
    (he : starEach (e :: es) X.env = (false, eval e X.env) :: starEach es X.env := by rfl) (hpl : ∀ pos, ((backTo pos (starEach (e :: es) X.env)).any (·.1) || (backToKw pos (keywordEach kws X.env)).any (·.1.isNone)) = false := by intro _; rfl) (hl : kws.length = ks.length := by rfl) : JCl B X (e :: es) kws ks (wClPK a k) := fun pos f first pins s σ H ρ μ QD R hk I rs m h q =>
  PySem.W.callWith_KW (h₀ := X.base) I.ok.mod.kin hk (hall pos) (thn (ha.run pos pins s σ H (fun vs H1 => ∃ ds μ1, Step (MD μ) H (MD μ1) H1 ∧ MH μ1 H1 ∧ VDs (MD μ1) H1 ds vs ∧ k ρ μ1 fun es μ2 => QD ds es μ2) I ⟨ρ, μ, _, rs, m, h, fun vs H1 ds μ1 s1 m1 v1 h1 => ⟨ds, μ1, s1, m1, v1, h1⟩⟩) fun us s1 ⟨vs, H1, I1, r, ds, μ1, s2, m2, v2, q2⟩ =>
    thn (hkw.run pos pins s1 σ H1 (fun zs H2 => ∃ es μ2, Step (MD μ1) H1 (MD μ2) H2 ∧ MH μ2 H2 ∧ VDs (MD μ2) H2 es zs ∧ es.length = kws.length ∧ QD ds es μ2) I1 ⟨ρ, μ1, _, rs.step s2, m2, q2, fun vs H1 ds μ1 s1 m1 v1 l1 h1 => ⟨ds, μ1, s1, m1, v1, l1, h1⟩⟩) fun ws s3 ⟨zs, H3, I3, r3, es', μ3, s4, m4, v4, l4, q4⟩ => by
      refine ⟨I3.kIn, ?_⟩
      rw [hks pos]
      exact q ds es' μ3 H3 vs zs us ws s3 (s2.trans s4) m4 (VDs.step s4 _ _ v2) v4 r r3 (by rw [← r3.length, ← v4.length, l4, hl]) I3 q4) (hpl pos) he
end
section
variable {X : Cx} {k : Nat} {f C : Addr} {fd : FuncData} {ps ks : List Str} {n : Nat} {sp : SpD} {gD : List D → List D → List D} {W : WXD} {x m : Str} {p pos apos : Pos} {o : Expr} {es : List Expr} {kws : List Keyword} {t : WCl} {wo : WE}
/-- the callee runs -/
theorem run_D {pins : List (Addr × Obj)} {σ : L2.St} {H : Hp} {s : Shared} {ρ : Rho} {μ : Mu} {Q : DQ} {us ws : List Value} {vs zs : List V} {ds es : List D} {R : VK} (F : FnG X.prog X.w X.K X.mg X.base k f fd ps sp) (hr : Room k X.A) (hg : X.A.guards = some []) (hb : KBd X.K fd ps n ks gD) (tk : Takes X (upX B W))
    (I : Inv X pins σ H s) (rs : RS B (MD μ) H ρ σ) (mh : MH μ H) (v1 : VDs (MD μ) H ds vs) (v2 : VDs (MD μ) H es zs) (r1 : Vals vs us) (r2 : Vals zs ws) (l1 : us.length = n) (l2 : ws.length = ks.length)
    (h : sp (gD ds es) μ Q fun cls fs μ' => W cls fs ρ μ') (hR : ∀ v H', lft μ H Q v H' → R v H') : wpAny (model X.prog X.w) X.A (call (.ref f) us (ks.zip ws)) (EP X pins σ R) X.xe s := by
  obtain ⟨qs, hbd, hrel⟩ := hb.to s us ws I.kIn l1 l2
  obtain ⟨xs, rx, vx⟩ := hrel _ _ ds es vs zs v1 v2 r1 r2
  refine wpAny_call (codeAny_mono (F.run X.A X.stack s H ⟨us, ks.zip ws⟩ qs xs R (fun cls d H' => upX B W cls d σ H') hg hr I.env0 hbd rx ⟨_, μ, Q, _, vx, mh, h, hR, fun cls d H' ⟨fs, μ', s1, m1, f1, w1⟩ => ⟨fs, ρ, μ', f1, rs.step s1, m1, w1⟩⟩) fun r s' hq => ?_)
  cases r with
  | error e => exact tk e s' (XE.of_call I (fun cls d H' z => z) hq)
  | ok fl =>
    cases fl with
    | ret u => exact I.after hq
    | next => exact hq.elim
    | brk => exact hq.elim
    | cont => exact hq.elim
def wCall (n : Nat) (sp : SpD) (gD : List D → List D → List D) (W : WXD) (t : WCl) : WE := fun ρ μ Q => t ρ μ fun ds es μ1 => ds.length = n ∧ sp (gD ds es) μ1 Q fun cls fs μ' => W cls fs ρ μ'
theorem je_call (F : FnG X.prog X.w X.K X.mg X.base k f fd ps sp) (hr : Room k X.A) (hg : X.A.guards = some []) (tk : Takes X (upX B W)) (hm : X.mg x = some (.ref f)) (hk : PySem.W.keepIn X.K (.ref f) = true) (hb : KBd X.K fd ps n ks gD) (ha : JCl B X es kws ks t)
    (hgl : Gl X x := by rfl) (hdb : (x == ("__debug__" : Str)) = false := by decide) : JE B X (.Call (.Name x p) es kws pos) (wCall n sp gD W t) := ⟨fun pins s σ H Q I ⟨ρ, μ, QD, rs, mh, h, kk⟩ => by
  refine wpAny_Call_Name_kw (ld_glob I hgl hm ?_ hdb)
  refine ha pos _ [] pins s σ H ρ μ _ _ hk I rs mh h fun ds es μ1 H1 vs zs us ws s1 st m1 v1 v2 r1 r2 l2 I1 q => ?_
  exact run_D F hr hg hb tk I1 (rs.step st) m1 v1 v2 r1 r2 (show us.length = n by rw [← r1.length, ← v1.length]; exact q.1) l2 q.2 fun v H' z => kk v H' (z.trans st)⟩
/-- o.m(..), o an instance of the class at C -/
def wMeth (C : Addr) (m : Str) (n : Nat) (sp : SpD) (gD : List D → List D → List D) (W : WXD) (wo : WE) (t : WCl) : WE := fun ρ μ Q => wo ρ μ fun d μ0 => ∃ a fs, d = .at a ∧ μ0 a = some (.ins C fs) ∧ fs.lookup m = none ∧ t ρ μ0 fun ds es μ1 => ds.length + 1 = n ∧ sp (gD (.at a :: ds) es) μ1 Q fun cls fs μ' => W cls fs ρ μ'
theorem KD.lookup {M : Ms} {H : Hp} {m : Str} : ∀ {fs : List (Str × D)} {gs : List (Str × V)}, KD M H fs gs → (match fs.lookup m with | none => gs.lookup m = none | some d => ∃ v, gs.lookup m = some v ∧ VD M H d v)
  | _, _, .nil => rfl
  | (a, d) :: fs, (b, v) :: gs, .cons r t => by
    obtain ⟨e, hv⟩ := r
    have e' : a = b := e
    subst e'
    rw [List.lookup_cons, List.lookup_cons]
    cases q : (m == a) with
    | true => exact ⟨v, rfl, hv⟩
    | false => exact KD.lookup t
theorem KD.lookup_none {M : Ms} {H : Hp} {m : Str} {fs : List (Str × D)} {gs : List (Str × V)} (h : KD M H fs gs) (e : fs.lookup m = none) : gs.lookup m = none := by
  have q := KD.lookup (m := m) h
  rw [e] at q
  exact q
theorem KD.lookup_some {M : Ms} {H : Hp} {m : Str} {fs : List (Str × D)} {gs : List (Str × V)} {d : D} (h : KD M H fs gs) (e : fs.lookup m = some d) : ∃ v, gs.lookup m = some v ∧ VD M H d v := by
  have q := KD.lookup (m := m) h
  rw [e] at q
  exact q
theorem je_meth {pl : Sem Bool} (ho : JE B X o wo) (c : Cls X.K C) (hm : Meth X.K C m f) (F : FnG X.prog X.w X.K X.mg X.base k f fd ps sp) (hr : Room k X.A) (hg : X.A.guards = some []) (tk : Takes X (upX B W)) (hb : KBd X.K fd ps n ks gD) (ha : JCl B X es kws ks t)
    (ht : eval (.Call (.Attribute o m apos) es kws pos) X.env = (do
      let ov ← eval o X.env
      standAt apos.atName
      let (f, first) ← holding [ov] (getMethod ov m pl)
      callWith pos f first (backTo pos (starEach es X.env)) (backToKw pos (keywordEach kws X.env))) := by rfl) : JE B X (.Call (.Attribute o m apos) es kws pos) (wMeth C m n sp gD W wo t) := ⟨fun pins s σ H Q I ⟨ρ, μ, QD, rs, mh, h, kk⟩ => by
  have h1 := ho.run pins s σ H (fun v H1 => ∃ d μ1, Step (MD μ) H (MD μ1) H1 ∧ MH μ1 H1 ∧ VD (MD μ1) H1 d v ∧ ∃ a fs, d = .at a ∧ μ1 a = some (.ins C fs) ∧ fs.lookup m = none ∧ t ρ μ1 fun ds es μ2 => ds.length + 1 = n ∧ sp (gD (.at a :: ds) es) μ2 QD fun cls fs μ' => W cls fs ρ μ') I
    (up_mk rs mh h fun v H' d μ' a b c e => ⟨d, μ', a, b, c, e⟩)
  refine PySem.W.methodCall_KW (pl := pl) (thn h1 fun u s1 ⟨v, H1, I1, rv, d, μ1, st1, m1, v1, a, fs, ed, ea, el, q⟩ => ?_) ht
  subst ed
  rw [show v = V.ref a from v1] at rv
  obtain rfl : u = Value.ref a := rv
  obtain ⟨dx, gs, e1, kd⟩ := m1 a _ ea
  refine getmeth_ok I1 e1 c hm (KD.lookup_none kd el) ?_
  refine ha pos _ [.ref a] pins s1 σ H1 ρ μ1 _ _ hm.kp I1 (rs.step st1) m1 q fun ds es μ2 H2 vs zs us ws s2 st m2 v1 v2 r1 r2 l2 I2 q => ?_
  exact run_D (us := .ref a :: us) (vs := .ref a :: vs) (ds := .at a :: ds) F hr hg hb tk I2 ((rs.step st1).step st) m2 ⟨_, _, rfl, rfl, v1⟩ v2 (.cons rfl r1) r2 (by rw [List.length_cons, ← r1.length, ← v1.length]; exact q.1) l2 q.2 fun v H' z => kk v H' (z.trans (st1.trans st))⟩
/-- C(..): a new instance, then __init__ -/
def wMake (C : Addr) (n : Nat) (sp : SpD) (gD : List D → List D → List D) (W : WXD) (t : WCl) : WE := fun ρ μ Q => t ρ μ fun ds es μ1 => ds.length + 1 = n ∧ ∀ a, μ1 a = none → sp (gD (.at a :: ds) es) (put μ1 a (.ins C [])) (fun d μ2 => d = .non ∧ Q (.at a) μ2) fun cls fs μ' => W cls fs ρ μ'
theorem make_guards {A : Around} {C : Addr} {us : List Value} {kw : List (Str × Value)} : (A.under (.builtin "type.__call__" ⟨.ref C :: us, kw⟩)).guards = A.guards := by
  cases h : A.guards with
  | none => simp [Around.under, h, pushGuards, Code.guards, Code.isGuard, guardIds]
  | some l => simp [Around.under, h, pushGuards, Code.guards, Code.isGuard, guardIds]
theorem je_make (M : Mk X.K C f) (F : FnG X.prog X.w X.K X.mg X.base k f fd ps sp) (hr : Room (k + 1) X.A) (hg : X.A.guards = some []) (tk : Takes X (upX B W)) (hm : X.mg x = some (.ref C)) (hb : KBd X.K fd ps n ks gD) (ha : JCl B X es kws ks t)
    (hgl : Gl X x := by rfl) (hdb : (x == ("__debug__" : Str)) = false := by decide) : JE B X (.Call (.Name x p) es kws pos) (wMake C n sp gD W t) := ⟨fun pins s σ H Q I ⟨ρ, μ, QD, rs, mh, h, kk⟩ => by
  refine wpAny_Call_Name_kw (ld_glob I hgl hm ?_ hdb)
  refine ha pos _ [] pins s σ H ρ μ _ _ M.kp I rs mh h fun ds es μ1 H1 vs zs us ws s1 st m1 v1 v2 r1 r2 l2 I1 q => ?_
  show wpAny _ _ (call (.ref C) us (ks.zip ws)) _ _ _
  have f1 : H1 s1.heap.objs.size = none := I1.hok.fresh (Nat.le_refl _)
  have f2 : H1 (s1.heap.objs.size + 1) = none := I1.hok.fresh (Nat.le_succ _)
  have I2 := Inv.made (C := C) I1
  have stA : Step (MD μ1) H1 (MD μ1) (upd H1 s1.heap.objs.size (.own (s1.heap.objs.size + 1))) := .new f1
  have mA := m1.newF (o := .own (s1.heap.objs.size + 1)) f1
  have f3 : (upd H1 s1.heap.objs.size (.own (s1.heap.objs.size + 1))) (s1.heap.objs.size + 1) = none := by
    rw [upd_ne (Nat.ne_of_gt (Nat.lt_succ_self _))]
    exact f2
  have stB : Step (MD μ1) (upd H1 s1.heap.objs.size (.own (s1.heap.objs.size + 1))) (MD (put μ1 (s1.heap.objs.size + 1) (.ins C []))) (upd (upd H1 s1.heap.objs.size (.own (s1.heap.objs.size + 1))) (s1.heap.objs.size + 1) (.ins C s1.heap.objs.size [])) := .newM f3
  have stC := stA.trans stB
  have mB : MH (put μ1 (s1.heap.objs.size + 1) (.ins C [])) (upd (upd H1 s1.heap.objs.size (.own (s1.heap.objs.size + 1))) (s1.heap.objs.size + 1) (.ins C s1.heap.objs.size [])) := mA.newM f3 ⟨_, _, upd_same, .nil⟩
  have hq := q.2 (s1.heap.objs.size + 1) (m1.free f2)
  have n1 : (Value.ref (s1.heap.objs.size + 1) :: us).length = n := by
    rw [List.length_cons, ← r1.length, ← v1.length]
    exact q.1
  obtain ⟨qs, hbd, hrel⟩ := hb.to _ (Value.ref (s1.heap.objs.size + 1) :: us) ws I2.kIn n1 l2
  obtain ⟨xs, rx, vx⟩ := hrel (MD (put μ1 (s1.heap.objs.size + 1) (.ins C []))) _ (.at (s1.heap.objs.size + 1) :: ds) es (V.ref (s1.heap.objs.size + 1) :: vs) zs ⟨_, _, rfl, rfl, VDs.step stC _ _ v1⟩ (VDs.step stC _ _ v2) (.cons rfl r1) r2
  have I3 : Env0 X.prog X.w X.K X.mg X.base (X.A.under (.builtin "type.__call__" ⟨.ref C :: us, ks.zip ws⟩)) X.stack _ _ := I2.env0.make C us (ks.zip ws)
  refine wpAny_call (make_map (f := f) I1.kIn M.makes M.init (beq_iff_eq.mp M.fn) (codeAny_mono (F.run _ X.stack _ _ ⟨Value.ref (s1.heap.objs.size + 1) :: us, ks.zip ws⟩ qs xs (fun v H2 => v = .non ∧ Q (.ref (s1.heap.objs.size + 1)) H2) (fun cls d H' => upX B W cls d σ H') (make_guards.trans hg) (hr.make C us (ks.zip ws)) I3 hbd rx
    ⟨_, _, _, _, vx, mB, hq, ?_, fun cls d H' ⟨fs, μ', s2, m2, f2, w2⟩ => ⟨fs, ρ, μ', f2, ((rs.step st).step stC).step s2, m2, w2⟩⟩) fun r s' hq' => ?_))
  · rintro v H' ⟨d, μ', s2, m2, v2, rfl, q2⟩
    exact ⟨v2, kk _ _ ⟨.at (s1.heap.objs.size + 1), μ', (st.trans stC).trans s2, m2, rfl, q2⟩⟩
  · cases r with
    | error e => exact tk e s' (XE.of_call I2 (fun cls d H' z => z) hq')
    | ok fl =>
      cases fl with
      | ret u =>
        obtain ⟨v, H', I4, rv, ev, q3⟩ := I2.after hq'
        subst ev
        exact ⟨rv, ⟨V.ref (s1.heap.objs.size + 1), H', I4, rfl, q3⟩⟩
      | next => exact hq'.elim
      | brk => exact hq'.elim
      | cont => exact hq'.elim⟩
end
end Dl
namespace Dl
open PySem PySem.Spec PyProof.Rows L2
variable {B : Bs}
/-! ### comprehensions -/
def wipeD (ρ : Rho) : List Nat → Rho
  | [] => ρ
  | v :: vs => (wipeD ρ vs).set v none
theorem wipe_get (σ : L2.St) : ∀ (vs : List Nat) (i : Nat), (wipe σ vs)[i]? = if i ∈ vs then (σ[i]?).map (fun _ => none) else σ[i]?
  | [], i => by rw [if_neg (by simp)]; rfl
  | v :: vs, i => by
    show ((wipe σ vs).set v none)[i]? = _
    by_cases e : i = v
    · subst e
      rw [if_pos List.mem_cons_self]
      by_cases hl : i < σ.length
      · rw [List.getElem?_set_self (by rw [wipe_length]; exact hl), List.getElem?_eq_getElem hl]
        rfl
      · rw [List.getElem?_eq_none (by rw [List.length_set, wipe_length]; omega), List.getElem?_eq_none (by omega)]
        rfl
    · rw [List.getElem?_set_ne (Ne.symm e), wipe_get σ vs i]
      have q : (i ∈ v :: vs) ↔ i ∈ vs := by simp [e]
      simp only [q]
theorem wipeD_length (ρ : Rho) : ∀ vs : List Nat, (wipeD ρ vs).length = ρ.length
  | [] => rfl
  | v :: vs => by
    show ((wipeD ρ vs).set v none).length = _
    rw [List.length_set, wipeD_length ρ vs]
theorem wipeD_get (ρ : Rho) : ∀ (vs : List Nat) (i : Nat) (d : D), (wipeD ρ vs)[i]? = some (some d) → i ∉ vs ∧ ρ[i]? = some (some d)
  | [], i, d, h => ⟨by simp, h⟩
  | v :: vs, i, d, h => by
    have h' : ((wipeD ρ vs).set v none)[i]? = some (some d) := h
    by_cases e : i = v
    · subst e
      by_cases hl : i < (wipeD ρ vs).length
      · rw [List.getElem?_set_self hl] at h'
        cases h'
      · rw [List.getElem?_eq_none (by rw [List.length_set]; omega)] at h'
        cases h'
    · rw [List.getElem?_set_ne (Ne.symm e)] at h'
      obtain ⟨a, b⟩ := wipeD_get ρ vs i d h'
      exact ⟨by simp [e, a], b⟩
theorem RS.wipe {M : Ms} {H : Hp} {ρ : Rho} {σ : L2.St} (vs : List Nat) (r : RS B M H ρ σ) : RS B M H (wipeD ρ vs) (wipe σ vs) := by
  refine ⟨by rw [wipeD_length, wipe_length]; exact r.1, fun i d e => ?_, r.2.2⟩
  obtain ⟨n, e1⟩ := wipeD_get ρ vs i d e
  obtain ⟨v, e2, h⟩ := r.2.1 i d e1
  exact ⟨v, by rw [wipe_get, if_neg n]; exact e2, h⟩
theorem wipe_wipe (σ : L2.St) (vs : List Nat) : wipe (wipe σ vs) vs = wipe σ vs := by
  refine List.ext_getElem? fun i => ?_
  rw [wipe_get, wipe_get]
  by_cases h : i ∈ vs
  · rw [if_pos h, if_pos h]
    cases σ[i]? <;> rfl
  · rw [if_neg h, if_neg h]
theorem wipe_set (σ : L2.St) {vs : List Nat} {i : Nat} (h : i ∈ vs) (x : Option V) : wipe (σ.set i x) vs = wipe σ vs := by
  refine List.ext_getElem? fun j => ?_
  rw [wipe_get, wipe_get]
  by_cases e : j = i
  · subst e
    rw [if_pos h, if_pos h]
    by_cases hl : j < σ.length
    · rw [List.getElem?_set_self hl, List.getElem?_eq_getElem hl]
      rfl
    · rw [List.getElem?_eq_none (by rw [List.length_set]; omega), List.getElem?_eq_none (by omega)]
  · rw [List.getElem?_set_ne (Ne.symm e)]
/-- a target of a comprehension: names among vs alone -/
def CT (B : Bs) (g : TG) (w : WG) (vs : List Nat) : Prop := ∀ v d σ H ρ μ QD, VD (MD μ) H d v → RS B (MD μ) H ρ σ → w d ρ μ QD → ∀ Q : L2.St → Hp → Prop, (∀ σ2 ρ2, wipe σ2 vs = wipe σ vs → RS B (MD μ) H ρ2 σ2 → QD ρ2 μ → Q σ2 H) → g v σ H Q
theorem ct_name {vs : List Nat} (i : Nat) (h : i ∈ vs := by decide) : CT B (gName i) (wgName i) vs := fun v d σ H ρ μ QD vd rs q Q k => k _ _ (wipe_set σ h _) (rs.set i vd) q
/-- tests of a clause -/
abbrev JTs (B : Bs) (X : Cx) (es : List Expr) (w : WT) : Prop := PTs X es (upT B w)
def wYes : WT := fun _ μ Q => Q true μ
theorem PTs.of {X : Cx} {es : List Expr} {t t' : TT} (h : PTs X es t) (g : ∀ σ H Q, t' σ H Q → t σ H Q) : PTs X es t' := ⟨fun pins s σ H Q I q => h.run pins s σ H Q I (g σ H Q q)⟩
theorem jts_nil {X : Cx} : JTs B X [] wYes := PTs.of pts_nil fun σ H Q ⟨ρ, μ, QD, rs, m, h, k⟩ => k true H μ .refl m h
theorem jts_one {X : Cx} {c : Expr} {t : WT} (h : JT B X c t) : JTs B X [c] t := pts_one h
/-- [elt for target in iter if ..]; L is the new list while it grows -/
def wLc (wi : WI) (g : WG) (t : WT) (a : WE) (vs : List Nat) : WE := fun ρ μ Q => wi ρ μ fun ds kp μ1 => ds.length ≤ 1000000 ∧ ∀ L, μ1 L = none → ∃ P : Nat → Mu → Prop, P 0 (put μ1 L (.lst [])) ∧ (∀ i μ, i ≤ ds.length → P i μ → kp μ) ∧
  (∀ i d μ, ds[i]? = some d → P i μ → g d (wipeD ρ vs) μ fun ρ2 μ2 => t ρ2 μ2 fun b μ3 => Br b (a ρ2 μ3 fun e μ4 => ∃ acc, μ4 L = some (.lst acc) ∧ acc.length ≤ i ∧ P (i + 1) (put μ4 L (.lst (acc ++ [e])))) (P (i + 1) μ3)) ∧
  ∀ μ, P ds.length μ → wkR Q (.at L) μ
theorem up_lc {X : Cx} {wi : WI} {g : TG} {w : WG} {t : WT} {a : WE} {vs : List Nat} (ct : CT B g w vs) {σ : L2.St} {H : Hp} {Q : VK} (h : up B (wLc wi w t a vs) σ H Q) : tLc (upI B wi) g (upT B t) (up B a) vs σ H Q := by
  obtain ⟨ρ, μ, QD, rs, m, h, k⟩ := h
  refine ⟨ρ, μ, _, rs, m, h, fun J H1 ds kp μ1 s1 m1 gv ⟨sz, h1⟩ L hL => ?_⟩
  obtain ⟨P, p0, pk, ps, pd⟩ := h1 L (m1.free hL)
  have st0 : Step (MD μ1) H1 (MD (put μ1 L (.lst []))) (upd H1 L (.lst [])) := .newM hL
  have m0 : MH (put μ1 L (.lst [])) (upd H1 L (.lst [])) := m1.newM hL ⟨[], upd_same, rfl⟩
  refine lc_it gv (fun i H2 => ∃ μ, Step (MD μ1) H1 (MD μ) H2 ∧ MH μ H2 ∧ P i μ) ⟨_, st0, m0, p0⟩ (fun i H2 hi ⟨μ2, st, mh, p⟩ => ⟨μ2, st, mh, pk i μ2 hi p⟩) ?_ ?_
  · rintro i x H2 H3 hi ⟨μ2, st, mh, p⟩ y
    obtain ⟨d, hd, st2, mh2, vd⟩ := y μ2 st mh (pk i μ2 (Nat.le_of_lt hi) p)
    have st3 := st.trans st2
    have r2 := ((rs.step s1).step st3).wipe vs
    refine ct x d _ H3 _ μ2 _ vd r2 (ps i d μ2 hd p) _ fun σ4 ρ4 e4 r4 q4 => ⟨e4.trans (wipe_wipe σ vs), ?_⟩
    refine upT_mk r4 mh2 q4 fun b H5 μ5 s5 m5 q5 => (q5.mono (fun q => ?_) fun q => ?_).ite
    · refine up_mk (r4.step s5) m5 q fun v H6 e μ6 s6 m6 v6 ⟨acc, h6, l6, p6⟩ => ?_
      obtain ⟨xs, e6, g6⟩ := m6 L _ h6
      have st7 : Step (MD μ6) H6 (MD (put μ6 L (.lst (acc ++ [e])))) (upd H6 L (.lst (xs ++ [v]))) := .write ⟨_, h6⟩
      refine ⟨xs, e6, ?_, _, ((st3.trans s5).trans s6).trans st7, m6.write ⟨_, h6⟩ ⟨_, upd_same, VDs.append (VDs.step st7 _ _ g6) ⟨v, [], rfl, VD.step st7 _ _ v6, rfl⟩⟩, p6⟩
      rw [← g6.length, sizeLine_eq]
      omega
    · exact ⟨μ5, st3.trans s5, m5, q⟩
  · rintro H2 ⟨μ2, st, mh, p⟩
    obtain ⟨d', μ3, wk, q⟩ := pd μ2 p
    exact k _ _ ⟨d', μ3, (s1.trans st).trans (wk _ mh).1.1, (wk _ mh).1.2, (wk _ mh).2 _ rfl, q⟩
section
variable {X : Cx} {elt tg iter : Expr} {ifs : List Expr} {scope : Scope} {own : List (Str × Nat)} {pos : Pos} {wi : WI} {g : TG} {w : WG} {t : WT} {a : WE}
theorem je_lc (hN : X.N.Nodup) (hi : JI B X tg iter wi) (ok : BlkOk X.N X.env.scope scope own) (ct : CT B g w (own.map (·.2))) (hg : ∀ (s : Shared) (H : Hp) (C : Addr) (cl : List (Str × Addr)) (fp : List Addr), PG (X.blk s H scope (compEnvC scope cl C X.env) fp) tg g)
    (ht : ∀ (s : Shared) (H : Hp) (C : Addr) (cl : List (Str × Addr)) (fp : List Addr), JTs B (X.blk s H scope (compEnvC scope cl C X.env) fp) ifs t) (he : ∀ (s : Shared) (H : Hp) (C : Addr) (cl : List (Str × Addr)) (fp : List Addr), JE B (X.blk s H scope (compEnvC scope cl C X.env) fp) elt a)
    (hc : X.calm = true := by rfl) (hs : ∀ x, foldedSetIterable iter X.env x = pure x := by intro _; rfl) : JE B X (.ListComp elt [⟨tg, iter, ifs, 0⟩] scope pos) (wLc wi w t a (own.map (·.2))) :=
  PE.of (pe_lc hc hN hi ok hg ht he hs) fun σ H Q h => up_lc (X := X) ct h
/-- name = [..] -/
theorem js_setLc (i : Nat) {y : Str} {py spos : Pos} (hN : X.N.Nodup) (hi : JI B X tg iter wi) (ok : BlkOk X.N X.env.scope scope own) (ct : CT B g w (own.map (·.2))) (hg : ∀ (s : Shared) (H : Hp) (C : Addr) (cl : List (Str × Addr)) (fp : List Addr), PG (X.blk s H scope (compEnvC scope cl C X.env) fp) tg g)
    (ht : ∀ (s : Shared) (H : Hp) (C : Addr) (cl : List (Str × Addr)) (fp : List Addr), JTs B (X.blk s H scope (compEnvC scope cl C X.env) fp) ifs t) (he : ∀ (s : Shared) (H : Hp) (C : Addr) (cl : List (Str × Addr)) (fp : List Addr), JE B (X.blk s H scope (compEnvC scope cl C X.env) fp) elt a)
    (hsw : swapsWith (.ListComp elt [⟨tg, iter, ifs, 0⟩] scope pos) (some (.Name y py)) spos.line X.env = pure true) (hc : X.calm = true := by rfl) (hy : X.N[i]? = some y := by rfl) (hyl : X.env.scope.names.lookup y = some .local := by rfl) (hs : ∀ x, foldedSetIterable iter X.env x = pure x := by intro _; rfl) :
    JS B X (.Assign [.Name y py] (.ListComp elt [⟨tg, iter, ifs, 0⟩] scope pos) spos) (wSet i (wLc wi w t a (own.map (·.2)))) :=
  PS.of (ps_setLc hc hN hy hyl hsw hi ok hg ht he hs) fun E σ H ⟨ρ, μ, DD, rs, m, h, l⟩ => up_lc (X := X) ct (up_mk rs m h fun v H' d μ' s m' r q => l.nx _ H' _ μ' s ((rs.step s).set i r) m' q)
end
/-- a comprehension whose turns leave all as it stands: R of the turns and the items made -/
def lcP (R : Nat → List D → Prop) (μ1 : Mu) (L : Addr) (i : Nat) (μ : Mu) : Prop := ∃ acc, μ = put μ1 L (.lst acc) ∧ acc.length ≤ i ∧ R i acc
theorem lc_by {g : WG} {t : WT} {a : WE} {vs : List Nat} {ρ : Rho} {Q : DQ} {ds : List D} {kp : Mu → Prop} {μ1 : Mu} (R : Nat → List D → Prop) (sz : ds.length ≤ 1000000) (h0 : R 0 []) (hk : ∀ L acc, μ1 L = none → kp (put μ1 L (.lst acc)))
    (hd : ∀ acc, acc.length ≤ ds.length → R ds.length acc → Q (.lst acc) μ1)
    (hs : ∀ L i d acc, μ1 L = none → acc.length ≤ i → ds[i]? = some d → R i acc → g d (wipeD ρ vs) (put μ1 L (.lst acc)) fun ρ2 μ2 => t ρ2 μ2 fun b μ3 => Br b (a ρ2 μ3 fun e μ4 => ∃ acc, μ4 L = some (.lst acc) ∧ acc.length ≤ i ∧ lcP R μ1 L (i + 1) (put μ4 L (.lst (acc ++ [e])))) (lcP R μ1 L (i + 1) μ3)) :
    ds.length ≤ 1000000 ∧ ∀ L, μ1 L = none → ∃ P : Nat → Mu → Prop, P 0 (put μ1 L (.lst [])) ∧ (∀ i μ, i ≤ ds.length → P i μ → kp μ) ∧
  (∀ i d μ, ds[i]? = some d → P i μ → g d (wipeD ρ vs) μ fun ρ2 μ2 => t ρ2 μ2 fun b μ3 => Br b (a ρ2 μ3 fun e μ4 => ∃ acc, μ4 L = some (.lst acc) ∧ acc.length ≤ i ∧ P (i + 1) (put μ4 L (.lst (acc ++ [e])))) (P (i + 1) μ3)) ∧
  ∀ μ, P ds.length μ → wkR Q (.at L) μ := by
  refine ⟨sz, fun L hL => ⟨lcP R μ1 L, ⟨[], rfl, Nat.le_refl _, h0⟩, ?_, ?_, ?_⟩⟩
  · rintro i μ _ ⟨acc, rfl, _, _⟩
    exact hk L acc hL
  · rintro i d μ hd ⟨acc, rfl, la, r⟩
    exact hs L i d acc hL la hd r
  · rintro μ ⟨acc, rfl, la, r⟩
    exact .froze ((Less.refl μ1).put hL) put_same hL (hd acc la r)
theorem lc_more {R : Nat → List D → Prop} {μ1 : Mu} {L : Addr} {i : Nat} {acc : List D} {e : D} (l : acc.length ≤ i) (r : R (i + 1) (acc ++ [e])) : ∃ acc', (put μ1 L (.lst acc)) L = some (.lst acc') ∧ acc'.length ≤ i ∧ lcP R μ1 L (i + 1) (put (put μ1 L (.lst acc)) L (.lst (acc' ++ [e]))) :=
  ⟨acc, put_same, l, acc ++ [e], put_put, by simp; omega, r⟩
theorem lc_skip {R : Nat → List D → Prop} {μ1 : Mu} {L : Addr} {i : Nat} {acc : List D} (l : acc.length ≤ i) (r : R (i + 1) acc) : lcP R μ1 L (i + 1) (put μ1 L (.lst acc)) := ⟨acc, rfl, by omega, r⟩
end Dl
namespace Dl
open PySem PySem.Spec PyProof.Rows L2
variable {B : Bs}
/-! ### dicts as tables of data -/
section
variable {κ : Type} [DecidableEq κ]
def atD (kvs : List (κ × D)) (k : κ) : Option D := (kvs.find? fun kv => decide (kv.1 = k)).map (·.2)
def putD (kvs : List (κ × D)) (k : κ) (v : D) : List (κ × D) := if (kvs.any fun kv => decide (kv.1 = k)) = true then kvs.map (fun kv => if kv.1 = k then (kv.1, v) else kv) else kvs ++ [(k, v)]
def dropD (kvs : List (κ × D)) (k : κ) : List (κ × D) := kvs.filter fun kv => decide (kv.1 ≠ k)
variable {M : Ms} {H : Hp}
theorem KD.any : ∀ {xs : List (κ × D)} {ys : List (κ × V)}, KD M H xs ys → ∀ k, (xs.any fun kv => decide (kv.1 = k)) = ys.any fun kv => decide (kv.1 = k)
  | _, _, .nil, _ => rfl
  | _, _, .cons r t, k => by rw [List.any_cons, List.any_cons, KD.any t k, r.1]
theorem KD.at : ∀ {xs : List (κ × D)} {ys : List (κ × V)}, KD M H xs ys → ∀ k, (∀ d, atD xs k = some d → ∃ v, valV ys k = some v ∧ VD M H d v) ∧ (atD xs k = none → valV ys k = none)
  | _, _, .nil, k => ⟨fun d e => (by cases e), fun _ => rfl⟩
  | (a, d) :: xs, (b, v) :: ys, .cons r t, k => by
    obtain ⟨e, hv⟩ := r
    have e' : a = b := e
    subst e'
    have ih := KD.at t k
    unfold atD valV at *
    rw [List.find?_cons, List.find?_cons]
    by_cases q : a = k
    · simp only [q, decide_true]
      exact ⟨fun d' e => by cases e; exact ⟨v, rfl, hv⟩, fun e => by cases e⟩
    · simp only [decide_eq_false q]
      exact ih
theorem KD.map {v : V} {d : D} (hv : VD M H d v) (k : κ) : ∀ {xs : List (κ × D)} {ys : List (κ × V)}, KD M H xs ys → KD M H (xs.map fun kv => if kv.1 = k then (kv.1, d) else kv) (ys.map fun kv => if kv.1 = k then (kv.1, v) else kv)
  | _, _, .nil => .nil
  | (a, x) :: xs, (b, y) :: ys, .cons r t => by
    obtain ⟨e, hx⟩ := r
    have e' : a = b := e
    subst e'
    refine .cons ?_ (KD.map hv k t)
    show (if a = k then (a, d) else (a, x)).1 = (if a = k then (a, v) else (a, y)).1 ∧ VD M H (if a = k then (a, d) else (a, x)).2 (if a = k then (a, v) else (a, y)).2
    by_cases q : a = k
    · rw [if_pos q, if_pos q]
      exact ⟨rfl, hv⟩
    · rw [if_neg q, if_neg q]
      exact ⟨rfl, hx⟩
theorem KD.app : ∀ {xs xs' : List (κ × D)} {ys ys' : List (κ × V)}, KD M H xs ys → KD M H xs' ys' → KD M H (xs ++ xs') (ys ++ ys')
  | _, _, _, _, .nil, g => g
  | _, _, _, _, .cons r t, g => .cons r (KD.app t g)
theorem KD.put {v : V} {d : D} (hv : VD M H d v) (k : κ) {xs : List (κ × D)} {ys : List (κ × V)} (h : KD M H xs ys) : KD M H (putD xs k d) (putK ys k v) := by
  unfold putD putK
  rw [h.any k]
  split
  · exact KD.map hv k h
  · exact h.app (.cons ⟨rfl, hv⟩ .nil)
theorem KD.drop (k : κ) : ∀ {xs : List (κ × D)} {ys : List (κ × V)}, KD M H xs ys → KD M H (dropD xs k) (dropK ys k)
  | _, _, .nil => .nil
  | (a, x) :: xs, (b, y) :: ys, .cons r t => by
    obtain ⟨e, hx⟩ := r
    have e' : a = b := e
    subst e'
    unfold dropD dropK at *
    by_cases q : a = k
    · rw [List.filter_cons_of_neg (by simp [q]), List.filter_cons_of_neg (by simp [q])]
      exact KD.drop k t
    · rw [List.filter_cons_of_pos (by simp [q]), List.filter_cons_of_pos (by simp [q])]
      exact .cons ⟨rfl, hx⟩ (KD.drop k t)
theorem KD.length : ∀ {xs : List (κ × D)} {ys : List (κ × V)}, KD M H xs ys → xs.length = ys.length
  | _, _, .nil => rfl
  | _, _, .cons _ t => congrArg (· + 1) (KD.length t)
theorem KD.get : ∀ {xs : List (κ × D)} {ys : List (κ × V)} {i : Nat} {k : κ} {d : D}, KD M H xs ys → xs[i]? = some (k, d) → ∃ v, ys[i]? = some (k, v) ∧ VD M H d v
  | _, _, _, _, _, .nil, e => by simp at e
  | _, (b, v) :: ys, 0, k, d, .cons r t, e => by
    simp only [List.getElem?_cons_zero, Option.some.injEq] at e
    obtain ⟨e1, h⟩ := r
    subst e
    exact ⟨v, by rw [show k = b from e1]; rfl, h⟩
  | _, _ :: ys, i + 1, k, d, .cons r t, e => by
    obtain ⟨v, e1, h⟩ := KD.get (i := i) t (by simpa using e)
    exact ⟨v, by simpa using e1, h⟩
end
/-! ### keys -/
def keyD : D → Option Key
  | .int i => some (.inl i)
  | .str x => some (.inr x)
  | _ => none
def Dk : Key → D
  | .inl i => .int i
  | .inr x => .str x
theorem keyD_v {M : Ms} {H : Hp} {d : D} {k : Key} {v : V} (h : keyD d = some k) (r : VD M H d v) : v = kV k := by
  cases d with
  | int i =>
    cases h
    exact r
  | str i =>
    cases h
    exact r
  | _ => cases h
theorem Dk_v {M : Ms} {H : Hp} (k : Key) : VD M H (Dk k) (kV k) := by
  cases k <;> exact rfl
def keysD : List D → Option (List Key)
  | [] => some []
  | d :: ds => match keyD d, keysD ds with
    | some k, some ks => some (k :: ks)
    | _, _ => none
theorem keysD_v {M : Ms} {H : Hp} : ∀ {ds : List D} {ks : List Key} {xs : List V}, keysD ds = some ks → VDs M H ds xs → xs = ks.map kV
  | [], ks, xs, h, r => by
    cases h
    exact r
  | d :: ds, ks, xs, h, r => by
    obtain ⟨v, vs, rfl, r1, r2⟩ := r
    unfold keysD at h
    split at h
    · rename_i k ks' e1 e2
      cases h
      rw [keyD_v e1 r1, keysD_v e2 r2]
      rfl
    · cases h
/-- what the dict d holds at the key e -/
def GetD (μ : Mu) (d e : D) (o : Option D) : Prop := match d with
  | .at a => (∃ kvs k, (μ a = some (.dK kvs) ∨ ∃ ob ks, μ a = some (.fz ob ks kvs)) ∧ keyD e = some k ∧ o = atD kvs k) ∨ ∃ kvs ks k, μ a = some (.dT kvs) ∧ e = .tup ks ∧ keysD ks = some k ∧ o = atD kvs k
  | _ => False
def OV (M : Ms) (H : Hp) : Option D → Option V → Prop
  | none, r => r = none
  | some z, r => ∃ v, r = some v ∧ VD M H z v
theorem GetD.to {μ : Mu} {H : Hp} {d e : D} {o : Option D} {x y : V} (mh : MH μ H) (v1 : VD (MD μ) H d x) (v2 : VD (MD μ) H e y) (h : GetD μ d e o) :
    ∃ a r, x = .ref a ∧ DGet H a y r ∧ IsD H a ∧ OV (MD μ) H o r := by
  cases d with
  | «at» a =>
    rcases h with ⟨kvs, k, h1, h2, rfl⟩ | ⟨kvs, ks, k, h1, rfl, h3, rfl⟩
    · obtain ⟨ks, e1, kd⟩ : ∃ ks, Rd H a (.dK ks) ∧ KD (MD μ) H kvs ks := by
        rcases h1 with h1 | ⟨ob, ks, h1⟩
        · obtain ⟨ks, e1, kd⟩ := mh a _ h1
          exact ⟨ks, .inl e1, kd⟩
        · obtain ⟨e1, kd⟩ := mh a _ h1
          exact ⟨ks, .inr ⟨ob, e1⟩, kd⟩
      refine ⟨a, valV ks k, v1, .inl ⟨ks, k, e1, keyD_v h2 v2, rfl⟩, .inl ⟨ks, e1⟩, ?_⟩
      have q := kd.at k
      cases ez : atD kvs k with
      | none => exact q.2 ez
      | some z => exact q.1 z ez
    · obtain ⟨ks', e1, kd⟩ := mh a _ h1
      obtain ⟨b, xs, rfl, f, g⟩ := v2
      have ex := keysD_v h3 g
      subst ex
      refine ⟨a, valV ks' k, v1, .inr ⟨ks', k, b, .inl e1, rfl, f.2, rfl⟩, .inr ⟨ks', .inl e1⟩, ?_⟩
      have q := kd.at k
      cases ez : atD kvs k with
      | none => exact q.2 ez
      | some z => exact q.1 z ez
  | _ => exact h.elim
section
variable {X : Cx} {x y z : Expr} {a b c : WE} {pos : Pos}
/-- d[k] -/
def wDGet (d k : WE) : WE := fun ρ μ Q => d ρ μ fun e μ1 => k ρ μ1 fun f μ2 => ∃ v, GetD μ2 e f (some v) ∧ Q v μ2
theorem je_dget (hu : X.A.units + 1 < cLine) (ho : JE B X x a) (hi : JE B X y b) (hs : NoSl y := by exact fun _ _ => rfl) : JE B X (.Subscript x y pos) (wDGet a b) := PE.of (pe_dget hu ho hi hs) fun σ H Q ⟨ρ, μ, QD, rs, m, h, k⟩ =>
  up_mk rs m h fun v H1 d μ1 s1 m1 v1 h1 => up_mk (rs.step s1) m1 h1 fun u H2 e μ2 s2 m2 v2 ⟨z, g, q⟩ => by
    obtain ⟨p, r, ep, dg, _, v, er, hv⟩ := g.to m2 (VD.step s2 _ _ v1) v2
    subst er
    exact ⟨p, v, ep, dg, k _ _ ⟨z, μ2, s1.trans s2, m2, hv, q⟩⟩
/-- k in d, k not in d -/
def wDIn (n : Bool) (k d : WE) : WE := fun ρ μ Q => k ρ μ fun f μ1 => d ρ μ1 fun e μ2 => ∃ o, GetD μ2 e f o ∧ Q (.bl (if n then !o.isSome else o.isSome)) μ2
theorem GetD.some {o : Option D} {r : Option V} {M : Ms} {H : Hp} (h : OV M H o r) : r.isSome = o.isSome := by
  cases o with
  | none => rw [show r = none from h]; rfl
  | some z => obtain ⟨v, e, _⟩ := h; rw [e]; rfl
theorem je_din (hu : X.A.units + 1 < cLine) (hi : JE B X y b) (ho : JE B X x a) (hm : behindInMarks .In x = false := by rfl) : JE B X (.Compare y [.In] [x] pos) (wDIn false b a) := PE.of (pe_cmp (pc_din hu hi ho) hm) fun σ H Q ⟨ρ, μ, QD, rs, m, h, k⟩ =>
  up_mk rs m h fun v H1 d μ1 s1 m1 v1 h1 => up_mk (rs.step s1) m1 h1 fun u H2 e μ2 s2 m2 v2 ⟨o, g, q⟩ => by
    obtain ⟨p, r, ep, dg, _, hv⟩ := g.to m2 v2 (VD.step s2 _ _ v1)
    refine ⟨p, r, ep, dg, ?_⟩
    rw [GetD.some hv]
    exact k _ _ ⟨.bl _, μ2, s1.trans s2, m2, rfl, q⟩
theorem jt_din (hu : X.A.units + 1 < cLine) (hi : JE B X y b) (ho : JE B X x a) (hm : behindInMarks .In x = false := by rfl) : JT B X (.Compare y [.In] [x] pos) (wB (wDIn false b a)) := PT.of (pt_cmp (pc_din hu hi ho) hm) fun σ H Q h => by
  obtain ⟨ρ, μ, QD, rs, m, h, k⟩ := h
  refine up_mk rs m h fun v H1 d μ1 s1 m1 v1 h1 => up_mk (rs.step s1) m1 h1 fun u H2 e μ2 s2 m2 v2 ⟨o, g, q⟩ => ?_
  obtain ⟨p, r, ep, dg, _, hv⟩ := g.to m2 v2 (VD.step s2 _ _ v1)
  refine ⟨p, r, ep, dg, _, rfl, ?_⟩
  rw [GetD.some hv]
  exact k _ _ _ (s1.trans s2) m2 q
theorem jt_dnotin (hu : X.A.units + 1 < cLine) (hi : JE B X y b) (ho : JE B X x a) (hm : behindInMarks .NotIn x = false := by rfl) : JT B X (.Compare y [.NotIn] [x] pos) (wB (wDIn true b a)) := PT.of (pt_cmp (pc_dnotin hu hi ho) hm) fun σ H Q h => by
  obtain ⟨ρ, μ, QD, rs, m, h, k⟩ := h
  refine up_mk rs m h fun v H1 d μ1 s1 m1 v1 h1 => up_mk (rs.step s1) m1 h1 fun u H2 e μ2 s2 m2 v2 ⟨o, g, q⟩ => ?_
  obtain ⟨p, r, ep, dg, _, hv⟩ := g.to m2 v2 (VD.step s2 _ _ v1)
  refine ⟨p, r, ep, dg, _, rfl, ?_⟩
  rw [GetD.some hv]
  exact k _ _ _ (s1.trans s2) m2 q
/-- d.get(k), d.get(k, x) -/
def wDGet1 (d k : WE) : WE := fun ρ μ Q => d ρ μ fun e μ1 => (∃ p, e = .at p) ∧ k ρ μ1 fun f μ2 => ∃ o, GetD μ2 e f o ∧ Q (o.getD .non) μ2
def isDic (μ : Mu) (e : D) : Prop := ∃ p, e = .at p ∧ ((∃ kvs, μ p = some (.dK kvs)) ∨ (∃ kvs, μ p = some (.dT kvs)) ∨ ∃ ob ks kvs, μ p = some (.fz ob ks kvs))
theorem isDic.to {μ : Mu} {H : Hp} {e : D} {v : V} (mh : MH μ H) (hv : VD (MD μ) H e v) (h : isDic μ e) : ∃ p, v = .ref p ∧ IsD H p := by
  obtain ⟨p, rfl, h⟩ := h
  refine ⟨p, hv, ?_⟩
  rcases h with ⟨kvs, h⟩ | ⟨kvs, h⟩ | ⟨ob, ks, kvs, h⟩
  · obtain ⟨ks, e1, _⟩ := mh p _ h
    exact .inl ⟨ks, .inl e1⟩
  · obtain ⟨ks, e1, _⟩ := mh p _ h
    exact .inr ⟨ks, .inl e1⟩
  · obtain ⟨e1, _⟩ := mh p _ h
    exact .inl ⟨ks, .inr ⟨ob, e1⟩⟩
def wDGet2 (d k dv : WE) : WE := fun ρ μ Q => d ρ μ fun e μ1 => isDic μ1 e ∧ k ρ μ1 fun f μ2 => dv ρ μ2 fun z μ3 => ∃ o, GetD μ3 e f o ∧ Q (o.getD z) μ3
theorem je_dget2 {apos cpos : Pos} (hu : X.A.units + 1 < cLine) (ho : JE B X x a) (he : JE B X y b) (hf : JE B X z c) (m : M2 X x "get" apos y z cpos) : JE B X (.Call (.Attribute x "get" apos) [y, z] [] cpos) (wDGet2 a b c) := PE.of (pe_dget2 hu ho he hf m) fun σ H Q ⟨ρ, μ, QD, rs, m, h, k⟩ =>
  up_mk rs m h fun v H1 d μ1 s1 m1 v1 ⟨isd, h1⟩ => by
    obtain ⟨p, ep, hp⟩ := isd.to m1 v1
    refine ⟨p, ep, hp, up_mk (rs.step s1) m1 h1 fun u H2 e μ2 s2 m2 v2 h2 => up_mk ((rs.step s1).step s2) m2 h2 fun t H3 g μ3 s3 m3 v3 ⟨o, gd, q⟩ => ?_⟩
    obtain ⟨p', r, ep', dg, _, hv⟩ := gd.to m3 (VD.step (s2.trans s3) _ _ v1) (VD.step s3 _ _ v2)
    rw [ep] at ep'
    cases ep'
    refine ⟨r, dg, k _ _ ⟨o.getD g, μ3, (s1.trans s2).trans s3, m3, ?_, q⟩⟩
    cases o with
    | none => rw [show r = none from hv]; exact v3
    | some z => obtain ⟨w, e, hw⟩ := hv; rw [e]; exact hw
/-- d[k] = v -/
def PutD (μ : Mu) (d e v : D) (Q : Mu → Prop) : Prop := match d with
  | .at p => (∃ kvs k, μ p = some (.dK kvs) ∧ keyD e = some k ∧ kvs.length ≤ 1000000 ∧ Q (put μ p (.dK (putD kvs k v)))) ∨ ∃ kvs ks k, μ p = some (.dT kvs) ∧ e = .tup ks ∧ keysD ks = some k ∧ kvs.length ≤ 1000000 ∧ Q (put μ p (.dT (putD kvs k v)))
  | _ => False
def wDPut (d k v : WE) : WS := fun DD ρ μ => v ρ μ fun g μ1 => d ρ μ1 fun e μ2 => k ρ μ2 fun f μ3 => PutD μ3 e f g fun μ4 => DD.nx ρ μ4
theorem js_dput {spos : Pos} (hu : X.A.units + 1 < cLine) (ho : JE B X x a) (hi : JE B X y b) (hv : JE B X z c) (hs : swapsWith z (some (.Subscript x y pos)) spos.line X.env = pure false := by rfl) (h2 : ∀ v, assign (.Subscript x y pos) X.env v = (do let ov ← holding [v] (eval x X.env); let iv ← holding [v, ov] (eval y X.env); standAt pos; holding [v, ov, iv] (setItem ov iv v); release [v, ov, iv] []) := by intro _; rfl) :
    JS B X (.Assign [.Subscript x y pos] z spos) (wDPut a b c) := PS.of (ps_dput hu ho hi hv hs) fun E σ H ⟨ρ, μ, DD, rs, m, h, l⟩ =>
  up_mk rs m h fun v H1 g μ1 s1 m1 v1 h1 => up_mk (rs.step s1) m1 h1 fun u H2 d μ2 s2 m2 v2 h2 => up_mk ((rs.step s1).step s2) m2 h2 fun t H3 e μ3 s3 m3 v3 h3 => by
    have s123 := (s1.trans s2).trans s3
    have v2' := VD.step s3 _ _ v2
    have v1' := VD.step (s2.trans s3) _ _ v1
    unfold PutD at h3
    split at h3
    · rename_i p
      rcases h3 with ⟨kvs, k, h4, h5, h6, h7⟩ | ⟨kvs, ks, k, h4, rfl, h5, h6, h7⟩
      · obtain ⟨ks, e1, kd⟩ := m3 p _ h4
        have st : Step (MD μ3) H3 (MD (put μ3 p (.dK (putD kvs k g)))) (upd H3 p (.dK (putK ks k v))) := .write ⟨_, h4⟩
        refine ⟨p, _, v2', .inl ⟨ks, k, e1, keyD_v h5 v3, ?_, rfl⟩, l.nx σ _ ρ _ (s123.trans st) (rs.step (s123.trans st)) (m3.write ⟨_, h4⟩ ⟨_, upd_same, KD.step st (kd.put v1' k)⟩) h7⟩
        rw [← kd.length, sizeLine_eq]
        omega
      · obtain ⟨ks', e1, kd⟩ := m3 p _ h4
        obtain ⟨q, xs, rfl, f, gg⟩ := v3
        have ex := keysD_v h5 gg
        subst ex
        have st : Step (MD μ3) H3 (MD (put μ3 p (.dT (putD kvs k g)))) (upd H3 p (.dT (putK ks' k v))) := .write ⟨_, h4⟩
        refine ⟨p, _, v2', .inr ⟨ks', k, q, e1, rfl, f.2, ?_, rfl⟩, l.nx σ _ ρ _ (s123.trans st) (rs.step (s123.trans st)) (m3.write ⟨_, h4⟩ ⟨_, upd_same, KD.step st (kd.put v1' k)⟩) h7⟩
        rw [← kd.length, sizeLine_eq]
        omega
    · exact h3.elim
/-- del d[k] -/
def DelD (μ : Mu) (d e : D) (Q : Mu → Prop) : Prop := match d with
  | .at p => (∃ kvs k, μ p = some (.dK kvs) ∧ keyD e = some k ∧ (atD kvs k).isSome = true ∧ Q (put μ p (.dK (dropD kvs k)))) ∨ ∃ kvs ks k, μ p = some (.dT kvs) ∧ e = .tup ks ∧ keysD ks = some k ∧ (atD kvs k).isSome = true ∧ Q (put μ p (.dT (dropD kvs k)))
  | _ => False
def wDDel (d k : WE) : WS := fun DD ρ μ => d ρ μ fun e μ1 => k ρ μ1 fun f μ2 => DelD μ2 e f fun μ3 => DD.nx ρ μ3
/-- {} -/
def wDNewK : WE := fun _ μ Q => ∀ p, μ p = none → Q (.at p) (put μ p (.dK []))
def wDNewT : WE := fun _ μ Q => ∀ p, μ p = none → Q (.at p) (put μ p (.dT []))
theorem je_dnewK : JE B X (.Dict [] [] pos) wDNewK := PE.of pe_dnewK fun σ H Q ⟨ρ, μ, QD, rs, m, h, k⟩ p hp => k _ _ ⟨.at p, put μ p (.dK []), .newM hp, m.newM (x := .dK []) hp ⟨[], upd_same, .nil⟩, rfl, h p (m.free hp)⟩
/-- d.items() walked, under the lock -/
def wItems (w : WE) : WI := fun ρ μ Q => w ρ μ fun d μ1 => ∃ p o ks kvs, d = .at p ∧ μ1 p = some (.fz o ks kvs) ∧ Q (kvs.map fun q => .tup [Dk q.1, q.2]) (fun μ => μ p = some (.fz o ks kvs)) μ1
theorem ji_items {w : WE} {elts : List Expr} {kk : Nat} {tpos apos cpos : Pos} (he : JE B X x w) (hbase : attributeBase x "items" X.env (eval x X.env) = eval x X.env := by rfl) (hline : (apos.endLine == cpos.line) = true := by rfl) : JI B X (.Tuple elts kk tpos) (.Call (.Attribute x "items" apos) [] [] cpos) (wItems w) :=
  PI.of (pi_items he hbase hline) fun σ H R ⟨ρ, μ, QD, rs, m, h, k⟩ => up_mk rs m h fun v H1 d μ1 s1 m1 v1 ⟨p, o, ks, kvs, ed, hp, h1⟩ => by
    subst ed
    obtain ⟨e1, kd⟩ := m1 p _ hp
    refine ⟨p, o, ks, v1, e1, k _ H1 _ (fun μ => μ p = some (.fz o ks kvs)) μ1 s1 m1 ⟨fun i H2 hi ⟨μ2, st, mh, kp⟩ => ?_, fun H2 ⟨μ2, st, mh, kp⟩ => ?_, fun i H2 x H' hi _ ⟨T, ky, v, e2, ex, hT, e3⟩ μ2 st mh kp => ?_⟩ h1⟩
    · obtain ⟨e2, kd2⟩ := mh p _ kp
      exact ⟨e2, by rw [← kd.length]; simpa using hi⟩
    · obtain ⟨e2, kd2⟩ := mh p _ kp
      exact ⟨e2, by rw [← kd.length]; simp⟩
    · obtain ⟨_, kd2⟩ := mh p _ kp
      subst ex e3
      have hi' : i < kvs.length := by simpa using hi
      obtain ⟨v', e4, hv⟩ := kd2.get (i := i) (k := kvs[i].1) (d := kvs[i].2) (List.getElem?_eq_getElem hi')
      rw [e2] at e4
      cases e4
      have st2 : Step (MD μ2) H2 (MD μ2) (upd H2 T (.tup [kV kvs[i].1, v])) := .new hT
      exact ⟨.tup [Dk kvs[i].1, kvs[i].2], by rw [List.getElem?_map, List.getElem?_eq_getElem hi']; rfl, st2, mh.newF hT, ⟨T, _, rfl, ⟨fun ⟨u, q⟩ => (by rw [mh.free hT] at q; cases q), upd_same⟩, _, _, rfl, Dk_v _, _, _, rfl, VD.step st2 _ _ hv, rfl⟩⟩
end
end Dl
namespace Dl
open PySem PySem.Spec PyProof.Rows L2
variable {B : Bs}
/-! ### built-ins called by name -/
def wFN (r : FN) (a : WA) : WE := fun ρ μ Q => a ρ μ fun ds μ1 => r ds μ1 Q
section
variable {X : Cx} {x : Str} {p pos : Pos} {e : Expr} {es : List Expr} {a : WA} {id T : String} {r : FN}
theorem up_cb {σ : L2.St} {H : Hp} {Q : VK} (h : up B (wFN r a) σ H Q) : tCB (upFN r) (upA B a) σ H Q := by
  obtain ⟨ρ, μ, QD, rs, m, h, k⟩ := h
  exact ⟨ρ, μ, _, rs, m, h, fun vs H1 ds μ1 s1 m1 v1 h1 => ⟨ds, μ1, QD, v1, m1, h1, fun v H' q => k v H' (q.trans s1)⟩⟩
theorem je_cb (hc : CallR X (.builtin id) (upFN r)) (hm : X.mg x = none) (ha : JA B X (e :: es) a) (hv : bootBuiltins x = some (.builtin id) := by decide +kernel) (hg : Gl X x := by rfl) (hn : x ≠ "__name__" := by decide) (hdb : (x == ("__debug__" : Str)) = false := by decide)
    (he : starEach (e :: es) X.env = (false, eval e X.env) :: starEach es X.env := by rfl) (hpl : (backTo pos (starEach es X.env)).any (·.1) = false := by rfl) : JE B X (.Call (.Name x p) (e :: es) [] pos) (wFN r a) := PE.of (pe_callB hc hg hm hv ha hn hdb he hpl) fun _ _ _ h => up_cb h
theorem je_cty (hc : CallR X (.type T) (upFN r)) (hm : X.mg x = none) (ha : JA B X (e :: es) a) (hv : bootBuiltins x = some (.type T) := by decide +kernel) (hg : Gl X x := by rfl) (hn : x ≠ "__name__" := by decide) (hdb : (x == ("__debug__" : Str)) = false := by decide)
    (he : starEach (e :: es) X.env = (false, eval e X.env) :: starEach es X.env := by rfl) (hpl : (backTo pos (starEach es X.env)).any (·.1) = false := by rfl) : JE B X (.Call (.Name x p) (e :: es) [] pos) (wFN r a) := PE.of (pe_callTy hc hg hm hv ha hn hdb he hpl) fun _ _ _ h => up_cb h
end
section
variable {X : Cx}
/-! ### len, isinstance, abs, max, min, sum, all -/
def fLen : FN := fun ds μ Q => match ds with
  | [.str z] => z.length ≤ sizeLine ∧ Q (.int z.length) μ
  | [d] => ∃ xs, Sq μ d xs ∧ Q (.int xs.length) μ
  | _ => False
theorem cd_len : CallR X (.builtin "len") (upFN fLen) := CallR.of (call_len_str.or call_len_seq) fun xs H Q ⟨ds, μ, QD, v, m, h, k⟩ => by
  unfold fLen at h
  split at h
  · rename_i z
    obtain ⟨v1, vs, rfl, r1, e⟩ := v
    rw [show vs = [] from e, show v1 = V.str z from r1]
    exact .inl ⟨z, rfl, h.1, k _ _ (lft_mk (d := .int _) m rfl h.2)⟩
  · rename_i d _
    obtain ⟨v1, vs, rfl, r1, e⟩ := v
    rw [show vs = [] from e]
    obtain ⟨xs, h1, h2⟩ := h
    obtain ⟨a, ys, rfl, h3, h4⟩ := h1.to X.K m r1
    refine .inr ⟨a, ys, rfl, h3, ?_⟩
    rw [← h4.length]
    exact k _ _ (lft_mk (d := .int _) m rfl h2)
  · exact h.elim
/-- what built-in type the data is of -/
def kindD (μ : Mu) : D → String → Prop
  | .non, n => n = "NoneType"
  | .bl _, n => n = "bool"
  | .int _, n => n = "int"
  | .str _, n => n = "str"
  | .lst _, n => n = "list"
  | .tup _, n => n = "tuple"
  | .at a, n => ((∃ k, μ a = some (.lst k)) ∧ n = "list") ∨ ((∃ k, μ a = some (.dK k)) ∧ n = "dict") ∨ ((∃ k, μ a = some (.dT k)) ∧ n = "dict")
  | .ty _, _ => False
theorem kindD.to {K : Frg} {μ : Mu} {H : Hp} {d : D} {n : String} {v : V} (m : MH μ H) (r : VD (MD μ) H d v) (h : kindD μ d n) : TyOf K H v (.type n) := by
  cases d with
  | non => rw [show v = V.non from r, show n = "NoneType" from h]; exact .non
  | bl b => rw [show v = V.bl b from r, show n = "bool" from h]; exact .bl b
  | int b => rw [show v = V.int b from r, show n = "int" from h]; exact .int b
  | str b => rw [show v = V.str b from r, show n = "str" from h]; exact .str b
  | lst b => obtain ⟨a, xs, rfl, f, _⟩ := r; rw [show n = "list" from h]; exact .lst f.2
  | tup b => obtain ⟨a, xs, rfl, f, _⟩ := r; rw [show n = "tuple" from h]; exact .tup f.2
  | «at» a =>
    rw [show v = V.ref a from r]
    rcases h with ⟨⟨k, e⟩, rfl⟩ | ⟨⟨k, e⟩, rfl⟩ | ⟨⟨k, e⟩, rfl⟩
    · obtain ⟨xs, e, _⟩ := m a _ e; exact .lst e
    · obtain ⟨xs, e, _⟩ := m a _ e; exact .dK e
    · obtain ⟨xs, e, _⟩ := m a _ e; exact .dT e
  | ty _ => exact h.elim
def fIsi : FN := fun ds μ Q => match ds with
  | [d, .ty c] => ∃ n b, kindD μ d n ∧ kitB n c = some b ∧ Q (.bl b) μ
  | _ => False
theorem cd_isi : CallR X (.builtin "isinstance") (upFN fIsi) := CallR.of call_isi fun xs H Q ⟨ds, μ, QD, v, m, h, k⟩ => by
  unfold fIsi at h
  split at h
  · rename_i d c
    obtain ⟨v1, vs, rfl, r1, v2, ws, rfl, r2, e⟩ := v
    rw [show ws = [] from e, show v2 = V.ty c from r2]
    obtain ⟨n, b, h1, h2, h3⟩ := h
    exact ⟨v1, .ty c, .type n, .type c, b, rfl, .ty c, .base (h1.to m r1), kit_ty h2, k _ _ (lft_mk (d := .bl _) m rfl h3)⟩
  · exact h.elim
def fAbs : FN := fun ds μ Q => match ds with
  | [.int i] => Q (.int (if i < 0 then -i else i)) μ
  | _ => False
theorem cd_abs : CallR X (.builtin "abs") (upFN fAbs) := CallR.of call_abs fun xs H Q ⟨ds, μ, QD, v, m, h, k⟩ => by
  unfold fAbs at h
  split at h
  · rename_i i
    obtain ⟨v1, vs, rfl, r1, e⟩ := v
    rw [show vs = [] from e, show v1 = V.int i from r1]
    exact ⟨i, rfl, k _ _ (lft_mk (d := .int _) m rfl h)⟩
  · exact h.elim
/-- ints out of two ints -/
def fII (g : Int → Int → Int) : FN := fun ds μ Q => match ds with
  | [.int i, .int j] => Q (.int (g i j)) μ
  | _ => False
theorem cd_max2 (hc : X.calm = true) : CallR X (.builtin "max") (upFN (fII fun i j => if j > i then j else i)) := CallR.of (call_max2 hc) fun xs H Q ⟨ds, μ, QD, v, m, h, k⟩ => by
  unfold fII at h
  split at h
  · rename_i i j
    obtain ⟨v1, vs, rfl, r1, v2, ws, rfl, r2, e⟩ := v
    rw [show ws = [] from e, show v2 = V.int j from r2, show v1 = V.int i from r1]
    exact ⟨i, j, rfl, k _ _ (lft_mk (d := .int _) m rfl h)⟩
  · exact h.elim
theorem cd_min2 (hc : X.calm = true) : CallR X (.builtin "min") (upFN (fII fun i j => if j < i then j else i)) := CallR.of (call_min2 hc) fun xs H Q ⟨ds, μ, QD, v, m, h, k⟩ => by
  unfold fII at h
  split at h
  · rename_i i j
    obtain ⟨v1, vs, rfl, r1, v2, ws, rfl, r2, e⟩ := v
    rw [show ws = [] from e, show v2 = V.int j from r2, show v1 = V.int i from r1]
    exact ⟨i, j, rfl, k _ _ (lft_mk (d := .int _) m rfl h)⟩
  · exact h.elim
theorem VDs.bls {M : Ms} {H : Hp} : ∀ {ns : List Bool} {vs : List V}, VDs M H (ns.map .bl) vs → vs = ns.map .bl
  | [], _, h => h
  | n :: ns, _, ⟨v, vs, e, r, t⟩ => by rw [e, show v = V.bl n from r, VDs.bls t]; rfl
theorem VDs.strs {M : Ms} {H : Hp} : ∀ {ns : List Str} {vs : List V}, VDs M H (ns.map .str) vs → vs = ns.map .str
  | [], _, h => h
  | n :: ns, _, ⟨v, vs, e, r, t⟩ => by rw [e, show v = V.str n from r, VDs.strs t]; rfl
def fAll : FN := fun ds μ Q => ∃ (d : D) (bs : List Bool), ds = [d] ∧ Lr μ d (bs.map .bl) ∧ Q (.bl (bs.all id)) μ
theorem cd_all (hc : X.calm = true) : CallR X (.builtin "all") (upFN fAll) := CallR.of (cr_all hc) fun xs H Q ⟨ds, μ, QD, v, m, ⟨d, ns, e, h1, h2⟩, k⟩ => by
  subst e
  obtain ⟨v1, vs, rfl, r1, e⟩ := v
  rw [show vs = [] from e]
  obtain ⟨a, ys, rfl, h3, h4⟩ := h1.to m r1
  rw [h4.bls] at h3
  exact ⟨a, ns, rfl, .inl h3, k _ _ (lft_mk (d := .bl _) m rfl h2)⟩
def fAny : FN := fun ds μ Q => ∃ (d : D) (bs : List Bool), ds = [d] ∧ Lr μ d (bs.map .bl) ∧ Q (.bl (bs.any id)) μ
theorem cd_any (hc : X.calm = true) : CallR X (.builtin "any") (upFN fAny) := CallR.of (cr_any hc) fun xs H Q ⟨ds, μ, QD, v, m, ⟨d, ns, e, h1, h2⟩, k⟩ => by
  subst e
  obtain ⟨v1, vs, rfl, r1, e⟩ := v
  rw [show vs = [] from e]
  obtain ⟨a, ys, rfl, h3, h4⟩ := h1.to m r1
  rw [h4.bls] at h3
  exact ⟨a, ns, rfl, .inl h3, k _ _ (lft_mk (d := .bl _) m rfl h2)⟩
/-- divmod by a positive number -/
def fDivmod : FN := fun ds μ Q => match ds with
  | [.int i, .int j] => CDivW i j ∧ Q (.tup [.int (i / j), .int (i % j)]) μ
  | _ => False
theorem cd_divmod : CallR X (.builtin "divmod") (upFN fDivmod) := CallR.of call_divmodW fun xs H Q ⟨ds, μ, QD, v, m, h, k⟩ => by
  unfold fDivmod at h
  split at h
  · rename_i i j
    obtain ⟨v1, vs, rfl, r1, v2, ws, rfl, r2, e⟩ := v
    rw [show ws = [] from e, show v2 = V.int j from r2, show v1 = V.int i from r1]
    exact ⟨i, j, rfl, ⟨h.1.1, PyProof.noPylong_of_log2 h.1.2⟩, fun p hp => k _ _ (lft_tup m (ds := [.int (i / j), .int (i % j)]) ⟨_, _, rfl, rfl, _, _, rfl, rfl, rfl⟩ hp h.2)⟩
  · exact h.elim
/-- list(x), x a list or tuple -/
def fListOf (mm : Bool) : FN := fun ds μ Q => ∃ d xs, ds = [d] ∧ Sq μ d xs ∧ New mm xs μ Q
theorem cd_list (mm : Bool) : CallR X (.type "list") (upFN (fListOf mm)) := CallR.of call_list_of fun xs H Q ⟨ds, μ, QD, v, m, ⟨d, ns, e, h1, h2⟩, k⟩ => by
  subst e
  obtain ⟨v1, vs, rfl, r1, e⟩ := v
  rw [show vs = [] from e]
  obtain ⟨a, ys, rfl, h3, h4⟩ := h1.to X.K m r1
  exact ⟨a, ys, rfl, h3, fun l hl => k _ _ (lft_new m h4 hl h2)⟩
/-- str(n) -/
def fStrI : FN := fun ds μ Q => match ds with
  | [.int i] => i.natAbs.log2 < 1920 ∧ Q (.str (toString i)) μ
  | _ => False
theorem cd_str : CallR X (.type "str") (upFN fStrI) := CallR.of call_str_int fun xs H Q ⟨ds, μ, QD, v, m, h, k⟩ => by
  unfold fStrI at h
  split at h
  · rename_i i
    obtain ⟨v1, vs, rfl, r1, e⟩ := v
    rw [show vs = [] from e, show v1 = V.int i from r1]
    exact ⟨i, rfl, h.1, k _ _ (lft_mk (d := .str _) m rfl h.2)⟩
  · exact h.elim
/-! ### repr -/
def fRepr : FN := fun ds μ Q => ∃ d p, ds = [d] ∧ Rs μ d p ∧ p.showable = true ∧ p.depth ≤ 60 ∧ p.shown.length ≤ sizeLine ∧ Q (.str p.shown) μ
theorem hasDict_plain : ∀ (p : PyData), p.plain = true → p.hasDict = false := fun p h => by
  have key : ∀ n (p : PyData), sizeOf p ≤ n → p.plain = true → p.hasDict = false := by
    intro n
    induction n with
    | zero => intro p hp; cases p <;> simp at hp
    | succ n ih =>
      intro p hp h
      have all : ∀ xs : List PyData, sizeOf xs ≤ n → PyData.plainAll xs = true → PyData.hasDictAll xs = false := by
        intro xs
        induction xs with
        | nil => intro _ _; rfl
        | cons x xs ihx =>
          intro hs hq
          simp only [PyData.plainAll, Bool.and_eq_true] at hq
          simp only [List.cons.sizeOf_spec] at hs
          simp only [PyData.hasDictAll, ih x (by omega) hq.1, ihx (by omega) hq.2, Bool.or_self]
      cases p with
      | list xs =>
        simp only [PyData.plain] at h
        simp only [PyData.list.sizeOf_spec] at hp
        simp only [PyData.hasDict]
        exact all xs (by omega) h
      | tuple xs =>
        simp only [PyData.plain] at h
        simp only [PyData.tuple.sizeOf_spec] at hp
        simp only [PyData.hasDict]
        exact all xs (by omega) h
      | dict _ => cases h
      | _ => rfl
  exact key _ p (Nat.le_refl _) h
theorem cd_repr (hg : X.A.guards = some []) (hu : X.A.units + 65 < cLine) : CallR X (.builtin "repr") (upFN fRepr) := fun pins s σ H xs us Q I rx ⟨ds, μ, QD, v, m, ⟨d, p, e, r, sh, dp, sz, hq⟩, k⟩ => by
  subst e
  obtain ⟨v1, vs, rfl, r1, e⟩ := v
  rw [show vs = [] from e] at rx
  obtain ⟨u, rfl, ru⟩ := vals1 rx
  have fin : ∀ (h' : Heap) (tk : Nat) (t : Tok), (∀ b o, s.heap.get? b = some o → h'.get? b = some o) → EP X pins σ Q (.str p.shown t) { s with heap := h', toks := tk } := fun h' tk t hk => ⟨.str p.shown, H, I.kept (t' := tk) hk, ⟨t, rfl⟩, k _ _ (lft_mk (d := .str _) m rfl hq)⟩
  cases p with
  | none =>
    cases r
    rw [show v1 = V.non from r1] at ru
    rw [show u = Value.none from ru]
    exact PySem.P.repr_of_none (fin s.heap _ _ fun _ _ q => q)
  | bool b =>
    cases r
    rw [show v1 = V.bl b from r1] at ru
    rw [show u = Value.bool b from ru]
    have q := fin s.heap (s.toks + 1) s.toks fun _ _ q => q
    exact PySem.P.repr_of_bool (by simpa only [PyData.shown] using q)
  | int i =>
    cases r
    rw [show v1 = V.int i from r1] at ru
    obtain ⟨t, rfl⟩ := ru
    exact PySem.P.repr_of_int (by simpa [PyData.showable] using sh) (fin s.heap _ _ fun _ _ q => q)
  | str x =>
    cases r
    rw [show v1 = V.str x from r1] at ru
    obtain ⟨t, rfl⟩ := ru
    have q := fin s.heap (s.toks + 1) s.toks fun _ _ q => q
    exact PySem.P.repr_of_str (by simpa only [PyData.shown] using q) (hsz := by simpa only [PyData.shown] using sz)
  | list ps =>
    obtain ⟨as, hr⟩ := Dp.reads I (.list ps) v1 u (Rs.dp m _ d v1 r r1) ru
    have hp := hasDict_plain _ (r.plain _ d)
    cases hr with
    | list a1 a2 a3 a4 => exact repr_of_reads' (.list a1 a2 a3 a4) sh (fun z => by rw [hp] at z; cases z) hg (by omega) (fun _ _ q => q) (fun h' t tk hk => fin h' tk t hk) sz
  | tuple ps =>
    obtain ⟨as, hr⟩ := Dp.reads I (.tuple ps) v1 u (Rs.dp m _ d v1 r r1) ru
    have hp := hasDict_plain _ (r.plain _ d)
    cases hr with
    | tuple a1 a2 a3 a4 => exact repr_of_reads' (.tuple a1 a2 a3 a4) sh (fun z => by rw [hp] at z; cases z) hg (by omega) (fun _ _ q => q) (fun h' t tk hk => fin h' tk t hk) sz
  | dict _ => cases r
end
end Dl
namespace Dl
open PySem PySem.Spec PyProof.Rows L2
variable {B : Bs}
/-! ### methods of lists -/
/-- o.m(..), o a list -/
def wML (r : D → FN) (o : WE) (a : WA) : WE := fun ρ μ Q => o ρ μ fun d μ1 => (∃ zs, Ls μ1 d zs) ∧ a ρ μ1 fun ds μ2 => r d ds μ2 Q
section
variable {X : Cx} {o e : Expr} {es : List Expr} {wo : WE} {a : WA} {name : Str} {apos cpos : Pos} {id : String} {r : D → FN}
theorem Ls.ty {K : Frg} {μ : Mu} {H : Hp} {d : D} {v : V} (m : MH μ H) (hv : VD (MD μ) H d v) (h : ∃ zs, Ls μ d zs) : tyV K "list" v H := by
  obtain ⟨zs, h⟩ := h
  obtain ⟨p, xs, rfl, e, _⟩ := h.to m hv
  exact .inl ⟨rfl, xs, SqL.of e⟩
theorem je_ml (slot : Slot "list" name id) (hty : typeOf (.builtin id) = pure (.type "method_descriptor")) (hm : MtR X id (upFM r)) (ho : JE B X o wo) (ha : JA B X (e :: es) a)
    (hbase : attributeBase o name X.env (eval o X.env) = eval o X.env := by rfl)
    (hfew : ((backTo cpos (starEach (e :: es) X.env)).all (fun x => !x.1) && (backToKw cpos (keywordEach [] X.env)).all (fun x => x.1.isSome)
      && decide ((e :: es).length + ([] : List Keyword).length + (if ([] : List Keyword).isEmpty then 0 else 1) < 30)) = true := by rfl)
    (hline : (apos.endLine == cpos.line) = true := by rfl) (hs : starEach (e :: es) X.env = (false, eval e X.env) :: starEach es X.env := by rfl) (hplain : (backTo cpos (starEach es X.env)).any (·.1) = false := by rfl) :
    JE B X (.Call (.Attribute o name apos) (e :: es) [] cpos) (wML r wo a) := PE.of (pe_bm PySem.F.plainAttrs_list slot hty hm ho ha hbase hfew hline hs hplain) fun σ H Q ⟨ρ, μ, QD, rs, m, h, k⟩ =>
  up_mk rs m h fun v H1 d μ1 s1 m1 v1 h1 => ⟨Ls.ty m1 v1 h1.1, ρ, μ1, _, rs.step s1, m1, h1.2, fun vs H2 ds μ2 s2 m2 v2 h2 => ⟨d, ds, μ2, QD, VD.step s2 _ _ v1, v2, m2, h2, fun z H3 q => k z H3 (q.trans (s1.trans s2))⟩⟩
/-- the list at l becomes ys -/
theorem lft_set {μ : Mu} {H : Hp} {Q : DQ} {l : Addr} {ds : List D} {xs : List V} {d : D} {v : V} {zs : List D} (m : MH μ H) (hl : μ l = some (.lst zs)) (hv : VDs (MD μ) H ds xs) (hd : VD (MD μ) H d v) (q : Q d (put μ l (.lst ds))) : lft μ H Q v (upd H l (.lst xs)) := by
  have st : Step (MD μ) H (MD (put μ l (.lst ds))) (upd H l (.lst xs)) := .write ⟨_, hl⟩
  exact ⟨d, _, st, m.write ⟨_, hl⟩ ⟨_, upd_same, VDs.step st _ _ hv⟩, VD.step st _ _ hd, q⟩
def fAppend : D → FN := fun d ds μ Q => ∃ l xs y, d = .at l ∧ ds = [y] ∧ μ l = some (.lst xs) ∧ xs.length ≤ 1000000 ∧ Q .non (put μ l (.lst (xs ++ [y])))
theorem md_append : MtR X "list.append" (upFM fAppend) := MtR.of mt_append fun x vs H Q ⟨d, ds, μ, QD, v1, v2, m, ⟨l, xs, y, e1, e2, h1, h2, h3⟩, k⟩ => by
  subst e1 e2
  obtain ⟨u, us, rfl, r1, e⟩ := v2
  rw [show us = [] from e]
  obtain ⟨zs, e3, g⟩ := m l _ h1
  exact ⟨l, zs, u, v1, rfl, e3, by rw [← g.length, sizeLine_eq]; omega, k _ _ (lft_set m h1 (g.append (es := [y]) ⟨u, [], rfl, r1, rfl⟩) (show VD _ _ .non .non from rfl) h3)⟩
def fExtend : D → FN := fun d ds μ Q => ∃ l xs e ys, d = .at l ∧ ds = [e] ∧ μ l = some (.lst xs) ∧ Ls μ e ys ∧ xs.length + ys.length ≤ 1000000 ∧ Q .non (put μ l (.lst (xs ++ ys)))
theorem md_extend : MtR X "list.extend" (upFM fExtend) := MtR.of mt_extend fun x vs H Q ⟨d, ds, μ, QD, v1, v2, m, ⟨l, xs, e, ys, e1, e2, h1, h2, h3, h4⟩, k⟩ => by
  subst e1 e2
  obtain ⟨u, us, rfl, r1, e0⟩ := v2
  rw [show us = [] from e0]
  obtain ⟨zs, e3, g⟩ := m l _ h1
  obtain ⟨b, ws, rfl, e4, g4⟩ := h2.to m r1
  exact ⟨l, b, zs, ws, v1, rfl, e3, e4, by rw [← g.length, ← g4.length, sizeLine_eq]; omega, k _ _ (lft_set m h1 (g.append g4) (show VD _ _ .non .non from rfl) h4)⟩
def fReverse : D → FN := fun d ds μ Q => ∃ l xs, d = .at l ∧ ds = [] ∧ μ l = some (.lst xs) ∧ Q .non (put μ l (.lst xs.reverse))
/-- xs.pop(i) -/
def fPopAt : D → FN := fun d ds μ Q => ∃ l xs i k y, d = .at l ∧ ds = [.int i] ∧ μ l = some (.lst xs) ∧ 0 ≤ i ∧ i = ((k : Nat) : Int) ∧ i < 2 ^ 62 ∧ xs[k]? = some y ∧ Q y (put μ l (.lst (xs.eraseIdx k)))
theorem VDs.eraseIdx {M : Ms} {H : Hp} : ∀ {ds : List D} {vs : List V} (i : Nat), VDs M H ds vs → VDs M H (ds.eraseIdx i) (vs.eraseIdx i)
  | [], _, _, h => by rw [show _ = [] from h]; rfl
  | d :: ds, _, 0, ⟨v, vs, e, r, t⟩ => by subst e; exact t
  | d :: ds, _, i + 1, ⟨v, vs, e, r, t⟩ => by subst e; exact ⟨v, _, rfl, r, VDs.eraseIdx i t⟩
theorem md_popAt : MtR X "list.pop" (upFM fPopAt) := MtR.of mt_popAt fun x vs H Q ⟨d, ds, μ, QD, v1, v2, m, ⟨l, xs, i, k, y, e1, e2, h1, h2, h3, h4, h5, h6⟩, kk⟩ => by
  subst e1 e2
  obtain ⟨u, us, rfl, r1, e0⟩ := v2
  rw [show us = [] from e0, show u = V.int i from r1]
  obtain ⟨zs, e3, g⟩ := m l _ h1
  obtain ⟨w, e5, hw⟩ := g.get h5
  have hk : k < zs.length := (List.getElem?_eq_some_iff.mp e5).1
  refine ⟨l, zs, i, k, w, v1, rfl, e3, by omega, by omega, ?_, e5, kk _ _ (lft_set m h1 (g.eraseIdx k) hw h6)⟩
  have q : atI zs i = some w := by rw [h3]; exact atI_nat e5
  obtain ⟨j, hj, hj2, _⟩ := atI_get q
  rw [hj]
  unfold seqIndex? at hj
  have : j = k := by
    split at hj <;> simp at hj <;> omega
  rw [this]
/-! ### slices of lists -/
abbrev WO := Rho → Mu → (Option Int → Mu → Prop) → Prop
def upO (B : Bs) (w : WO) : TO := fun σ H Q => ∃ ρ μ QD, RS B (MD μ) H ρ σ ∧ MH μ H ∧ w ρ μ QD ∧ ∀ o H' μ', Step (MD μ) H (MD μ') H' → MH μ' H' → QD o μ' → Q o H'
abbrev JO (B : Bs) (X : Cx) (e : Option Expr) (w : WO) : Prop := PO X e (upO B w)
theorem PO.of {e : Option Expr} {t t' : TO} (h : PO X e t) (g : ∀ σ H Q, t' σ H Q → t σ H Q) : PO X e t' := ⟨fun pins s σ H Q I q => h.run pins s σ H Q I (g σ H Q q)⟩
def wNoPart : WO := fun _ μ Q => Q none μ
def wPart (a : WE) : WO := fun ρ μ Q => a ρ μ fun d μ1 => match d with
  | .int i => Q (some i) μ1
  | _ => False
theorem jo_none : JO B X none wNoPart := PO.of po_none fun σ H Q ⟨ρ, μ, QD, rs, m, h, k⟩ => k none H μ .refl m h
theorem jo_some {w : WE} (h : JE B X e w) : JO B X (some e) (wPart w) := PO.of (po_some h) fun σ H Q ⟨ρ, μ, QD, rs, m, h, k⟩ => up_mk rs m h fun v H1 d μ1 s1 m1 v1 h1 => by
  split at h1
  · rename_i i
    exact ⟨i, v1, k _ _ _ s1 m1 h1⟩
  · exact h1.elim
def cutD (xs : List D) (lo hi : Option Int) : List D := (xs.drop (HT.sIx xs.length 0 lo)).take (HT.sIx xs.length xs.length hi - HT.sIx xs.length 0 lo)
theorem VDs.cut {M : Ms} {H : Hp} {ds : List D} {vs : List V} (h : VDs M H ds vs) (lo hi : Option Int) : VDs M H (cutD ds lo hi) (cutV vs lo hi) := by
  unfold cutD cutV
  rw [← h.length]
  exact (h.drop _).take _
/-- xs[lo:hi], a new list -/
def wSl (mm : Bool) (o : WE) (lo hi : WO) : WE := fun ρ μ Q => o ρ μ fun d μ1 => lo ρ μ1 fun l μ2 => hi ρ μ2 fun h μ3 => ∃ xs, Lr μ3 d xs ∧ New mm (cutD xs l h) μ3 Q
theorem je_slice (mm : Bool) {lo hi : Option Expr} {p2 pos : Pos} {wl wh : WO} (he : JE B X o wo) (hl : JO B X lo wl) (hh : JO B X hi wh) : JE B X (.Subscript o (.Slice lo hi none p2) pos) (wSl mm wo wl wh) := PE.of (pe_slice sl_list he hl hh) fun σ H Q ⟨ρ, μ, QD, rs, m, h, k⟩ =>
  up_mk rs m h fun v H1 d μ1 s1 m1 v1 h1 => ⟨ρ, μ1, _, rs.step s1, m1, h1, fun l H2 μ2 s2 m2 h2 => ⟨ρ, μ2, _, (rs.step s1).step s2, m2, h2, fun u H3 μ3 s3 m3 ⟨xs, h3, h4⟩ => by
    obtain ⟨a, ys, rfl, e, g⟩ := h3.to m3 (VD.step (s2.trans s3) _ _ v1)
    exact ⟨a, ys, rfl, .inl e, fun p hp => k _ _ ((lft_new m3 (g.cut l u) hp h4).trans ((s1.trans s2).trans s3))⟩⟩⟩
/-- list(range(n)) -/
def wLstRg (mm : Bool) (a : WE) : WE := fun ρ μ Q => a ρ μ fun d μ1 => match d with
  | .int n => 0 ≤ n ∧ n ≤ 1000000 ∧ New mm ((List.range n.toNat).map fun i : Nat => .int i) μ1 Q
  | _ => False
theorem VDs.rg {M : Ms} {H : Hp} : ∀ n : Nat, VDs M H ((List.range n).map fun i : Nat => (.int i : D)) ((List.range n).map fun i : Nat => V.int (0 + (i : Int)))
  | 0 => rfl
  | n + 1 => by
    rw [List.range_succ, List.map_append, List.map_append]
    exact (VDs.rg n).append ⟨_, _, rfl, show V.int (0 + (n : Int)) = V.int (n : Int) by rw [Int.zero_add], rfl⟩
theorem je_listRg (mm : Bool) {p pos p2 pos2 : Pos} {w : WE} (hm : X.mg "list" = none) (hm2 : X.mg "range" = none) (ha : JE B X e w) (hc : X.calm = true := by rfl) (hg : Gl X "list" := by rfl) (hg2 : Gl X "range" := by rfl)
    (na2 : starEach [e] X.env = (false, eval e X.env) :: starEach [] X.env := by rfl) (na : starEach [.Call (.Name "range" p2) [e] [] pos2] X.env = (false, eval (.Call (.Name "range" p2) [e] [] pos2) X.env) :: starEach [] X.env := by rfl) :
    JE B X (.Call (.Name "list" p) [.Call (.Name "range" p2) [e] [] pos2] [] pos) (wLstRg mm w) := PE.of (pe_listRg hc hg hm (prg_1 hg2 hm2 ha na2) na) fun σ H Q ⟨ρ, μ, QD, rs, m, h, k⟩ =>
  up_mk rs m h fun v H1 d μ1 s1 m1 v1 h1 => by
    split at h1
    · rename_i n
      refine ⟨n, v1, .of_le (by omega) (by omega) (by omega) (by omega), fun q hq => k _ _ ((lft_new m1 ?_ hq h1.2.2).trans s1)⟩
      show VDs _ _ _ ((List.range (n - 0).toNat).map _)
      rw [Int.sub_zero]
      exact VDs.rg n.toNat
    · exact h1.elim
/-! ### zip, enumerate walked -/
def wZip (a : WA) : WI := fun ρ μ Q => a ρ μ fun vs μ1 => ∃ d e xs ys, vs = [d, e] ∧ Lr μ1 d xs ∧ Lr μ1 e ys ∧ xs.length = ys.length ∧ Q (List.zipWith (fun x y => .tup [x, y]) xs ys) (fun μ => Lr μ d xs ∧ Lr μ e ys) μ1
theorem ji_zip {e2 : Expr} {p pos tpos : Pos} {elts : List Expr} {kk : Nat} (hm : X.mg "zip" = none) (ha : JA B X [e, e2] a) (hg : Gl X "zip" := by rfl)
    (hs : starEach [e, e2] X.env = (false, eval e X.env) :: starEach [e2] X.env := by rfl) (hpl : (backTo pos (starEach [e2] X.env)).any (·.1) = false := by rfl) : JI B X (.Tuple elts kk tpos) (.Call (.Name "zip" p) [e, e2] [] pos) (wZip a) :=
  PI.of (pi_zip hg hm ha hs hpl) fun σ H R ⟨ρ, μ, QD, rs, m, h, k⟩ => ⟨ρ, μ, _, rs, m, h, fun vs H1 ds μ1 s1 m1 v1 ⟨d, e, xs, ys, ed, h1, h2, hl, h3⟩ => by
    subst ed
    obtain ⟨v, ws, rfl, r1, v2, ws2, rfl, r2, e0⟩ := v1
    rw [show ws2 = [] from e0]
    obtain ⟨a1, vx, rfl, e1, g1⟩ := h1.to m1 r1
    obtain ⟨a2, vy, rfl, e2, g2⟩ := h2.to m1 r2
    have hat : ∀ μ H2, Step (MD μ1) H1 (MD μ) H2 → MH μ H2 → (Lr μ d xs ∧ Lr μ e ys) → ∃ zx zy, SqL X.K H2 a1 zx ∧ SqL X.K H2 a2 zy ∧ VDs (MD μ) H2 xs zx ∧ VDs (MD μ) H2 ys zy := fun μ H2 st mh kp => by
      obtain ⟨b1, zx, eb, rb, gb⟩ := kp.1.to mh (VD.step st _ _ r1)
      obtain ⟨b2, zy, eb2, rb2, gb2⟩ := kp.2.to mh (VD.step st _ _ r2)
      cases eb
      cases eb2
      exact ⟨zx, zy, .inl rb, .inl rb2, gb, gb2⟩
    refine ⟨a1, a2, vx, vy, rfl, .inl e1, .inl e2, k _ H1 _ (fun μ => Lr μ d xs ∧ Lr μ e ys) μ1 s1 m1 ⟨fun i H2 hi ⟨μ, st, mh, kp⟩ => ?_, fun H2 ⟨μ, st, mh, kp⟩ => ?_, fun i H2 x H' hi _ ⟨T, x1, y1, ex, hT, e3, q1, q2⟩ μ st mh kp => ?_⟩ h3⟩
    · obtain ⟨zx, zy, l1, l2, w1, w2⟩ := hat μ H2 st mh kp
      have hi1 : i < xs.length := by simp at hi; omega
      have hi2 : i < ys.length := by omega
      obtain ⟨x1, q1, _⟩ := w1.get (List.getElem?_eq_getElem hi1)
      obtain ⟨y1, q2, _⟩ := w2.get (List.getElem?_eq_getElem hi2)
      exact ⟨zx, zy, x1, y1, l1, l2, q1, q2⟩
    · obtain ⟨zx, zy, l1, l2, w1, w2⟩ := hat μ H2 st mh kp
      exact ⟨zx, zy, l1, l2, .inl (by rw [← w1.length]; simp; omega)⟩
    · obtain ⟨zx, zy, l1, l2, w1, w2⟩ := hat μ H2 st mh kp
      have hi1 : i < xs.length := by simp at hi; omega
      have hi2 : i < ys.length := by omega
      have z1 := q1 zx l1
      have z2 := q2 zy l2
      obtain ⟨x2, p1, p2⟩ := w1.get (List.getElem?_eq_getElem hi1)
      obtain ⟨y2, p3, p4⟩ := w2.get (List.getElem?_eq_getElem hi2)
      rw [z1] at p1
      rw [z2] at p3
      cases p1
      cases p3
      subst ex e3
      have st2 : Step (MD μ) H2 (MD μ) (upd H2 T (.tup [x1, y1])) := .new hT
      exact ⟨.tup [xs[i], ys[i]], by rw [List.getElem?_zipWith, List.getElem?_eq_getElem hi1, List.getElem?_eq_getElem hi2], st2, mh.newF hT, ⟨T, _, rfl, ⟨fun ⟨u, q⟩ => (by rw [mh.free hT] at q; cases q), upd_same⟩, _, _, rfl, VD.step st2 _ _ p2, _, _, rfl, VD.step st2 _ _ p4, rfl⟩⟩⟩
end
/-! ### sorted -/
mutual
/-- the data as it reads, where nothing may change in it -/
def pyD : D → PyData
  | .non => .none
  | .bl b => .bool b
  | .int i => .int i
  | .str x => .str x
  | .lst xs => .list (pyDs xs)
  | .tup xs => .tuple (pyDs xs)
  | .ty _ => .none
  | .at _ => .none
def pyDs : List D → List PyData
  | [] => []
  | x :: xs => pyD x :: pyDs xs
end
/-- sorted(xs) of a list -/
def fSorted (mm : Bool) : FN := fun ds μ Q => ∃ d xs, ds = [d] ∧ Lr μ d xs ∧ (∀ x ∈ xs, Rs μ x (pyD x) ∧ (pyD x).depth ≤ 50) ∧ PySem.W.AllAlike (xs.map pyD) ∧ PySem.W.Sortable (xs.map pyD) ∧ xs.length ≤ 1000000 ∧ New mm (xs.mergeSort (PySem.W.dataLe false pyD)) μ Q
section
variable {X : Cx}
theorem each_vals {M : Ms} {H : Hp} : ∀ {out : List Value} {ys : List D}, PySem.W.EachIs (fun u d => ∃ v, RelV v u ∧ VD M H d v) out ys → ∃ vs, Vals vs out ∧ VDs M H ys vs
  | _, _, .nil => ⟨[], .nil, rfl⟩
  | _, _, .cons ⟨v, r, h⟩ t => by
    obtain ⟨vs, r2, h2⟩ := each_vals t
    exact ⟨v :: vs, .cons r r2, v, vs, rfl, h, h2⟩
theorem vals_each {M : Ms} {H : Hp} : ∀ {ds : List D} {vs : List V} {us : List Value}, VDs M H ds vs → Vals vs us → PySem.W.EachIs (fun u d => ∃ v, RelV v u ∧ VD M H d v) us ds
  | [], _, _, h, r => by
    rw [show _ = [] from h] at r
    cases r
    exact .nil
  | d :: ds, _, _, ⟨v, vs, e, h, t⟩, r => by
    subst e
    cases r with
    | cons r1 r2 => exact .cons ⟨v, r1, h⟩ (vals_each t r2)
theorem each_reads {pins : List (Addr × Obj)} {σ : L2.St} {H : Hp} {s : Shared} {μ : Mu} (I : Inv X pins σ H s) (m : MH μ H) : ∀ {ds : List D} {vs : List V} {us : List Value}, (∀ x ∈ ds, Rs μ x (pyD x)) → VDs (MD μ) H ds vs → Vals vs us → PySem.W.EachIs (fun u d => ∃ as, Reads s.heap u (pyD d) as) us ds
  | [], _, _, _, h, r => by
    rw [show _ = [] from h] at r
    cases r
    exact .nil
  | d :: ds, _, _, hr, ⟨v, vs, e, h, t⟩, r => by
    subst e
    cases r with
    | cons r1 r2 => exact .cons (Dp.reads I (pyD d) v _ (Rs.dp m _ d v (hr d List.mem_cons_self) h) r1) (each_reads I m (fun x hx => hr x (List.mem_cons_of_mem _ hx)) t r2)
theorem cd_sorted (mm : Bool) (hu : X.A.units + 65 < cLine) : CallR X (.builtin "sorted") (upFN (fSorted mm)) := fun pins s σ H xs us Q I rx ⟨ds, μ, QD, v, m, ⟨d, ys, e, h1, h2, h3, h4, h5, h6⟩, k⟩ => by
  subst e
  obtain ⟨v1, vs, rfl, r1, e⟩ := v
  rw [show vs = [] from e] at rx
  obtain ⟨u, rfl, ru⟩ := vals1 rx
  obtain ⟨a, zs, rfl, e1, g⟩ := h1.to m r1
  rw [show u = Value.ref a from ru]
  obtain ⟨its, rv, pl, _⟩ := I.list (Or.inl e1)
  refine PySem.W.sorted_data pl.isList (vals_each g rv) (each_reads I m (fun x hx => (h2 x hx).1) g rv) h3 h4 (by rw [sizeLine_eq]; omega) (fun b hb => by have := (h2 b hb).2; omega) fun out hl he => ?_
  obtain ⟨ws, r2, g2⟩ := each_vals he
  obtain ⟨ep, he'⟩ := PyProof.Rows.sortedAll_at s.heap its out.toArray
  have hf := I.hok.fresh (Nat.le_succ s.heap.objs.size)
  refine ⟨.ref _, upd H (s.heap.objs.size + 1) (.lst ws), I.laid (t' := s.toks) (fun _ _ => PyProof.Rows.sortedAll_old) (Nat.le_succ _) ⟨?_, out, ep, r2, he'⟩, rfl, k _ _ (lft_new m g2 hf h6)⟩
  rw [← g2.length, List.length_mergeSort, sizeLine_eq]
  omega
theorem VDs.dk {M : Ms} {H : Hp} : ∀ ks : List Key, VDs M H (ks.map Dk) (ks.map kV)
  | [] => rfl
  | k :: ks => ⟨_, _, rfl, Dk_v k, VDs.dk ks⟩
theorem Rss.dk {μ : Mu} : ∀ ks : List Key, Rss μ (ks.map Dk) (pyDs (ks.map Dk))
  | [] => .nil
  | k :: ks => .cons (by cases k <;> first | exact .int _ | exact .str _) (Rss.dk ks)
end
end Dl
namespace Dl
open PySem PySem.Spec PyProof.Rows L2
variable {B : Bs}
/-! ### an instance's fields -/
def putFD (f : Str) (d : D) : List (Str × D) → List (Str × D)
  | [] => [(f, d)]
  | (g, x) :: r => if g = f then (g, d) :: r else (g, x) :: putFD f d r
theorem KD.putF {M : Ms} {H : Hp} {f : Str} {d : D} {v : V} (hv : VD M H d v) : ∀ {fs : List (Str × D)} {gs : List (Str × V)}, KD M H fs gs → KD M H (putFD f d fs) (L2.putF f v gs)
  | _, _, .nil => .cons ⟨rfl, hv⟩ .nil
  | (g, x) :: fs, (h, y) :: gs, .cons r t => by
    obtain ⟨e, q⟩ := r
    have e' : g = h := e
    subst e'
    show KD M H (if g = f then (g, d) :: fs else (g, x) :: putFD f d fs) (if g = f then (g, v) :: gs else (g, y) :: L2.putF f v gs)
    by_cases c : g = f
    · rw [if_pos c, if_pos c]
      exact .cons ⟨rfl, hv⟩ t
    · rw [if_neg c, if_neg c]
      exact .cons ⟨rfl, q⟩ (KD.putF hv t)
/-- o.f, o an instance of the class at C -/
def wFld (C : Addr) (f : Str) (a : WE) : WE := fun ρ μ Q => a ρ μ fun d μ1 => ∃ p fs e, d = .at p ∧ μ1 p = some (.ins C fs) ∧ fs.lookup f = some e ∧ Q e μ1
def wSetFld (C : Addr) (f : Str) (o v : WE) : WS := fun DD ρ μ => v ρ μ fun e μ1 => o ρ μ1 fun d μ2 => ∃ p fs, d = .at p ∧ μ2 p = some (.ins C fs) ∧ fs.length < 1000 ∧ DD.nx ρ (put μ2 p (.ins C (putFD f e fs)))
def wFldAug (C : Addr) (f : Str) (g : Int → Int → Int) (o v : WE) : WS := fun DD ρ μ => o ρ μ fun d μ1 => ∃ p fs i, d = .at p ∧ μ1 p = some (.ins C fs) ∧ fs.lookup f = some (.int i) ∧
  v ρ μ1 fun e μ2 => ∃ j fs', e = .int j ∧ μ2 p = some (.ins C fs') ∧ fs'.length < 1000 ∧ DD.nx ρ (put μ2 p (.ins C (putFD f (.int (g i j)) fs')))
section
variable {X : Cx} {C : Addr} {e o z : Expr} {f : Str} {pos pos' tpos : Pos} {a b : WE}
theorem je_fld (c : Cls X.K C) (n : NoAttr X.K C f) (he : JE B X e a) (hb : attributeBase e f X.env (eval e X.env) = eval e X.env := by rfl) : JE B X (.Attribute e f pos) (wFld C f a) := PE.of (pe_fld he hb) fun σ H Q ⟨ρ, μ, QD, rs, m, h, k⟩ =>
  up_mk rs m h fun v H1 d μ1 s1 m1 v1 ⟨p, fs, x, ed, hp, hl, q⟩ => by
    subst ed
    obtain ⟨dx, gs, e1, kd⟩ := m1 p _ hp
    obtain ⟨y, hy, vy⟩ := kd.lookup_some hl
    exact ⟨p, C, dx, gs, y, v1, e1, c, n, hy, k _ _ ⟨x, μ1, s1, m1, vy, q⟩⟩
theorem js_fld (c : Cls X.K C) (n : NoAttr X.K C f) (ho : JE B X o a) (hv : JE B X z b) (hs : swapsWith z (some (.Attribute o f pos')) pos.line X.env = pure false := by rfl) : JS B X (.Assign [.Attribute o f pos'] z pos) (wSetFld C f a b) := PS.of (ps_fld ho hv hs) fun E σ H ⟨ρ, μ, DD, rs, m, h, l⟩ =>
  up_mk rs m h fun v H1 x μ1 s1 m1 v1 h1 => up_mk (rs.step s1) m1 h1 fun u H2 d μ2 s2 m2 v2 ⟨p, fs, ed, hp, hl, q⟩ => by
    subst ed
    obtain ⟨dx, gs, e1, kd⟩ := m2 p _ hp
    have st : Step (MD μ2) H2 (MD (put μ2 p (.ins C (putFD f x fs)))) (upd H2 p (.ins C dx (L2.putF f v gs))) := .write ⟨_, hp⟩
    refine ⟨p, C, dx, gs, v2, e1, c, n, by rw [← Paired.length kd]; exact hl, l.nx σ _ ρ _ ((s1.trans s2).trans st) (rs.step ((s1.trans s2).trans st)) (m2.write ⟨_, hp⟩ ⟨dx, _, upd_same, KD.step st (kd.putF (VD.step s2 _ _ v1))⟩) q⟩
theorem js_fldAug {op : Operator} {g : Int → Int → Int} (c : Cls X.K C) (n : NoAttr X.K C f) (hop : InOp X op fun x y H Q => ∃ i j, x = .int i ∧ y = .int j ∧ Q (.int (g i j)) H) (ho : JE B X o a) (hv : JE B X z b) : JS B X (.AugAssign (.Attribute o f tpos) op z pos) (wFldAug C f g a b) := PS.of (ps_fldaug ho hv hop) fun E σ H ⟨ρ, μ, DD, rs, m, h, l⟩ =>
  up_mk rs m h fun v H1 d μ1 s1 m1 v1 ⟨p, fs, i, ed, hp, hl, h1⟩ => by
    subst ed
    obtain ⟨dx, gs, e1, kd⟩ := m1 p _ hp
    obtain ⟨y, hy, vy⟩ := kd.lookup_some hl
    refine ⟨p, C, dx, gs, y, v1, e1, c, n, hy, up_mk (rs.step s1) m1 h1 fun u H2 x μ2 s2 m2 v2 ⟨j, fs', ex, hp', hl', q⟩ => ?_⟩
    subst ex
    obtain ⟨dx', gs', e2, kd'⟩ := m2 p _ hp'
    have st : Step (MD μ2) H2 (MD (put μ2 p (.ins C (putFD f (.int (g i j)) fs')))) (upd H2 p (.ins C dx' (L2.putF f (.int (g i j)) gs'))) := .write ⟨_, hp'⟩
    refine ⟨i, j, vy, v2, dx', gs', e2, by rw [← Paired.length kd']; exact hl', l.nx σ _ ρ _ ((s1.trans s2).trans st) (rs.step ((s1.trans s2).trans st)) (m2.write ⟨_, hp'⟩ ⟨dx', _, upd_same, KD.step st (kd'.putF (d := .int (g i j)) (v := .int (g i j)) rfl)⟩) q⟩
theorem js_fldAdd (c : Cls X.K C) (n : NoAttr X.K C f) (ho : JE B X o a) (hv : JE B X z b) : JS B X (.AugAssign (.Attribute o f tpos) .Add z pos) (wFldAug C f (· + ·) a b) := js_fldAug c n in_add ho hv
end
/-! ### len by the text's own __len__ -/
def noX : XD := fun _ _ _ => False
def fLenO (C : Addr) (sp : SpD) : FN := fun ds μ Q => ∃ p fs, ds = [.at p] ∧ μ p = some (.ins C fs) ∧ sp [.at p] μ (fun d μ' => ∃ n : Int, d = .int n ∧ 0 ≤ n ∧ n < 2 ^ 63 ∧ Q (.int n) μ') noX
/-! ### the law's end -/
/-- no list among what the top has made -/
def noLists (K : Frg) : Bool := K.all fun q => match q.2.cls with
  | .type n => !(n == "list")
  | _ => true
theorem noLists_at {K : Frg} (h : noLists K = true) {a : Addr} {o : Obj} (e : K.lookup a = some o) : o.cls ≠ .type "list" := by
  intro z
  have hm : (a, o) ∈ K := by
    clear h
    induction K with
    | nil => cases e
    | cons q K ih =>
      obtain ⟨b, u⟩ := q
      rw [List.lookup_cons] at e
      cases c : (a == b) with
      | true =>
        rw [c] at e
        cases e
        rw [eq_of_beq c]
        exact List.mem_cons_self
      | false =>
        rw [c] at e
        exact List.mem_cons_of_mem _ (ih e)
  have := List.all_eq_true.mp h _ hm
  rw [show (a, o).2.cls = .type "list" from z] at this
  simp at this
def scriptMu (a : Addr) (ns : List Int) : Mu := put (fun _ => none) a (.ro (ns.map .int))
theorem vds_ints {M : Ms} {H : Hp} : ∀ ns : List Int, VDs M H (ns.map .int) (ns.map V.int)
  | [] => rfl
  | n :: ns => ⟨_, _, rfl, rfl, vds_ints ns⟩
theorem law_G {P : Program} {w : World} {K : Frg} {mg mb : Str → Option Value} {k : Nat} {fa a : Addr} {fd : FuncData} {x : Str} {sp : SpD} {s₁ : Shared} {vs : List Value} {ns : List Int}
    (KX : K.In s₁.heap) (hns : s₁.heap.Ns mainGlobals mg) (hb : s₁.heap.Ns builtinsNs mb) (hbb : ∀ x : Str, x ≠ "__name__" → mb x = bootBuiltins x) (hlim : s₁.heap.NoLimit) (hg : s₁.gens = #[])
    (ha : s₁.heap.get? a = some { cls := .type "list", data := .seq vs.toArray }) (hi : IntsAre vs ns) (hl : ns.length ≤ sizeLine) (hr : Room k callerA) (nl : noLists K = true)
    (F : ∀ base : Heap, K.In base → base.Ns mainGlobals mg → FnG P w K mg base k fa fd [x] sp) (hbind : ∀ (s : Shared) (u : Value), BindsTo s fd ⟨[u], []⟩ [(x, u)])
    (hsp : sp [.at a] (scriptMu a ns) (fun d _ => d = .bl true) noX) :
    codeAny (model P w) callerA (.call (.ref fa) ⟨[.ref a], []⟩) (fun r s' => r = .ok (.ret (.bool true)) ∧ OldK s₁.heap s'.heap ∧ s'.os = s₁.os ∧ AllBare s'.gens) s₁ := by
  -- what is tracked: the script alone
  have ha' := ha
  generalize hob : ({ cls := .type "list", data := .seq vs.toArray } : Obj) = ob at ha
  have hcls : ob.cls = .type "list" := by rw [← hob]
  have hdat : ∃ c, ob.data = .seq vs.toArray c := ⟨_, by rw [← hob]⟩
  let H : Hp := upd (fun _ => none) a (.frz ob (.lst (ns.map V.int)))
  have Ha : H a = some (.frz ob (.lst (ns.map V.int))) := upd_same
  have Hn : ∀ {b : Addr}, b ≠ a → H b = none := fun {b} n => upd_ne n
  have low : ∀ {b : Addr} {o : Obj}, s₁.heap.get? b = some o → b ≠ a → (hidT s₁.heap H).get? b = some o := fun e n => hidT_get e (Hn n)
  have lowNs : ∀ {b : Addr} {m : Str → Option Value}, s₁.heap.Ns b m → (hidT s₁.heap H).Ns b m := fun {b m} ⟨o, es, ep, e, d, r⟩ => ⟨o, es, ep, low e (fun z => by
    subst z
    rw [ha] at e
    cases e
    obtain ⟨c, hd⟩ := hdat
    rw [hd] at d
    cases d), d, r⟩
  have kin : K.In (hidT s₁.heap H) := fun b o e => low (KX b o e) fun z => by
    subst z
    have e2 := KX b o e
    rw [ha] at e2
    cases e2
    exact noLists_at nl e hcls
  have hok : HOk P w H s₁.heap := fun b u e => by
    by_cases z : b = a
    · subst z
      rw [Ha] at e
      cases e
      refine ⟨ha, by rw [List.length_map]; exact hl, vs, _, vals_ints hi, ha'⟩
    · rw [Hn z] at e
      cases e
  have mh : MH (scriptMu a ns) H := fun b u e => by
    by_cases z : b = a
    · subst z
      rw [scriptMu, put_same] at e
      cases e
      exact ⟨ns.map V.int, .inr ⟨ob, Ha⟩, vds_ints ns⟩
    · rw [scriptMu, put_ne z] at e
      cases e
  have e0 : Env0 P w K mg (hidT s₁.heap H) callerA [] s₁ H := ⟨rfl, ⟨kin, lowNs hns, ⟨mb, lowNs hb, hbb⟩, let ⟨mc, h1, h2⟩ := hlim; ⟨mc, lowNs h1, h2⟩⟩, fun b o e => of_hidT e, Nat.le_of_eq (hidT_size _ _), trivial, fun b z => absurd (show b ∈ ([] : List Addr) from z) (by simp), hok, .of_eq hg⟩
  refine codeAny_mono ((F _ kin (lowNs hns)).run callerA [] s₁ H ⟨[.ref a], []⟩ [.ref a] [.ref a] (fun v _ => v = .bl true) (fun _ _ _ => False) rfl hr e0 (hbind s₁ (.ref a)) (.cons rfl .nil)
    ⟨[.at a], scriptMu a ns, fun d _ => d = .bl true, noX, ⟨_, _, rfl, rfl, rfl⟩, mh, hsp, fun v H' ⟨d, μ', _, _, vd, ed⟩ => (by subst ed; exact vd), fun cls d H' ⟨_, _, _, _, _, z⟩ => z⟩) fun r s' h => ?_
  cases r with
  | error e =>
    obtain ⟨_, _, _, _, _, _, _, _, _, _, _, _, z⟩ := h
    exact z.elim
  | ok fl =>
    cases fl with
    | next => exact False.elim h
    | brk => exact False.elim h
    | cont => exact False.elim h
    | ret u =>
      obtain ⟨v, H', os, bare, un, hok', rv, q⟩ := h
      have q' : v = .bl true := q
      subst q'
      obtain rfl : u = Value.bool true := rv
      refine ⟨rfl, OldK.of_keep fun b o e => ?_, os, bare⟩
      by_cases z : b = a
      · subst z
        obtain ⟨e2, _⟩ := hok' b _ (un.frzs b ob _ Ha)
        rw [ha] at e
        cases e
        exact e2
      · exact un.keep b o e (Hn z) (by intro z; exact absurd (show b ∈ ([] : List Addr) from z) (by simp)) (by simp)
/-- the goal that k_head leaves -/
theorem walk_G {l : PySem.W.OpenLaw} {n k : Nat} {q : Program} {loose : List Str} {XP : (Str → Option Value) → Heap → Prop} {YP : World → Heap → Prop} {d : DefRec} {K : Params → Frg} {sp : SpD} {x : Str}
    (hn : l.most = some n) (hn2 : n ≤ sizeLine) (hdf : d.params.defaults = []) (hr : Room k callerA) (hY : ∀ (w : World) (h : Heap), YP w h → (K w.params).In h) (nl : ∀ p, noLists (K p) = true)
    (F : ∀ (w : World) (mg : Str → Option Value) (fa : Addr) (h : Heap), (K w.params).In h → h.Ns mainGlobals mg → mg d.name = some (.ref fa) →
      ∃ fd : FuncData, (∀ (s : Shared) (u : Value), BindsTo s fd ⟨[u], []⟩ [(x, u)]) ∧ ∀ base : Heap, (K w.params).In base → base.Ns mainGlobals mg → FnG l.prog w (K w.params) mg base k fa fd [x] sp)
    (hsp : ∀ (a : Addr) (ns : List Int), ns.length ≤ n → sp [.at a] (scriptMu a ns) (fun d _ => d = .bl true) noX) :
    PySem.W.WalkO q loose XP YP l.row.toRowW d [] (fun f vs => PySem.call f vs) := by
  refine Att.attach_call hn hdf fun w s₀ s₁ mg mb fa o pm cd doc a vs ns G Y ho hd hcd hmg hobj hints hlen hg => ?_
  have KX := hY w _ Y
  obtain ⟨fd, hb, hF⟩ := F w mg fa _ KX G.T.g hmg
  exact law_G KX G.T.g G.T.b G.T.builtins G.T.nolimit hg hobj hints (Nat.le_trans hlen hn2) hr (nl _) hF hb (hsp a ns hlen)
end Dl
namespace Dl
open PySem PySem.Spec PyProof.Rows L2
variable {B : Bs}
/-! ### a pot, opened for a while -/
def shutP (p : Addr) (DD : Ed) : Ed where
  nx := fun ρ μ => ∃ x y, μ p = some (.lst [.int x, .int y]) ∧ PotOk x y ∧ DD.nx ρ (put μ p .pot)
  rt := fun d μ => ∃ x y, μ p = some (.lst [.int x, .int y]) ∧ PotOk x y ∧ DD.rt d (put μ p .pot)
  bk := fun ρ μ => ∃ x y, μ p = some (.lst [.int x, .int y]) ∧ PotOk x y ∧ DD.bk ρ (put μ p .pot)
  ct := fun ρ μ => ∃ x y, μ p = some (.lst [.int x, .int y]) ∧ PotOk x y ∧ DD.ct ρ (put μ p .pot)
def wPot (b : WS) : WS := fun DD ρ μ => ∃ p, μ p = some .pot ∧ ∀ x y, PotOk x y → b (shutP p DD) ρ (put μ p (.lst [.int x, .int y]))
theorem same_step {μ : Mu} {H : Hp} {p : Addr} {o u : O} (e : μ p = some o) : Step (MD μ) H (MD (put μ p u)) H := ⟨fun _ _ _ e => e, fun a ⟨z, q⟩ => by
  by_cases c : a = p
  · subst c
    exact .inl ⟨_, e⟩
  · rw [put_ne c] at q
    exact .inl ⟨_, q⟩⟩
theorem same_mh {μ : Mu} {H : Hp} {p : Addr} {o u : O} (m : MH μ H) (e : μ p = some o) (h : OH (MD (put μ p u)) H p u) : MH (put μ p u) H := fun a z q => by
  by_cases c : a = p
  · subst c
    rw [put_same] at q
    cases q
    exact h
  · rw [put_ne c] at q
    exact (m a z q).step (same_step e) rfl
theorem shut_to {μ : Mu} {H : Hp} {p : Addr} {x y : Int} (m : MH μ H) (e : μ p = some (.lst [.int x, .int y])) (h : PotOk x y) : Step (MD μ) H (MD (put μ p .pot)) H ∧ MH (put μ p .pot) H := by
  refine ⟨same_step e, same_mh m e ?_⟩
  obtain ⟨xs, h1, v, vs, rfl, rx, v2, vs2, rfl, ry, e0⟩ := m p _ e
  rw [show v = V.int x from rx, show v2 = V.int y from ry, show vs2 = [] from e0] at h1
  exact ⟨x, y, h1, h⟩
theorem jss_pot {X : Cx} {st : List Stmt} {b : WS} (h : JSs B X st b) : JSs B X st (wPot b) := PSs.of h fun E σ H ⟨ρ, μ, DD, rs, m, ⟨p, hp, q⟩, l⟩ => by
  obtain ⟨x, y, h1, h2⟩ := m p _ hp
  have st : Step (MD μ) H (MD (put μ p (.lst [.int x, .int y]))) H := same_step hp
  have l1 := l.step st
  refine ⟨ρ, _, _, rs.step st, same_mh m hp ⟨_, h1, _, _, rfl, rfl, _, _, rfl, rfl, rfl⟩, q x y h2, ?_⟩
  refine ⟨fun σ' H' ρ' μ' s r m' ⟨x', y', e1, e2, k⟩ => ?_, fun v H' d μ' s m' r ⟨x', y', e1, e2, k⟩ => ?_, fun σ' H' ρ' μ' s r m' ⟨x', y', e1, e2, k⟩ => ?_, fun σ' H' ρ' μ' s r m' ⟨x', y', e1, e2, k⟩ => ?_⟩
  · obtain ⟨s2, m2⟩ := shut_to m' e1 e2
    exact l1.nx σ' H' ρ' _ (s.trans s2) (r.step s2) m2 k
  · obtain ⟨s2, m2⟩ := shut_to m' e1 e2
    exact l1.rt v H' d _ (s.trans s2) m2 (VD.step s2 _ _ r) k
  · obtain ⟨s2, m2⟩ := shut_to m' e1 e2
    exact l1.bk σ' H' ρ' _ (s.trans s2) (r.step s2) m2 k
  · obtain ⟨s2, m2⟩ := shut_to m' e1 e2
    exact l1.ct σ' H' ρ' _ (s.trans s2) (r.step s2) m2 k
/-! ### defs that may be called -/
abbrev noW : WXD := fun _ _ _ _ => False
theorem tkN {X : Cx} : Takes X (upX B noW) := Takes.imp takes0 fun c d σ H ⟨_, _, _, _, _, _, z⟩ => z
/-- a def of the module -/
structure Def0 (K : Frg) (mg : Str → Option Value) (x : Str) (st : Stmt) : Prop where
  ex : ∃ (f : Addr) (fd : FuncData), Fun K x x st f fd ∧ mg x = some (.ref f)
/-- a method of the class at C (or of one above it) -/
structure Met0 (K : Frg) (C : Addr) (m qual : Str) (st : Stmt) : Prop where
  ex : ∃ (f : Addr) (fd : FuncData), Fun K m qual st f fd ∧ Meth K C m f
structure CalD (P : Program) (w : World) (K : Frg) (mg : Str → Option Value) (base : Heap) (k : Nat) (x : Str) (st : Stmt) (ps : List Str) (sp : SpD) : Prop where
  ex : ∃ (f : Addr) (fd : FuncData), FnG P w K mg base k f fd ps sp ∧ Fun K x x st f fd ∧ mg x = some (.ref f)
structure MetD (P : Program) (w : World) (K : Frg) (mg : Str → Option Value) (base : Heap) (k : Nat) (C : Addr) (m qual : Str) (st : Stmt) (ps : List Str) (sp : SpD) : Prop where
  ex : ∃ (f : Addr) (fd : FuncData), FnG P w K mg base k f fd ps sp ∧ Fun K m qual st f fd ∧ Meth K C m f
/-- a class that may be made under the name x; sp: its __init__ -/
structure MakD (P : Program) (w : World) (K : Frg) (mg : Str → Option Value) (base : Heap) (k : Nat) (x : Str) (C : Addr) (qual : Str) (st : Stmt) (ps : List Str) (sp : SpD) : Prop where
  ex : ∃ (f : Addr) (fd : FuncData), FnG P w K mg base k f fd ps sp ∧ Fun K "__init__" qual st f fd ∧ Mk K C f ∧ mg x = some (.ref C)
/-- how written arguments bind: shown by cases -/
def Bd (x qual : Str) (st : Stmt) (ps : List Str) (n : Nat) (ks : List Str) (idx : List Nat) : Prop := ∀ (kV doc pm : Value) (an : Option Addr) (cdv ct : Value) (us ws : List Value), us.length = n → ws.length = ks.length →
  bindArgs (PySem.W.fnOf x qual (defArgs st) (defBody st) (defScope st) .none kV doc pm an cdv ct) ⟨us, ks.zip ws⟩ = pure (ps.zip (us ++ picked ws .none idx))
theorem Bd.to {K : Frg} {x qual : Str} {st : Stmt} {f : Addr} {fd : FuncData} {ps ks : List Str} {n : Nat} {idx : List Nat} (F : Fun K x qual st f fd) (h : Bd x qual st ps n ks idx) : KBd K fd ps n ks (fun ds es => ds ++ picked es .non idx) := by
  obtain ⟨oc, od, kV, doc, pm, an, cdv, ct, osl, rfl, lk, hcd⟩ := F.ex
  exact .kw n idx (h kV doc pm an cdv ct)
section
variable {P : Program} {w : World} {K : Frg} {mg : Str → Option Value} {base : Heap} {k : Nat} {x m qual : Str} {st : Stmt} {N ps : List Str} {sp : SpD} {C : Addr}
/-- the body's side, what every def's theorem shows -/
abbrev BodyOk (P : Program) (w : World) (K : Frg) (mg : Str → Option Value) (base : Heap) (k : Nat) (qual : Str) (st : Stmt) (N : List Str) (sp : SpD) : Prop :=
  ∀ (f : Addr) (cdv : Value) (A : Around) (outer : List Env) (s : Shared) (H : Hp) (EX : XK) (ds : List D) (μ : Mu) (Q : DQ) (E : XD), A.guards = some [] → Room k (A.deeper (envOfC qual (defScope st) s.heap.objs.size f cdv)) →
      Takes (cxOf (L2.CX P w) P w K mg base N qual (defScope st) f cdv A outer s H EX) (upX (MD μ, H) fun cls fs _ μ' => E cls fs μ') →
      PassesOwn (model P w) (A.deeper (envOfC qual (defScope st) s.heap.objs.size f cdv)) (envOfC qual (defScope st) s.heap.objs.size f cdv) (cxOf (L2.CX P w) P w K mg base N qual (defScope st) f cdv A outer s H EX).xe → sp ds μ Q E →
      ∃ b, JSs (MD μ, H) (cxOf (L2.CX P w) P w K mg base N qual (defScope st) f cdv A outer s H EX) (defBody st) b ∧ b { nx := fun _ μ' => wkR Q .non μ', rt := wkR Q } (startD N ds) μ
theorem calD (d : Def0 K mg x st) (S : FnScope N ps (defScope st)) (len : ∀ ds μ Q E, sp ds μ Q E → ds.length = ps.length) (h : BodyOk P w K mg base k x st N sp) : CalD P w K mg base (k + 1) x st ps sp := by
  obtain ⟨f, fd, F, e⟩ := d.ex
  obtain ⟨oc, od, kV, doc, pm, an, cdv, ct, osl, h1, h2, h3⟩ := F.ex
  exact ⟨f, fd, fnD ⟨oc, od, _, kV, doc, pm, an, cdv, ct, osl, h1, h2, h3⟩ S len (h f), F, e⟩
theorem metD (d : Met0 K C m qual st) (S : FnScope N ps (defScope st)) (len : ∀ ds μ Q E, sp ds μ Q E → ds.length = ps.length) (h : BodyOk P w K mg base k qual st N sp) : MetD P w K mg base (k + 1) C m qual st ps sp := by
  obtain ⟨f, fd, F, e⟩ := d.ex
  obtain ⟨oc, od, kV, doc, pm, an, cdv, ct, osl, h1, h2, h3⟩ := F.ex
  exact ⟨f, fd, fnD ⟨oc, od, _, kV, doc, pm, an, cdv, ct, osl, h1, h2, h3⟩ S len (h f), F, e⟩
theorem makD (d : ∃ (f : Addr) (fd : FuncData), Fun K "__init__" qual st f fd ∧ Mk K C f ∧ mg x = some (.ref C)) (S : FnScope N ps (defScope st)) (len : ∀ ds μ Q E, sp ds μ Q E → ds.length = ps.length) (h : BodyOk P w K mg base k qual st N sp) : MakD P w K mg base (k + 1) x C qual st ps sp := by
  obtain ⟨f, fd, F, e⟩ := d
  obtain ⟨oc, od, kV, doc, pm, an, cdv, ct, osl, h1, h2, h3⟩ := F.ex
  exact ⟨f, fd, fnD ⟨oc, od, _, kV, doc, pm, an, cdv, ct, osl, h1, h2, h3⟩ S len (h f), F, e⟩
theorem CalD.mono {j : Nat} (c : CalD P w K mg base j x st ps sp) (h : j ≤ k) : CalD P w K mg base k x st ps sp := let ⟨f, fd, F, e⟩ := c.ex; ⟨f, fd, F.mono h, e⟩
end
section
variable {X : Cx} {k j : Nat} {C : Addr} {x m qual : Str} {st : Stmt} {ps ks : List Str} {sp : SpD} {n : Nat} {idx : List Nat} {p pos apos : Pos} {e o : Expr} {es : List Expr} {kws : List Keyword} {t : WCl} {wo : WE} {W : WXD}
def gP (idx : List Nat) (ds es : List D) : List D := ds ++ picked es .non idx
/-- the rules for calls, by what is known of the def -/
theorem jf (c : CalD X.prog X.w X.K X.mg X.base k x st ps sp) (hr : Room j X.A) (hk : k ≤ j) (hg : X.A.guards = some []) (tk : Takes X (upX B W)) (hb : Bd x x st ps n ks idx) (ha : JCl B X es kws ks t) (hgl : Gl X x := by rfl) (hdb : (x == ("__debug__" : Str)) = false := by decide) :
    JE B X (.Call (.Name x p) es kws pos) (wCall n sp (gP idx) W t) := by
  obtain ⟨f, fd, G, F, e⟩ := c.ex
  exact je_call G (hr.mono hk) hg tk e F.kp (hb.to F) ha hgl hdb
theorem jm {pl : Sem Bool} (ho : JE B X o wo) (c : Cls X.K C) (d : MetD X.prog X.w X.K X.mg X.base k C m qual st ps sp) (hr : Room j X.A) (hk : k ≤ j) (hg : X.A.guards = some []) (tk : Takes X (upX B W)) (hb : Bd m qual st ps n ks idx) (ha : JCl B X es kws ks t)
    (ht : eval (.Call (.Attribute o m apos) es kws pos) X.env = (do
      let ov ← eval o X.env
      standAt apos.atName
      let (f, first) ← holding [ov] (getMethod ov m pl)
      callWith pos f first (backTo pos (starEach es X.env)) (backToKw pos (keywordEach kws X.env))) := by rfl) : JE B X (.Call (.Attribute o m apos) es kws pos) (wMeth C m n sp (gP idx) W wo t) := by
  obtain ⟨f, fd, G, F, M⟩ := d.ex
  exact je_meth (pl := pl) ho c M G (hr.mono hk) hg tk (hb.to F) ha ht
theorem jk (d : MakD X.prog X.w X.K X.mg X.base k x C qual st ps sp) (hr : Room j X.A) (hk : k + 1 ≤ j) (hg : X.A.guards = some []) (tk : Takes X (upX B W)) (hb : Bd "__init__" qual st ps n ks idx) (ha : JCl B X es kws ks t) (hgl : Gl X x := by rfl) (hdb : (x == ("__debug__" : Str)) = false := by decide) :
    JE B X (.Call (.Name x p) es kws pos) (wMake C n sp (gP idx) W t) := by
  obtain ⟨f, fd, G, F, M, e⟩ := d.ex
  exact je_make M G (hr.mono hk) hg tk e (hb.to F) ha hgl hdb
end
end Dl
namespace Dl
open PySem PySem.Spec PyProof.Rows L2
variable {B : Bs}
theorem rooms {k : Nat} {A : Around} (r : Room k A) : A.units + 65 < cLine ∧ A.units + 1 < cLine ∧ A.units + 2 < cLine := by
  have := r.un
  exact ⟨by omega, by omega, by omega⟩
/-! ### readings, step by step -/
section
variable {ρ : Rho} {μ : Mu} {Q : DQ} {d e : D} {ds es xs ys : List D} {i j : Int} {l p : Addr} {x y : Str} {b c : Bool}
theorem rd_name {k : Nat} (h : ρ[k]? = some (some d)) (q : Q d μ) : wName k ρ μ Q := by
  unfold wName
  rw [h]
  exact q
theorem rd_bl {R : Bool → Prop} (q : R b) : isBl (.bl b) R := q
theorem rd_brT {P R : Prop} (h : c = true) (q : P) : Br c P R := ⟨fun _ => q, fun z => by rw [h] at z; cases z⟩
theorem rd_brF {P R : Prop} (h : c = false) (q : R) : Br c P R := ⟨fun z => (by rw [h] at z; cases z), fun _ => q⟩
theorem rd_br {P R : Prop} (h : c = true → P) (g : c = false → R) : Br c P R := ⟨h, g⟩
theorem rd_brD {T P R : Prop} [Decidable T] (h : T → P) (g : ¬ T → R) : Br (decide T) P R := ⟨fun z => h (of_decide_eq_true z), fun z => g (of_decide_eq_false z)⟩
theorem rd_i0 {g : Int → Int → D} (q : Q (g i j) μ) : fI0 g (.int i) (.int j) μ Q := q
theorem rd_ic {C : Int → Int → Prop} {g : Int → Int → D} (h : C i j) (q : Q (g i j) μ) : fI C g (.int i) (.int j) μ Q := ⟨h, q⟩
theorem rd_addi {m : Bool} (q : Q (.int (i + j)) μ) : fAdd m (.int i) (.int j) μ Q := q
theorem rd_adds {m : Bool} (h : x.length + y.length ≤ sizeLine) (q : Q (.str (x ++ y)) μ) : fAdd m (.str x) (.str y) μ Q := ⟨h, q⟩
theorem rd_addll {m : Bool} (h : xs.length + ys.length ≤ sizeLine) (q : New m (xs ++ ys) μ Q) : fAdd m (.lst xs) (.lst ys) μ Q := ⟨xs, ys, rfl, rfl, h, q⟩
theorem rd_addal {m : Bool} (h1 : μ l = some (.lst xs)) (h : xs.length + ys.length ≤ sizeLine) (q : New m (xs ++ ys) μ Q) : fAdd m (.at l) (.lst ys) μ Q := ⟨xs, ys, h1, rfl, h, q⟩
theorem rd_muli {m : Bool} (h : CMul i j) (q : Q (.int (i * j)) μ) : fMul m (.int i) (.int j) μ Q := ⟨h, q⟩
theorem rd_mull {m : Bool} (h : 0 ≤ j ∧ j < 2 ^ 63 ∧ xs.length * j.toNat ≤ sizeLine) (q : New m (List.replicate j.toNat xs).flatten μ Q) : fMul m (.lst xs) (.int j) μ Q := ⟨xs, rfl, h.1, h.2.1, h.2.2, q⟩
theorem rd_neg (q : Q (.int (-i)) μ) : fNeg (.int i) μ Q := q
theorem rd_isN {n : Bool} (h : (if n then !nonD d else nonD d) = b) (q : Q (.bl b) μ) : fIsN n d .non μ Q := by
  unfold fIsN
  rw [h]
  exact q
theorem rd_eqi {R : Bool → Prop} (q : R (decide (i = j))) : EqQ μ (.int i) (.int j) R := q
theorem rd_eqs {R : Bool → Prop} (q : R (decide (x = y))) : EqQ μ (.str x) (.str y) R := q
theorem rd_eqb {R : Bool → Prop} (q : R (decide (b = c))) : EqQ μ (.bl b) (.bl c) R := q
theorem EqQ.of {R : Bool → Prop} (p q : PyData) (h1 : Rs μ d p) (h2 : Rs μ e q) (h3 : min p.depth q.depth ≤ 60) (h : R (PyData.eqv p q)) : EqQ μ d e R := by
  unfold EqQ
  split
  · cases h1; cases h2
    simp only [PyData.eqv] at h; rw [Bool.beq_eq_decide_eq] at h; exact h
  · cases h1; cases h2
    simp only [PyData.eqv] at h; rw [Bool.beq_eq_decide_eq] at h; exact h
  · cases h1; cases h2
    simp only [PyData.eqv] at h; rw [Bool.beq_eq_decide_eq] at h; exact h
  · exact ⟨p, q, h1, h2, h3, h⟩
theorem rd_ixl {z : D} (h : atI xs i = some z) (q : Q z μ) : fIx (.lst xs) (.int i) μ Q := ⟨xs, z, rfl, h, q⟩
theorem rd_ixt {z : D} (h : atI xs i = some z) (q : Q z μ) : fIx (.tup xs) (.int i) μ Q := ⟨xs, z, rfl, h, q⟩
theorem rd_ixa {z : D} (h1 : μ l = some (.lst xs)) (h : atI xs i = some z) (q : Q z μ) : fIx (.at l) (.int i) μ Q := ⟨xs, z, .inl h1, h, q⟩
theorem rd_ixr {z : D} (h1 : μ l = some (.ro xs)) (h : atI xs i = some z) (q : Q z μ) : fIx (.at l) (.int i) μ Q := ⟨xs, z, .inr h1, h, q⟩
theorem rd_lens (h : x.length ≤ sizeLine) (q : Q (.int x.length) μ) : fLen [.str x] μ Q := ⟨h, q⟩
theorem rd_lenl (q : Q (.int xs.length) μ) : fLen [.lst xs] μ Q := ⟨xs, rfl, q⟩
theorem rd_lent (q : Q (.int xs.length) μ) : fLen [.tup xs] μ Q := ⟨xs, rfl, q⟩
theorem rd_lena (h1 : μ l = some (.lst xs)) (q : Q (.int xs.length) μ) : fLen [.at l] μ Q := ⟨xs, .inl h1, q⟩
theorem rd_lenr (h1 : μ l = some (.ro xs)) (q : Q (.int xs.length) μ) : fLen [.at l] μ Q := ⟨xs, .inr h1, q⟩
theorem rd_abs (q : Q (.int (if i < 0 then -i else i)) μ) : fAbs [.int i] μ Q := q
theorem rd_ii {g : Int → Int → Int} (q : Q (.int (g i j)) μ) : fII g [.int i, .int j] μ Q := q
theorem rd_divmod (h : CDivW i j) (q : Q (.tup [.int (i / j), .int (i % j)]) μ) : fDivmod [.int i, .int j] μ Q := ⟨h, q⟩
theorem rd_isi {n t : String} (k : kindD μ d n) (h : kitB n t = some b) (q : Q (.bl b) μ) : fIsi [d, .ty t] μ Q := ⟨n, b, k, h, q⟩
theorem rd_isiI {t : String} (h : kitB "int" t = some b) (q : Q (.bl b) μ) : fIsi [.int i, .ty t] μ Q := ⟨"int", b, rfl, h, q⟩
theorem rd_isiB {t : String} {c : Bool} (h : kitB "bool" t = some b) (q : Q (.bl b) μ) : fIsi [.bl c, .ty t] μ Q := ⟨"bool", b, rfl, h, q⟩
theorem rd_isiS {t : String} (h : kitB "str" t = some b) (q : Q (.bl b) μ) : fIsi [.str x, .ty t] μ Q := ⟨"str", b, rfl, h, q⟩
theorem rd_isiN {t : String} (h : kitB "NoneType" t = some b) (q : Q (.bl b) μ) : fIsi [.non, .ty t] μ Q := ⟨"NoneType", b, rfl, h, q⟩
theorem rd_isiT {t : String} (h : kitB "tuple" t = some b) (q : Q (.bl b) μ) : fIsi [.tup xs, .ty t] μ Q := ⟨"tuple", b, rfl, h, q⟩
theorem rd_isiL {t : String} (h : kitB "list" t = some b) (q : Q (.bl b) μ) : fIsi [.lst xs, .ty t] μ Q := ⟨"list", b, rfl, h, q⟩
theorem rd_newF (q : Q (.lst xs) μ) : New false xs μ Q := q
theorem rd_newT (q : ∀ l, μ l = none → Q (.at l) (put μ l (.lst xs))) : New true xs μ Q := q
theorem rd_set {v : D} {k : Nat} {R : Mu → Prop} (h1 : μ l = some (.lst xs)) (h : ixN xs.length i = some k) (q : R (put μ l (.lst (xs.set k v)))) : f3List (.at l) (.int i) v μ R := ⟨xs, k, h1, h, q⟩
theorem rd_gtup {n : Nat} {r : WGs} {R : Rho → Mu → Prop} (h : ds.length = n) (q : r ds ρ μ R) : wgTup n r (.tup ds) ρ μ R := ⟨h, q⟩
theorem rd_gcons {a : WG} {r : WGs} {R : Rho → Mu → Prop} (q : a d ρ μ fun ρ1 μ1 => r es ρ1 μ1 R) : wgCons a r (d :: es) ρ μ R := ⟨d, es, rfl, q⟩
theorem rd_gnil {R : Rho → Mu → Prop} (q : R ρ μ) : wgNil [] ρ μ R := ⟨rfl, q⟩
theorem rd_len {α : Type} {zs : List α} {n : Nat} {R : Prop} (h : zs.length = n) (q : R) : zs.length = n ∧ R := ⟨h, q⟩
theorem rd_len1 {α : Type} {zs : List α} {n : Nat} {R : Prop} (h : zs.length + 1 = n) (q : R) : zs.length + 1 = n ∧ R := ⟨h, q⟩
theorem rd_sz {n : Nat} {R : Prop} (h : n ≤ sizeLine) (q : R) : n ≤ sizeLine ∧ R := ⟨h, q⟩
theorem rd_fld {C : Addr} {f : Str} {fs : List (Str × D)} {R : Addr → List (Str × D) → D → Prop} (h : μ p = some (.ins C fs)) (hl : fs.lookup f = some e) (q : R p fs e) : ∃ p' fs' e', D.at p = .at p' ∧ μ p' = some (.ins C fs') ∧ fs'.lookup f = some e' ∧ R p' fs' e' := ⟨p, fs, e, rfl, h, hl, q⟩
theorem rd_setfld {C : Addr} {fs : List (Str × D)} {R : Addr → List (Str × D) → Prop} (h : μ p = some (.ins C fs)) (hl : fs.length < 1000) (q : R p fs) : ∃ p' fs', D.at p = .at p' ∧ μ p' = some (.ins C fs') ∧ fs'.length < 1000 ∧ R p' fs' := ⟨p, fs, rfl, h, hl, q⟩
theorem rd_meth {C : Addr} {m : Str} {fs : List (Str × D)} {R : Addr → List (Str × D) → Prop} (h : μ p = some (.ins C fs)) (hl : fs.lookup m = none) (q : R p fs) : ∃ p' fs', D.at p = .at p' ∧ μ p' = some (.ins C fs') ∧ fs'.lookup m = none ∧ R p' fs' := ⟨p, fs, rfl, h, hl, q⟩
theorem rd_itl {R : List D → Prop} (q : R xs) : ∃ ds, Lr μ (.lst xs) ds ∧ R ds := ⟨xs, rfl, q⟩
theorem rd_ita {R : List D → Prop} (h : μ l = some (.lst xs)) (q : R xs) : ∃ ds, Lr μ (.at l) ds ∧ R ds := ⟨xs, .inl h, q⟩
theorem rd_itr {R : List D → Prop} (h : μ l = some (.ro xs)) (q : R xs) : ∃ ds, Lr μ (.at l) ds ∧ R ds := ⟨xs, .inr h, q⟩
theorem rd_lsa {R : Prop} (h : μ l = some (.lst xs)) (q : R) : (∃ zs, Ls μ (.at l) zs) ∧ R := ⟨⟨xs, h⟩, q⟩
theorem rd_rng {R : Int → Prop} (h : -(2 ^ 62) ≤ i ∧ i < 2 ^ 62) (q : R i) : ∃ j, [D.int i] = [.int j] ∧ -(2 ^ 62) ≤ j ∧ j < 2 ^ 62 ∧ R j := ⟨i, rfl, h.1, h.2, q⟩
theorem rd_append (h : μ l = some (.lst xs)) (hs : xs.length ≤ 1000000) (q : Q .non (put μ l (.lst (xs ++ [d])))) : fAppend (.at l) [d] μ Q := ⟨l, xs, d, rfl, rfl, h, hs, q⟩
theorem rd_extl (h : μ l = some (.lst xs)) (hs : xs.length + ys.length ≤ 1000000) (q : Q .non (put μ l (.lst (xs ++ ys)))) : fExtend (.at l) [.lst ys] μ Q := ⟨l, xs, .lst ys, ys, rfl, rfl, h, rfl, hs, q⟩
theorem rd_rev (h : μ l = some (.lst xs)) (q : Q .non (put μ l (.lst xs.reverse))) : fReverse (.at l) [] μ Q := ⟨l, xs, rfl, rfl, h, q⟩
theorem put_at {a : Addr} {u : O} {o : O} (h : μ a = some o) (n : a ≠ l) : put μ l u a = some o := by rw [put_ne n]; exact h
theorem put_no {a : Addr} {u : O} (h : μ a = none) (n : a ≠ l) : put μ l u a = none := by rw [put_ne n]; exact h
theorem no_put {a : Addr} {u : O} (h : put μ l u a = none) : a ≠ l ∧ μ a = none := by
  by_cases e : a = l
  · subst e
    rw [put_same] at h
    cases h
  · rw [put_ne e] at h
    exact ⟨e, h⟩
theorem ne_no {a : Addr} {o : O} (h : μ a = some o) (g : μ l = none) : a ≠ l := fun e => by rw [e, g] at h; cases h
theorem ne_at {a : Addr} {o u : O} (h : μ a = some o) (g : μ l = some u) (n : o ≠ u) : a ≠ l := fun e => by rw [e, g] at h; cases h; exact n rfl
end
theorem divw {i m : Int} (h0 : 0 < m) (h : m ≤ 10 ^ 30) : CDivW i m := by
  refine ⟨h0, ?_⟩
  have h1 : m.natAbs ≠ 0 := by omega
  have h2 : m.natAbs.log2 < 100 := (Nat.log2_lt h1).mpr (by omega)
  omega
/-- what a comprehension asks behind its iterable -/
theorem fl_nil : ([] : List (Str × D)).length ≤ 0 := Nat.le_refl 0
theorem fl_put {f : Str} {d : D} : ∀ {fs : List (Str × D)} {n : Nat}, fs.length ≤ n → (putFD f d fs).length ≤ n + 1
  | [], _, _ => by show 1 ≤ _; omega
  | (g, x) :: r, n, h => by
    show (if g = f then (g, d) :: r else (g, x) :: putFD f d r).length ≤ n + 1
    split
    · simp at h ⊢; omega
    · have := fl_put (f := f) (d := d) (fs := r) (n := n - 1) (by simp at h; omega)
      simp at h ⊢
      omega
theorem fl_cons {q : Str × D} {fs : List (Str × D)} {n : Nat} (h : fs.length ≤ n) : (q :: fs).length ≤ n + 1 := Nat.succ_le_succ h
theorem fl_lt {fs : List (Str × D)} {n : Nat} (h : fs.length ≤ n) (g : n < 1000) : fs.length < 1000 := Nat.lt_of_le_of_lt h g
def LcB (g : WG) (t : WT) (a : WE) (vs : List Nat) (ρ : Rho) (Q : DQ) (ds : List D) (kp : Mu → Prop) (μ1 : Mu) : Prop := ds.length ≤ 1000000 ∧ ∀ L, μ1 L = none → ∃ P : Nat → Mu → Prop, P 0 (put μ1 L (.lst [])) ∧ (∀ i μ, i ≤ ds.length → P i μ → kp μ) ∧
  (∀ i d μ, ds[i]? = some d → P i μ → g d (wipeD ρ vs) μ fun ρ2 μ2 => t ρ2 μ2 fun b μ3 => Br b (a ρ2 μ3 fun e μ4 => ∃ acc, μ4 L = some (.lst acc) ∧ acc.length ≤ i ∧ P (i + 1) (put μ4 L (.lst (acc ++ [e])))) (P (i + 1) μ3)) ∧
  ∀ μ, P ds.length μ → wkR Q (.at L) μ
theorem wLc_eq {wi : WI} {g : WG} {t : WT} {a : WE} {vs : List Nat} {ρ : Rho} {μ : Mu} {Q : DQ} : wLc wi g t a vs ρ μ Q = wi ρ μ fun ds kp μ1 => LcB g t a vs ρ Q ds kp μ1 := rfl
/-! ### helpers of readings -/
theorem atI_ok {α : Type} {xs : List α} {i : Int} (h0 : 0 ≤ i) (h : i < xs.length) : atI xs i = some (xs[i.toNat]'(by omega)) := by
  unfold atI ixN
  rw [if_pos h0, if_pos h]
  exact List.getElem?_eq_getElem _
/-- a comprehension whose turns leave all as it stands -/
theorem lc_pure {α : Type} {g : WG} {t : WT} {a : WE} {vs : List Nat} {ρ : Rho} {Q : DQ} {kp : Mu → Prop} {μ1 : Mu} {f h : α → D} {xs : List α} {p : α → Bool} (sz : xs.length ≤ 1000000) (hk : ∀ L acc, μ1 L = none → kp (put μ1 L (.lst acc)))
    (hs : ∀ x ∈ xs, ∀ L acc (K1 : DQ) (K2 : Mu → Prop), μ1 L = none → (p x = true → K1 (h x) (put μ1 L (.lst acc))) → (p x = false → K2 (put μ1 L (.lst acc))) → g (f x) (wipeD ρ vs) (put μ1 L (.lst acc)) fun ρ2 μ2 => t ρ2 μ2 fun b μ3 => Br b (a ρ2 μ3 K1) (K2 μ3))
    (hd : Q (.lst ((xs.filter p).map h)) μ1) : LcB g t a vs ρ Q (xs.map f) kp μ1 := by
  refine lc_by (fun i acc => acc = ((xs.take i).filter p).map h) (by rw [List.length_map]; exact sz) (by simp) hk (fun acc _ e => by
    rw [List.length_map, List.take_length] at e
    rw [e]
    exact hd) fun L i d acc hL la hi r => ?_
  rw [List.getElem?_map] at hi
  cases e : xs[i]? with
  | none => rw [e] at hi; cases hi
  | some x =>
    rw [e] at hi
    cases hi
    have ht : xs.take (i + 1) = xs.take i ++ [x] := by rw [List.take_add_one, e]; rfl
    refine hs x (List.mem_of_getElem? e) L acc _ _ hL (fun hp => lc_more la ?_) fun hp => lc_skip la ?_
    · rw [r, ht, List.filter_append, List.map_append, List.filter_cons_of_pos hp]
      rfl
    · rw [r, ht, List.filter_append, List.filter_cons_of_neg (by simp [hp])]
      simp
theorem take_succ_get {α : Type} {xs : List α} {i : Nat} {x : α} (e : xs[i]? = some x) : xs.take (i + 1) = xs.take i ++ [x] := by rw [List.take_add_one, e]; rfl
theorem less1 {μ : Mu} {l : Addr} {o : O} (h : μ l = none) : Less (put μ l o) μ := (Less.refl μ).put h
end Dl
namespace Dl
open PySem PySem.Spec PyProof.Rows L2
/-! ### dicts, read -/
section
variable {μ : Mu} {a p : Addr} {i : Int} {ks : List D} {k : List Key} {kvs : List (Key × D)} {kts : List (List Key × D)} {v : D} {R : Option D → Prop} {T : D → Prop} {G : Prop} {Q : Mu → Prop}
theorem rd_getK (h : μ a = some (.dK kvs)) (q : R (atD kvs (.inl i))) : ∃ o, GetD μ (.at a) (.int i) o ∧ R o := ⟨_, .inl ⟨kvs, .inl i, .inl h, rfl, rfl⟩, q⟩
theorem rd_getT (h : μ a = some (.dT kts)) (hk : keysD ks = some k) (q : R (atD kts k)) : ∃ o, GetD μ (.at a) (.tup ks) o ∧ R o := ⟨_, .inr ⟨kts, ks, k, h, rfl, hk, rfl⟩, q⟩
theorem rd_dgetK (h : μ a = some (.dK kvs)) (hv : atD kvs (.inl i) = some v) (q : T v) : ∃ v, GetD μ (.at a) (.int i) (some v) ∧ T v := ⟨v, .inl ⟨kvs, .inl i, .inl h, rfl, hv.symm⟩, q⟩
theorem rd_dgetT (h : μ a = some (.dT kts)) (hk : keysD ks = some k) (hv : atD kts k = some v) (q : T v) : ∃ v, GetD μ (.at a) (.tup ks) (some v) ∧ T v := ⟨v, .inr ⟨kts, ks, k, h, rfl, hk, hv.symm⟩, q⟩
theorem rd_dicK (h : μ a = some (.dK kvs)) (q : G) : isDic μ (.at a) ∧ G := ⟨⟨a, rfl, .inl ⟨kvs, h⟩⟩, q⟩
theorem rd_dicT (h : μ a = some (.dT kts)) (q : G) : isDic μ (.at a) ∧ G := ⟨⟨a, rfl, .inr (.inl ⟨kts, h⟩)⟩, q⟩
theorem rd_putK (h : μ a = some (.dK kvs)) (hs : kvs.length ≤ 1000000) (q : Q (put μ a (.dK (putD kvs (.inl i) v)))) : PutD μ (.at a) (.int i) v Q := .inl ⟨kvs, .inl i, h, rfl, hs, q⟩
theorem rd_putT (h : μ a = some (.dT kts)) (hk : keysD ks = some k) (hs : kts.length ≤ 1000000) (q : Q (put μ a (.dT (putD kts k v)))) : PutD μ (.at a) (.tup ks) v Q := .inr ⟨kts, ks, k, h, rfl, hk, hs, q⟩
theorem rd_delK (h : μ a = some (.dK kvs)) (hs : (atD kvs (.inl i)).isSome = true) (q : Q (put μ a (.dK (dropD kvs (.inl i))))) : DelD μ (.at a) (.int i) Q := .inl ⟨kvs, .inl i, h, rfl, hs, q⟩
theorem rd_delT (h : μ a = some (.dT kts)) (hk : keysD ks = some k) (hs : (atD kts k).isSome = true) (q : Q (put μ a (.dT (dropD kts k)))) : DelD μ (.at a) (.tup ks) Q := .inr ⟨kts, ks, k, h, rfl, hk, hs, q⟩
end
/-! ### tables from keys to whole numbers -/
section
variable {α κ : Type} [DecidableEq α] [DecidableEq κ]
abbrev Tb (α : Type) := List (α × Int)
def getI (tb : Tb α) (k : α) : Option Int := (tb.find? fun q => decide (q.1 = k)).map (·.2)
def valI (tb : Tb α) (k : α) : Int := (getI tb k).getD 0
def putI (tb : Tb α) (k : α) (v : Int) : Tb α := if (tb.any fun q => decide (q.1 = k)) = true then tb.map (fun q => if q.1 = k then (q.1, v) else q) else tb ++ [(k, v)]
def dropI (tb : Tb α) (k : α) : Tb α := tb.filter fun q => decide (q.1 ≠ k)
/-- the count at k goes on by more; what comes to 0 is dropped -/
def bump (tb : Tb α) (k : α) (more : Int) : Tb α := if valI tb k + more = 0 then dropI tb k else putI tb k (valI tb k + more)
def enc (kx : α → κ) (tb : Tb α) : List (κ × D) := tb.map fun q => (kx q.1, D.int q.2)
abbrev kI (i : Int) : Key := .inl i
abbrev kP (s : Int × Int) : List Key := [.inl s.1, .inl s.2]
theorem kI_inj : ∀ {a b : Int}, kI a = kI b → a = b := fun h => by cases h; rfl
theorem kP_inj : ∀ {a b : Int × Int}, kP a = kP b → a = b := fun {a b} h => by
  obtain ⟨a1, a2⟩ := a
  obtain ⟨b1, b2⟩ := b
  simp at h
  rw [h.1, h.2]
variable {kx : α → κ} (inj : ∀ {a b : α}, kx a = kx b → a = b)
include inj
theorem enc_at (tb : Tb α) (k : α) : atD (enc kx tb) (kx k) = (getI tb k).map D.int := by
  unfold atD enc getI
  induction tb with
  | nil => rfl
  | cons q tb ih =>
    rw [List.map_cons, List.find?_cons, List.find?_cons]
    by_cases c : q.1 = k
    · simp [c]
    · have c2 : ¬ kx q.1 = kx k := fun z => c (inj z)
      simp only [c, c2, decide_false]
      exact ih
theorem enc_any (tb : Tb α) (k : α) : ((enc kx tb).any fun kv => decide (kv.1 = kx k)) = tb.any fun q => decide (q.1 = k) := by
  unfold enc
  rw [List.any_map]
  congr 1
  funext q
  show decide (kx q.1 = kx k) = decide (q.1 = k)
  rw [decide_eq_decide]
  exact ⟨fun z => inj z, fun z => by rw [z]⟩
theorem enc_put (tb : Tb α) (k : α) (v : Int) : putD (enc kx tb) (kx k) (.int v) = enc kx (putI tb k v) := by
  unfold putD putI
  rw [enc_any inj]
  split
  · unfold enc
    rw [List.map_map, List.map_map]
    congr 1
    funext q
    by_cases c : q.1 = k
    · simp [c]
    · have c2 : ¬ kx q.1 = kx k := fun z => c (inj z)
      simp [c, c2]
  · unfold enc
    rw [List.map_append]
    rfl
theorem enc_drop (tb : Tb α) (k : α) : dropD (enc kx tb) (kx k) = enc kx (dropI tb k) := by
  unfold dropD dropI enc
  rw [List.filter_map]
  congr 1
  congr 1
  funext q
  show decide (kx q.1 ≠ kx k) = decide (q.1 ≠ k)
  rw [decide_eq_decide]
  exact ⟨fun h z => h (by rw [z]), fun h z => h (inj z)⟩
omit inj
theorem enc_length (tb : Tb α) : (enc kx tb).length = tb.length := by unfold enc; rw [List.length_map]
theorem dropI_le (tb : Tb α) (k : α) : (dropI tb k).length ≤ tb.length := List.length_filter_le _ _
theorem putI_le (tb : Tb α) (k : α) (v : Int) : (putI tb k v).length ≤ tb.length + 1 := by
  unfold putI
  split
  · rw [List.length_map]; omega
  · rw [List.length_append]; simp
theorem bump_le (tb : Tb α) (k : α) (v : Int) : (bump tb k v).length ≤ tb.length + 1 := by
  unfold bump
  split
  · exact Nat.le_succ_of_le (dropI_le _ _)
  · exact putI_le _ _ _
/-! what they hold -/
theorem getI_put (tb : Tb α) (k j : α) (v : Int) : getI (putI tb k v) j = if j = k then some v else getI tb j := by
  unfold putI
  split
  · rename_i h
    induction tb with
    | nil => simp at h
    | cons q tb ih =>
      unfold getI at *
      rw [List.map_cons, List.find?_cons, List.find?_cons]
      by_cases c : q.1 = k
      · rw [if_pos c]
        by_cases e : j = k
        · subst e
          simp [c]
        · have c3 : ¬ q.1 = j := fun z => e (z.symm.trans c)
          simp only [c3, decide_false, if_neg e]
          by_cases h2 : (tb.any fun q => decide (q.1 = k)) = true
          · have := ih h2
            rw [if_neg e] at this
            exact this
          · have nk : ∀ q ∈ tb, ¬ q.1 = k := fun q hq z => h2 (List.any_eq_true.mpr ⟨q, hq, by simp [z]⟩)
            have : tb.map (fun q => if q.1 = k then (q.1, v) else q) = tb := by
              conv => rhs; rw [← List.map_id tb]
              exact List.map_congr_left fun q hq => by rw [if_neg (nk q hq)]; rfl
            rw [this]
      · rw [if_neg c]
        have h2 : (tb.any fun q => decide (q.1 = k)) = true := by simpa [c] using h
        have ih := ih h2
        by_cases e : q.1 = j
        · simp only [e, decide_true]
          rw [if_neg (fun z => c (e.trans z))]
        · simp only [e, decide_false]
          exact ih
  · rename_i h
    have nk : ∀ q ∈ tb, ¬ q.1 = k := fun q hq z => h (List.any_eq_true.mpr ⟨q, hq, by simp [z]⟩)
    unfold getI
    rw [List.find?_append]
    by_cases e : j = k
    · subst e
      have : tb.find? (fun q => decide (q.1 = j)) = none := List.find?_eq_none.mpr fun q hq => by simp [nk q hq]
      rw [this]
      simp
    · rw [if_neg e]
      have : ([(k, v)] : Tb α).find? (fun q => decide (q.1 = j)) = none := List.find?_eq_none.mpr fun q hq => by
        simp at hq
        rw [hq]
        simp [Ne.symm e]
      rw [this]
      simp
theorem getI_drop (tb : Tb α) (k j : α) : getI (dropI tb k) j = if j = k then none else getI tb j := by
  unfold dropI
  induction tb with
  | nil => simp [getI]
  | cons q tb ih =>
    by_cases c : q.1 = k
    · rw [List.filter_cons_of_neg (by simp [c]), ih]
      by_cases e : j = k
      · rw [if_pos e, if_pos e]
      · rw [if_neg e, if_neg e]
        unfold getI
        rw [List.find?_cons]
        have : ¬ q.1 = j := fun z => e (z.symm.trans c)
        simp [this]
    · rw [List.filter_cons_of_pos (by simp [c])]
      unfold getI at *
      rw [List.find?_cons, List.find?_cons]
      by_cases e : q.1 = j
      · simp only [e, decide_true]
        rw [if_neg (fun z => c (e.trans z))]
      · simp only [e, decide_false]
        exact ih
/-- every key stands once -/
def Nd (tb : Tb α) : Prop := (tb.map (·.1)).Nodup
theorem Nd.drop {tb : Tb α} (h : Nd tb) (k : α) : Nd (dropI tb k) := List.Nodup.sublist (List.Sublist.map _ List.filter_sublist) h
theorem Nd.put {tb : Tb α} (h : Nd tb) (k : α) (v : Int) : Nd (putI tb k v) := by
  unfold putI
  split
  · unfold Nd at *
    rw [List.map_map]
    have : (fun q : α × Int => (if q.1 = k then (q.1, v) else q).1) = fun q => q.1 := by
      funext q
      split <;> rfl
    rw [show ((fun x : α × Int => x.1) ∘ fun q => if q.1 = k then (q.1, v) else q) = fun q => q.1 from this]
    exact h
  · rename_i hn
    unfold Nd at *
    rw [List.map_append, List.nodup_append]
    refine ⟨h, by simp, fun a ha b hb => ?_⟩
    simp at hb
    rw [hb]
    intro z
    obtain ⟨q, hq, e⟩ := List.mem_map.mp ha
    exact hn (List.any_eq_true.mpr ⟨q, hq, by simp [e, z]⟩)
theorem Nd.bump {tb : Tb α} (h : Nd tb) (k : α) (v : Int) : Nd (bump tb k v) := by
  unfold Dl.bump
  split
  · exact h.drop k
  · exact h.put k _
theorem valI_bump (tb : Tb α) (k j : α) (v : Int) : valI (bump tb k v) j = valI tb j + if j = k then v else 0 := by
  unfold bump
  split
  · rename_i h
    show (getI (dropI tb k) j).getD 0 = _
    rw [getI_drop]
    by_cases e : j = k
    · subst e
      rw [if_pos rfl, if_pos rfl, h]
      rfl
    · rw [if_neg e, if_neg e, Int.add_zero]
      rfl
  · show (getI (putI tb k _) j).getD 0 = _
    rw [getI_put]
    by_cases e : j = k
    · subst e
      rw [if_pos rfl, if_pos rfl]
      rfl
    · rw [if_neg e, if_neg e, Int.add_zero]
      rfl
/-- no key holds 0 -/
def Nz (tb : Tb α) : Prop := ∀ q ∈ tb, q.2 ≠ 0
theorem Nz.bump {tb : Tb α} (h : Nz tb) (k : α) (v : Int) : Nz (bump tb k v) := by
  unfold Dl.bump
  split
  · exact fun q hq => h q (List.mem_filter.mp hq).1
  · rename_i hn
    unfold putI
    split
    · intro q hq
      obtain ⟨r, hr, e⟩ := List.mem_map.mp hq
      rw [← e]
      split
      · exact hn
      · exact h r hr
    · intro q hq
      rcases List.mem_append.mp hq with hq | hq
      · exact h q hq
      · simp at hq
        rw [hq]
        exact hn
theorem getI_mem {tb : Tb α} (h : Nd tb) {q : α × Int} (hq : q ∈ tb) : getI tb q.1 = some q.2 := by
  unfold getI
  induction tb with
  | nil => cases hq
  | cons r tb ih =>
    unfold Nd at h
    rw [List.map_cons, List.nodup_cons] at h
    rw [List.find?_cons]
    rcases List.mem_cons.mp hq with e | hq
    · subst e
      simp
    · have : ¬ r.1 = q.1 := fun z => h.1 (by rw [z]; exact List.mem_map_of_mem hq)
      simp only [this, decide_false]
      exact ih h.2 hq
/-- weighed sums -/
def wsum (p : α → Bool) (tb : Tb α) : Int := ((tb.filter fun q => p q.1).map (·.2)).sum
theorem wsum_nil (p : α → Bool) : wsum p ([] : Tb α) = 0 := rfl
theorem wsum_cons (p : α → Bool) (q : α × Int) (tb : Tb α) : wsum p (q :: tb) = (if p q.1 then q.2 else 0) + wsum p tb := by
  unfold wsum
  by_cases h : p q.1 = true
  · rw [List.filter_cons_of_pos (p := fun q : α × Int => p q.1) h, if_pos h, List.map_cons, List.sum_cons]
  · rw [List.filter_cons_of_neg (p := fun q : α × Int => p q.1) h, if_neg h, Int.zero_add]
theorem wsum_app (p : α → Bool) (xs ys : Tb α) : wsum p (xs ++ ys) = wsum p xs + wsum p ys := by
  unfold wsum
  rw [List.filter_append, List.map_append, List.sum_append]
theorem wsum_drop (p : α → Bool) {tb : Tb α} (h : Nd tb) (k : α) : wsum p (dropI tb k) = wsum p tb - if p k then valI tb k else 0 := by
  induction tb with
  | nil => simp [dropI, wsum, valI, getI]
  | cons q tb ih =>
    unfold Nd at h
    rw [List.map_cons, List.nodup_cons] at h
    have ih := ih h.2
    unfold dropI at *
    by_cases c : q.1 = k
    · have nk : ∀ r ∈ tb, ¬ r.1 = k := fun r hr z => h.1 (by rw [c, ← z]; exact List.mem_map_of_mem hr)
      rw [List.filter_cons_of_neg (by simp [c])]
      have e : tb.filter (fun q => decide (q.1 ≠ k)) = tb := List.filter_eq_self.mpr fun r hr => by simp [nk r hr]
      have e2 : valI (q :: tb) k = q.2 := by simp [valI, getI, c]
      rw [e, wsum_cons, e2, c]
      split <;> omega
    · rw [List.filter_cons_of_pos (by simp [c]), wsum_cons, wsum_cons, ih]
      have e2 : valI (q :: tb) k = valI tb k := by simp [valI, getI, c]
      rw [e2]
      omega
theorem wsum_put (p : α → Bool) {tb : Tb α} (h : Nd tb) (k : α) (v : Int) : wsum p (putI tb k v) = wsum p tb + if p k then v - valI tb k else 0 := by
  unfold putI
  split
  · rename_i hk
    induction tb with
    | nil => simp at hk
    | cons q tb ih =>
      unfold Nd at h
      rw [List.map_cons, List.nodup_cons] at h
      rw [List.map_cons, wsum_cons, wsum_cons]
      by_cases c : q.1 = k
      · have nk : ∀ r ∈ tb, ¬ r.1 = k := fun r hr z => h.1 (by rw [c, ← z]; exact List.mem_map_of_mem hr)
        have e : tb.map (fun q => if q.1 = k then (q.1, v) else q) = tb := by
          conv => rhs; rw [← List.map_id tb]
          exact List.map_congr_left fun q hq => by rw [if_neg (nk q hq)]; rfl
        have e2 : valI (q :: tb) k = q.2 := by simp [valI, getI, c]
        rw [e, if_pos c, e2, c]
        split <;> omega
      · have hk' : (tb.any fun q => decide (q.1 = k)) = true := by simpa [c] using hk
        have ih := ih h.2 hk'
        have e2 : valI (q :: tb) k = valI tb k := by simp [valI, getI, c]
        rw [if_neg c, ih, e2]
        omega
  · rename_i hn
    have nk : tb.find? (fun q => decide (q.1 = k)) = none := List.find?_eq_none.mpr fun q hq z => hn (List.any_eq_true.mpr ⟨q, hq, z⟩)
    have e : valI tb k = 0 := by simp [valI, getI, nk]
    rw [wsum_app, wsum_cons, wsum_nil, e]
    simp
theorem wsum_bump (p : α → Bool) {tb : Tb α} (h : Nd tb) (k : α) (v : Int) : wsum p (bump tb k v) = wsum p tb + if p k then v else 0 := by
  unfold bump
  split
  · rename_i e
    rw [wsum_drop p h]
    split <;> omega
  · rw [wsum_put p h]
    split <;> omega
end
section
variable {μ : Mu} {a : Addr} {i j v : Int} {tb : Tb Int} {tp : Tb (Int × Int)} {R : Option D → Prop} {T : D → Prop} {Q : Mu → Prop}
theorem valI_getD {α : Type} [DecidableEq α] (tb : Tb α) (k : α) : ((getI tb k).map D.int).getD (D.int 0) = D.int (valI tb k) := by
  unfold valI
  cases getI tb k <;> rfl
theorem some_of_val {α : Type} [DecidableEq α] {tb : Tb α} {k : α} (h : valI tb k ≠ 0) : (getI tb k).isSome = true := by
  unfold valI at h
  cases e : getI tb k with
  | none => rw [e] at h; exact absurd rfl h
  | some z => rfl
theorem rd_getI (h : μ a = some (.dK (enc kI tb))) (q : R ((getI tb i).map D.int)) : ∃ o, GetD μ (.at a) (.int i) o ∧ R o := rd_getK h (by rw [show (Sum.inl i : Key) = kI i from rfl, enc_at kI_inj]; exact q)
theorem rd_getP (h : μ a = some (.dT (enc kP tp))) (q : R ((getI tp (i, j)).map D.int)) : ∃ o, GetD μ (.at a) (.tup [.int i, .int j]) o ∧ R o := rd_getT (k := kP (i, j)) h rfl (by rw [enc_at kP_inj]; exact q)
theorem rd_putI (h : μ a = some (.dK (enc kI tb))) (hs : tb.length ≤ 1000000) (q : Q (put μ a (.dK (enc kI (putI tb i v))))) : PutD μ (.at a) (.int i) (.int v) Q := rd_putK h (by rw [enc_length]; exact hs) (by rw [show (Sum.inl i : Key) = kI i from rfl, enc_put kI_inj]; exact q)
theorem rd_putP (h : μ a = some (.dT (enc kP tp))) (hs : tp.length ≤ 1000000) (q : Q (put μ a (.dT (enc kP (putI tp (i, j) v))))) : PutD μ (.at a) (.tup [.int i, .int j]) (.int v) Q := rd_putT (k := kP (i, j)) h rfl (by rw [enc_length]; exact hs) (by rw [enc_put kP_inj]; exact q)
theorem rd_dropI (h : μ a = some (.dK (enc kI tb))) (hs : (getI tb i).isSome = true) (q : Q (put μ a (.dK (enc kI (dropI tb i))))) : DelD μ (.at a) (.int i) Q := rd_delK h (by rw [show (Sum.inl i : Key) = kI i from rfl, enc_at kI_inj, Option.isSome_map]; exact hs) (by rw [show (Sum.inl i : Key) = kI i from rfl, enc_drop kI_inj]; exact q)
theorem rd_dropP (h : μ a = some (.dT (enc kP tp))) (hs : (getI tp (i, j)).isSome = true) (q : Q (put μ a (.dT (enc kP (dropI tp (i, j)))))) : DelD μ (.at a) (.tup [.int i, .int j]) Q := rd_delT (k := kP (i, j)) h rfl (by rw [enc_at kP_inj, Option.isSome_map]; exact hs) (by rw [enc_drop kP_inj]; exact q)
theorem rd_dgetI (h : μ a = some (.dK (enc kI tb))) (hv : getI tb i = some v) (q : T (.int v)) : ∃ v, GetD μ (.at a) (.int i) (some v) ∧ T v := rd_dgetK (v := .int v) h (by rw [show (Sum.inl i : Key) = kI i from rfl, enc_at kI_inj, hv]; rfl) q
theorem rd_dgetP (h : μ a = some (.dT (enc kP tp))) (hv : getI tp (i, j) = some v) (q : T (.int v)) : ∃ v, GetD μ (.at a) (.tup [.int i, .int j]) (some v) ∧ T v := rd_dgetT (k := kP (i, j)) (v := .int v) h rfl (by rw [enc_at kP_inj, hv]; rfl) q
end
end Dl
namespace Dl
open PySem PySem.Spec PyProof.Rows L2
/-! ### pairs of whole numbers, sorted -/
abbrev Sp2 := Int × Int
/-! ### what a list of pairs reads as -/
/-! ### a table of counts, told one by one -/
/-- the counts tell the list S -/
structure Cnt (tb : Tb Sp2) (S : List Sp2) : Prop where
  nd : Nd tb
  nz : Nz tb
  val : ∀ s, valI tb s = (S.count s : Int)
theorem Cnt.nil : Cnt [] [] := ⟨List.nodup_nil, fun q hq => (by cases hq), fun s => by simp [valI, getI]⟩
theorem Cnt.add {tb : Tb Sp2} {S : List Sp2} (h : Cnt tb S) (s : Sp2) : Cnt (bump tb s 1) (S ++ [s]) := ⟨h.nd.bump s 1, h.nz.bump s 1, fun t => by
  rw [valI_bump, h.val, List.count_append, List.count_singleton]
  by_cases e : t = s
  · subst e
    simp
  · have e2 : ¬ s = t := fun z => e z.symm
    simp [e, e2]⟩
theorem Cnt.size {tb : Tb Sp2} {S : List Sp2} (h : Cnt tb S) : tb.length ≤ S.length := by
  have h1 : (tb.map (·.1)).length ≤ S.length := by
    have nd : (tb.map (·.1)).Nodup := h.nd
    have sub : ∀ s ∈ tb.map (·.1), s ∈ S := fun s hs => by
      obtain ⟨q, hq, rfl⟩ := List.mem_map.mp hs
      have g := getI_mem h.nd hq
      have v := h.val q.1
      unfold valI at v
      rw [g] at v
      simp at v
      have nz := h.nz q hq
      exact List.count_pos_iff.mp (by omega)
    exact List.Nodup.length_le_of_subset nd fun s hs => sub s hs
  rwa [List.length_map] at h1
theorem Cnt.get {tb : Tb Sp2} {S : List Sp2} (h : Cnt tb S) {s : Sp2} (hs : s ∈ tb.map (·.1)) : getI tb s = some (S.count s : Int) := by
  obtain ⟨q, hq, rfl⟩ := List.mem_map.mp hs
  have g := getI_mem h.nd hq
  have v := h.val q.1
  unfold valI at v
  rw [g] at v
  rw [g, ← v]
  rfl
/-! ### ends that rise and fall -/
def crossP (m : Int) (s : Sp2) : Bool := decide (s.1 ≤ m) && decide (m < s.2)
def riseOf (rs : Tb Int) (s : Sp2) : Tb Int := if s.1 < s.2 then bump (bump rs s.1 1) s.2 (-1) else rs
structure Rise (rs : Tb Int) (S : List Sp2) : Prop where
  nd : Nd rs
  nz : Nz rs
  sum : ∀ m, wsum (fun e => decide (e ≤ m)) rs = ((S.filter (crossP m)).length : Int)
  size : rs.length ≤ 2 * S.length
theorem Rise.nil : Rise [] [] := ⟨List.nodup_nil, fun q hq => (by cases hq), fun m => rfl, Nat.le_refl _⟩
theorem Rise.add {rs : Tb Int} {S : List Sp2} (h : Rise rs S) (s : Sp2) : Rise (riseOf rs s) (S ++ [s]) := by
  unfold riseOf
  split
  · rename_i hlt
    refine ⟨(h.nd.bump _ _).bump _ _, (h.nz.bump _ _).bump _ _, fun m => ?_, ?_⟩
    · rw [wsum_bump _ (h.nd.bump _ _), wsum_bump _ h.nd, h.sum, List.filter_append, List.length_append]
      by_cases c : crossP m s = true
      · rw [List.filter_cons_of_pos c]
        simp [crossP] at c ⊢
        omega
      · rw [List.filter_cons_of_neg c]
        simp [crossP] at c ⊢
        by_cases c1 : s.1 ≤ m
        · have := c c1
          simp [c1, this]
          omega
        · have : ¬ s.2 ≤ m := by omega
          simp [c1, this]
    · have a := bump_le (bump rs s.1 1) s.2 (-1)
      have b := bump_le rs s.1 1
      have := h.size
      simp
      omega
  · rename_i hlt
    refine ⟨h.nd, h.nz, fun m => ?_, ?_⟩
    · rw [h.sum, List.filter_append]
      have c : ¬ crossP m s = true := by simp [crossP]; omega
      rw [List.filter_cons_of_neg c]
      simp
    · have := h.size
      simp
      omega
end Dl
namespace Dl
open PySem PySem.Spec PyProof.Rows L2
/-! ### what repr shows -/
/-- p may be shown: its leaves are short, its weight is at most n, its depth at most k -/
structure Shw (p : PyData) (n k : Nat) : Prop where
  sh : p.showable = true
  ls : p.leavesShort 41 = true
  w : p.weight ≤ n
  dp : p.depth ≤ k
theorem Shw.int {i : Int} (h : i.natAbs < 10 ^ 40) : Shw (.int i) 134 1 := by
  have hlg : i.natAbs.log2 < 133 := by
    by_cases h0 : i.natAbs = 0
    · rw [h0]; decide
    · exact (Nat.log2_lt h0).mpr (by omega)
  refine ⟨?_, ?_, ?_, ?_⟩
  · simp only [PyData.showable, decide_eq_true_eq]
    omega
  · simp only [PyData.leavesShort, decide_eq_true_eq]
    show (Str.ofString (toString i)).length ≤ 41
    rw [PyProof.Rows.ofString_length]
    exact int_text_length_le10 (k := 40) (by decide) h
  · simp only [PyData.weight]
    split <;> omega
  · simp [PyData.depth]
theorem Shw.bool (b : Bool) : Shw (.bool b) 0 1 := ⟨rfl, rfl, Nat.le_refl _, by simp [PyData.depth]⟩
theorem Shw.none : Shw .none 0 1 := ⟨rfl, rfl, Nat.le_refl _, by simp [PyData.depth]⟩
theorem shw_all {n k : Nat} : ∀ {xs : List PyData}, (∀ x ∈ xs, Shw x n k) → PyData.showableAll xs = true ∧ PyData.leavesShortAll 41 xs = true ∧ PyData.weightAll xs ≤ (n + 1) * xs.length ∧ PyData.depthAll xs ≤ k
  | [], _ => ⟨rfl, rfl, Nat.zero_le _, Nat.zero_le _⟩
  | x :: xs, h => by
    obtain ⟨a, b, c, d⟩ := shw_all (xs := xs) fun y hy => h y (List.mem_cons_of_mem _ hy)
    have hx := h x List.mem_cons_self
    refine ⟨?_, ?_, ?_, ?_⟩
    · simp only [PyData.showableAll, hx.sh, a, Bool.and_self]
    · simp only [PyData.leavesShortAll, hx.ls, b, Bool.and_self]
    · simp only [PyData.weightAll, List.length_cons]
      have := hx.w
      rw [Nat.mul_add]
      omega
    · rw [PyData.depthAll]
      exact Nat.max_le.mpr ⟨hx.dp, d⟩
theorem Shw.list {n k : Nat} {xs : List PyData} (h : ∀ x ∈ xs, Shw x n k) : Shw (.list xs) ((n + 1) * xs.length) (k + 1) := by
  obtain ⟨a, b, c, d⟩ := shw_all h
  exact ⟨a, b, c, by rw [PyData.depth]; omega⟩
theorem Shw.tuple {n k : Nat} {xs : List PyData} (h : ∀ x ∈ xs, Shw x n k) : Shw (.tuple xs) ((n + 1) * xs.length) (k + 1) := by
  obtain ⟨a, b, c, d⟩ := shw_all h
  exact ⟨a, b, c, by rw [PyData.depth]; omega⟩
theorem Shw.mono {p : PyData} {n k n' k' : Nat} (h : Shw p n k) (hn : n ≤ n') (hk : k ≤ k') : Shw p n' k' := ⟨h.sh, h.ls, Nat.le_trans h.w hn, Nat.le_trans h.dp hk⟩
section
variable {μ : Mu} {Q : DQ} {d : D} {l : Addr} {i : Int}
theorem rd_repr {p : PyData} {n k : Nat} (r : Rs μ d p) (s : Shw p n k) (hk : k ≤ 60) (hn : n ≤ 380000) (q : Q (.str p.shown) μ) : fRepr [d] μ Q := by
  refine ⟨d, p, rfl, r, s.sh, Nat.le_trans s.dp hk, ?_, q⟩
  have h := PyData.shown_le 41 (by decide) p s.ls
  have h2 : (41 + 2) * p.weight ≤ 43 * 380000 := Nat.mul_le_mul (by omega) (Nat.le_trans s.w hn)
  rw [sizeLine_eq]
  omega
theorem rd_reprI (h : i.natAbs < 10 ^ 40) (q : Q (.str (PyData.int i).shown) μ) : fRepr [.int i] μ Q := rd_repr (.int i) (.int h) (by decide) (by decide) q
theorem rd_rg {m : Bool} {n : Int} {ρ : Rho} (h : 0 ≤ n ∧ n ≤ 1000000) (q : New m ((List.range n.toNat).map fun i : Nat => .int i) μ Q) : wLstRg m (wC (.int n)) ρ μ Q := ⟨h.1, h.2, q⟩
end
theorem map_get {α β : Type} {f : α → β} {xs : List α} {i : Nat} {d : β} (h : (xs.map f)[i]? = some d) : ∃ x, x ∈ xs ∧ xs[i]? = some x ∧ d = f x := by
  rw [List.getElem?_map] at h
  cases e : xs[i]? with
  | none => rw [e] at h; cases h
  | some x =>
    rw [e] at h
    cases h
    exact ⟨x, List.mem_of_getElem? e, rfl, rfl⟩
end Dl
namespace Dl
open PySem PySem.Spec PyProof.Rows L2
variable {B : Bs}
/-- a mid condition behind a statement -/
def wCut (a b : WS) : WS := fun DD ρ μ => ∃ M : Rho → Mu → Prop, a { nx := M, rt := DD.rt, bk := DD.bk, ct := DD.ct } ρ μ ∧ ∀ ρ' μ', M ρ' μ' → b DD ρ' μ'
theorem jss_cut {X : Cx} {st : Stmt} {rest : List Stmt} {a b : WS} (h1 : JS B X st a) (h2 : JSs B X rest b) : JSs B X (st :: rest) (wCut a b) := PSs.of (pss_cons h1 h2) fun E σ H ⟨ρ, μ, DD, rs, m, ⟨M, h, k⟩, l⟩ =>
  ⟨ρ, μ, _, rs, m, h, ⟨fun σ' H' ρ' μ' s r m' q => ⟨ρ', μ', DD, r, m', k _ _ q, l.step s⟩, l.rt, l.bk, l.ct⟩⟩
theorem wCut_eq {a b : WS} {DD : Ed} {ρ : Rho} {μ : Mu} : wCut a b DD ρ μ = ∃ M : Rho → Mu → Prop, a { nx := M, rt := DD.rt, bk := DD.bk, ct := DD.ct } ρ μ ∧ ∀ ρ' μ', M ρ' μ' → b DD ρ' μ' := rfl
theorem CalD.fn {P : Program} {w : World} {K : Frg} {mg : Str → Option Value} {base : Heap} {k : Nat} {x : Str} {st : Stmt} {ps : List Str} {sp : SpD} {f : Addr} {fd : FuncData} {oc : Value} {od : Option Addr} {sl : Array (Option Value)} (c : CalD P w K mg base k x st ps sp) (e : mg x = some (.ref f))
    (l : K.lookup f = some ⟨oc, od, .func fd, sl⟩) : FnG P w K mg base k f fd ps sp := by
  obtain ⟨f', fd', F, ⟨⟨oc', od', kV, doc, pm, an, cdv, ct, osl, e1, lk, _⟩, _⟩, e2⟩ := c.ex
  rw [e] at e2
  cases e2
  rw [l] at lk
  cases lk
  exact F
end Dl
namespace Dl
open PySem PySem.Spec PyProof.Rows L2
variable {B : Bs}
/-! ### name += e of whole numbers -/
def wAug (i : Nat) (g : Int → Int → Int) (a : WE) : WS := fun DD ρ μ => ∃ x, ρ[i]? = some (some (.int x)) ∧ a ρ μ fun d μ1 => ∃ y, d = .int y ∧ DD.nx (ρ.set i (some (.int (g x y)))) μ1
theorem rd_aug {R : Int → Prop} {ρ : Rho} {i : Nat} {x : Int} (h : ρ[i]? = some (some (.int x))) (q : R x) : ∃ x, ρ[i]? = some (some (.int x)) ∧ R x := ⟨x, h, q⟩
theorem rd_isInt {R : Int → Prop} {x : Int} (q : R x) : ∃ y, D.int x = .int y ∧ R y := ⟨x, rfl, q⟩
/-! ### sorted(d), whole numbers as keys; sorted(a list of whole numbers) -/
def leI (a b : Int) : Bool := decide (a ≤ b)
def sortI (ns : List Int) : List Int := ns.mergeSort leI
theorem sortI_pw (S : List Int) : (sortI S).Pairwise fun a b => a ≤ b := (List.pairwise_mergeSort (le := leI) (fun a b c h g => by simp [leI] at *; omega) (fun a b => by simp [leI]; omega) S).imp fun h => by simpa [leI] using h
theorem sortI_perm (S : List Int) : (sortI S).Perm S := List.mergeSort_perm S leI
theorem sort_int (S : List Int) : (S.map D.int).mergeSort (PySem.W.dataLe false pyD) = (sortI S).map .int := by
  unfold sortI
  have h := PySem.W.dataLe_int (β := Int) fun s => s
  rw [← List.map_mergeSort (r := leI) (s := PySem.W.dataLe false pyD) (f := D.int) fun a _ b _ => ?_]
  have e : PySem.W.dataLe false pyD (.int a) (.int b) = PySem.W.dataLe false (fun b : Int => PyData.int b) a b := rfl
  rw [e, h]
  rfl
theorem rd_sortedInts {m : Bool} {μ : Mu} {Q : DQ} {ns : List Int} (hl : ns.length ≤ 1000000) (q : New m ((sortI ns).map .int) μ Q) : fSorted m [.lst (ns.map .int)] μ Q := by
  refine ⟨.lst (ns.map .int), ns.map .int, rfl, rfl, fun x hx => ?_, fun d hd d' hd' => ?_, .inr fun d hd => ?_, by rw [List.length_map]; exact hl, ?_⟩
  · obtain ⟨s, _, rfl⟩ := List.mem_map.mp hx
    exact ⟨.int s, by simp [pyD, PyData.depth]⟩
  · simp only [List.map_map, List.mem_map, Function.comp] at hd hd'
    obtain ⟨s, _, rfl⟩ := hd
    obtain ⟨s', _, rfl⟩ := hd'
    rfl
  · simp only [List.map_map, List.mem_map, Function.comp] at hd
    obtain ⟨s, _, rfl⟩ := hd
    exact ⟨by simp [pyD], fun xs => by simp [pyD]⟩
  · rw [sort_int]
    exact q
/-! ### comprehensions with a drawn item a turn -/
theorem lc_any {g : WG} {t : WT} {a : WE} {vs : List Nat} {ρ : Rho} {Q : DQ} {ds : List D} {kp : Mu → Prop} {μ1 : Mu} {α : Type} (f : α → D) (ok : α → Prop) (sz : ds.length ≤ 1000000) (hk : ∀ L acc, μ1 L = none → kp (put μ1 L (.lst acc)))
    (hs : ∀ d ∈ ds, ∀ L acc (K1 : DQ) (K2 : Mu → Prop), μ1 L = none → (∀ x, ok x → K1 (f x) (put μ1 L (.lst acc))) → g d (wipeD ρ vs) (put μ1 L (.lst acc)) fun ρ2 μ2 => t ρ2 μ2 fun b μ3 => Br b (a ρ2 μ3 K1) (K2 μ3))
    (hd : ∀ S : List α, S.length = ds.length → (∀ x ∈ S, ok x) → Q (.lst (S.map f)) μ1) : LcB g t a vs ρ Q ds kp μ1 := by
  refine lc_by (fun i acc => ∃ S : List α, acc = S.map f ∧ S.length = i ∧ ∀ x ∈ S, ok x) sz ⟨[], rfl, rfl, fun x hx => by cases hx⟩ hk (fun acc _ ⟨S, e, hl, ho⟩ => by
    rw [e]
    exact hd S hl ho) fun L i d acc hL la hi ⟨S, e, hl, ho⟩ => ?_
  subst e
  refine hs d (List.mem_of_getElem? hi) L _ _ _ hL fun x hx => lc_more la ⟨S ++ [x], by rw [List.map_append]; rfl, by simp [hl], fun y hy => ?_⟩
  rcases List.mem_append.mp hy with hy | hy
  · exact ho y hy
  · simp at hy
    rw [hy]
    exact hx
end Dl
namespace Dl
open PySem PySem.Spec PyProof.Rows L2
/-! ### spans taken out -/
theorem Cnt.del {tb : Tb Sp2} {S S' : List Sp2} {s : Sp2} (h : Cnt tb S) (p : S.Perm (s :: S')) : Cnt (bump tb s (-1)) S' := ⟨h.nd.bump s _, h.nz.bump s _, fun t => by
  rw [valI_bump, h.val, p.count_eq t, List.count_cons]
  by_cases e : t = s
  · subst e
    simp
    omega
  · have e2 : ¬ s = t := fun z => e z.symm
    simp [e, e2]⟩
def riseOff (rs : Tb Int) (s : Sp2) : Tb Int := if s.1 < s.2 then bump (bump rs s.1 (-1)) s.2 (- -1) else rs
/-- how many cross the level m -/
def cr (S : List Sp2) (m : Int) : Nat := (S.filter (crossP m)).length
theorem cr_perm {S T : List Sp2} (p : S.Perm T) (m : Int) : cr S m = cr T m := (p.filter _).length_eq
theorem cr_cons (s : Sp2) (S : List Sp2) (m : Int) : cr (s :: S) m = (if s.1 ≤ m ∧ m < s.2 then 1 else 0) + cr S m := by
  unfold cr
  by_cases c : crossP m s = true
  · rw [List.filter_cons_of_pos c]
    simp [crossP] at c
    rw [if_pos c]
    simp
    omega
  · rw [List.filter_cons_of_neg c]
    simp [crossP] at c
    rw [if_neg (by omega)]
    omega
/-- the sums alone (a table that shrinks may be long) -/
structure RiseS (rs : Tb Int) (S : List Sp2) : Prop where
  nd : Nd rs
  nz : Nz rs
  sum : ∀ m, wsum (fun e => decide (e ≤ m)) rs = (cr S m : Int)
theorem Rise.s {rs : Tb Int} {S : List Sp2} (h : Rise rs S) : RiseS rs S := ⟨h.nd, h.nz, h.sum⟩
theorem RiseS.nil : RiseS [] [] := Rise.nil.s
theorem RiseS.add {rs : Tb Int} {S : List Sp2} (h : RiseS rs S) (s : Sp2) : RiseS (riseOf rs s) (S ++ [s]) := by
  have pm : (S ++ [s]).Perm (s :: S) := List.perm_append_comm
  unfold riseOf
  split
  · rename_i hlt
    refine ⟨(h.nd.bump _ _).bump _ _, (h.nz.bump _ _).bump _ _, fun m => ?_⟩
    rw [wsum_bump _ (h.nd.bump _ _), wsum_bump _ h.nd, h.sum, cr_perm pm, cr_cons]
    simp only [decide_eq_true_eq]
    split <;> split <;> split <;> omega
  · rename_i hlt
    refine ⟨h.nd, h.nz, fun m => ?_⟩
    rw [h.sum, cr_perm pm, cr_cons, if_neg (by omega)]
    omega
theorem RiseS.del {rs : Tb Int} {S S' : List Sp2} {s : Sp2} (h : RiseS rs S) (p : S.Perm (s :: S')) : RiseS (riseOff rs s) S' := by
  unfold riseOff
  split
  · rename_i hlt
    refine ⟨(h.nd.bump _ _).bump _ _, (h.nz.bump _ _).bump _ _, fun m => ?_⟩
    rw [wsum_bump _ (h.nd.bump _ _), wsum_bump _ h.nd, h.sum, cr_perm p, cr_cons]
    simp only [decide_eq_true_eq]
    split <;> split <;> split <;> omega
  · rename_i hlt
    refine ⟨h.nd, h.nz, fun m => ?_⟩
    rw [h.sum, cr_perm p, cr_cons, if_neg (by omega)]
    omega
/-- a level holds a sum: every key of the table is an end of a span -/
theorem RiseS.key {rs : Tb Int} {S : List Sp2} (h : RiseS rs S) {q : Int × Int} (hq : q ∈ rs) : ∃ s ∈ S, s.1 = q.1 ∨ s.2 = q.1 := by
  have step : wsum (fun e => decide (e ≤ q.1)) rs = wsum (fun e => decide (e ≤ q.1 - 1)) rs + q.2 := by
    have gen : ∀ {tb : Tb Int}, Nd tb → q ∈ tb → wsum (fun e => decide (e ≤ q.1)) tb = wsum (fun e => decide (e ≤ q.1 - 1)) tb + q.2 := by
      intro tb
      induction tb with
      | nil => intro _ z; cases z
      | cons r tb ih =>
        intro nd hq
        unfold Nd at nd
        rw [List.map_cons, List.nodup_cons] at nd
        rw [wsum_cons, wsum_cons]
        simp only [decide_eq_true_eq]
        rcases List.mem_cons.mp hq with e | hq
        · subst e
          have same : ∀ {tb : Tb Int}, (∀ r ∈ tb, r.1 ≠ q.1) → wsum (fun e => decide (e ≤ q.1)) tb = wsum (fun e => decide (e ≤ q.1 - 1)) tb := by
            intro tb
            induction tb with
            | nil => intro _; rfl
            | cons r tb ih2 =>
              intro hr
              rw [wsum_cons, wsum_cons, ih2 fun x hx => hr x (List.mem_cons_of_mem _ hx)]
              have := hr r List.mem_cons_self
              simp only [decide_eq_true_eq]
              split <;> split <;> omega
          rw [same fun r hr z => nd.1 (by rw [← z]; exact List.mem_map_of_mem hr)]
          rw [if_pos (Int.le_refl _), if_neg (by omega)]
          omega
        · have ne : r.1 ≠ q.1 := fun z => nd.1 (by rw [z]; exact List.mem_map_of_mem hq)
          rw [ih nd.2 hq]
          split <;> split <;> omega
    exact gen h.nd hq
  rw [h.sum, h.sum] at step
  have hz := h.nz q hq
  have ne : cr S q.1 ≠ cr S (q.1 - 1) := by omega
  clear step hz
  induction S with
  | nil => exact absurd rfl ne
  | cons s S ih => 
    by_cases c : s.1 = q.1 ∨ s.2 = q.1
    · exact ⟨s, List.mem_cons_self, c⟩
    · rw [cr_cons, cr_cons] at ne
      have : (if s.1 ≤ q.1 ∧ q.1 < s.2 then 1 else 0) = (if s.1 ≤ q.1 - 1 ∧ q.1 - 1 < s.2 then 1 else 0) := by
        split <;> split <;> omega
      have ne2 : cr S q.1 ≠ cr S (q.1 - 1) := fun z => ne (by rw [this, z])
      have ih2 : ∀ (h : True), ∃ s ∈ S, s.1 = q.1 ∨ s.2 = q.1 := fun _ => by
        clear ih
        have gen : ∀ {T : List Sp2}, cr T q.1 ≠ cr T (q.1 - 1) → ∃ s ∈ T, s.1 = q.1 ∨ s.2 = q.1 := by
          intro T
          induction T with
          | nil => intro z; exact absurd rfl z
          | cons s T ih =>
            intro z
            by_cases c : s.1 = q.1 ∨ s.2 = q.1
            · exact ⟨s, List.mem_cons_self, c⟩
            · rw [cr_cons, cr_cons] at z
              have : (if s.1 ≤ q.1 ∧ q.1 < s.2 then 1 else 0) = (if s.1 ≤ q.1 - 1 ∧ q.1 - 1 < s.2 then 1 else 0) := by
                split <;> split <;> omega
              obtain ⟨t, ht, e⟩ := ih fun y => z (by rw [this, y])
              exact ⟨t, List.mem_cons_of_mem _ ht, e⟩
        exact gen ne2
      obtain ⟨t, ht, e⟩ := ih2 trivial
      exact ⟨t, List.mem_cons_of_mem _ ht, e⟩
/-- b is the least level from 0 on that none crosses -/
structure Bare (S : List Sp2) (b : Int) : Prop where
  nn : 0 ≤ b
  at_ : cr S b = 0
  below : ∀ m, 0 ≤ m → m < b → 0 < cr S m
end Dl
namespace Dl
open PySem PySem.Spec PyProof.Rows L2
/-! the walk over the sorted ends -/
theorem wsum_all_le {tb : Tb Int} {m : Int} (p : ∀ q ∈ tb, q.1 ≤ m) : wsum (fun e => decide (e ≤ m)) tb = (tb.map (·.2)).sum := by
  induction tb with
  | nil => rfl
  | cons q tb ih =>
    rw [wsum_cons, ih fun r hr => p r (List.mem_cons_of_mem _ hr), List.map_cons, List.sum_cons]
    have := p q List.mem_cons_self
    simp [this]
theorem wsum_congr {tb : Tb Int} {f g : Int → Bool} (p : ∀ q ∈ tb, f q.1 = g q.1) : wsum f tb = wsum g tb := by
  induction tb with
  | nil => rfl
  | cons q tb ih => rw [wsum_cons, wsum_cons, ih fun r hr => p r (List.mem_cons_of_mem _ hr), p q List.mem_cons_self]
theorem wsum_one {tb : Tb Int} (nd : Nd tb) {e v : Int} (h : getI tb e = some v) : wsum (fun x => decide (x = e)) tb = v := by
  induction tb with
  | nil => simp [getI] at h
  | cons q tb ih =>
    unfold Nd at nd
    rw [List.map_cons, List.nodup_cons] at nd
    rw [wsum_cons]
    by_cases c : q.1 = e
    · have z : wsum (fun x => decide (x = e)) tb = 0 := by
        rw [wsum_congr (g := fun _ => false) fun r hr => by
          have : r.1 ≠ e := fun y => nd.1 (by rw [c, ← y]; exact List.mem_map_of_mem hr)
          simp [this]]
        clear ih nd h
        induction tb with
        | nil => rfl
        | cons r tb ih => rw [wsum_cons, ih]; simp
      simp [getI, c] at h
      simp [c, z, h]
    · have h2 : getI tb e = some v := by
        simp only [getI, List.find?_cons, c, decide_false] at h ⊢
        exact h
      rw [ih nd.2 h2]
      simp [c]
theorem wsum_or {tb : Tb Int} {f g : Int → Bool} (p : ∀ q ∈ tb, ¬ (f q.1 = true ∧ g q.1 = true)) : wsum (fun x => f x || g x) tb = wsum f tb + wsum g tb := by
  induction tb with
  | nil => rfl
  | cons q tb ih =>
    rw [wsum_cons, wsum_cons, wsum_cons, ih fun r hr => p r (List.mem_cons_of_mem _ hr)]
    have := p q List.mem_cons_self
    cases h1 : f q.1 <;> cases h2 : g q.1 <;> simp_all <;> omega
theorem big_of (S : List Sp2) (rs : Tb Int) : ∃ M : Int, (∀ s ∈ S, s.2 ≤ M) ∧ ∀ q ∈ rs, q.1 ≤ M := by
  have h1 : ∃ M : Int, ∀ s ∈ S, s.2 ≤ M := by
    induction S with
    | nil => exact ⟨0, fun s hs => by cases hs⟩
    | cons s S ih =>
      obtain ⟨M, h⟩ := ih
      refine ⟨if M ≤ s.2 then s.2 else M, fun t ht => ?_⟩
      rcases List.mem_cons.mp ht with rfl | ht
      · split <;> omega
      · have := h t ht
        split <;> omega
  have h2 : ∃ M : Int, ∀ q ∈ rs, q.1 ≤ M := by
    induction rs with
    | nil => exact ⟨0, fun s hs => by cases hs⟩
    | cons s S ih =>
      obtain ⟨M, h⟩ := ih
      refine ⟨if M ≤ s.1 then s.1 else M, fun t ht => ?_⟩
      rcases List.mem_cons.mp ht with rfl | ht
      · split <;> omega
      · have := h t ht
        split <;> omega
  obtain ⟨M, a⟩ := h1
  obtain ⟨N, b⟩ := h2
  refine ⟨if M ≤ N then N else M, fun s hs => ?_, fun q hq => ?_⟩
  · have := a s hs
    split <;> omega
  · have := b q hq
    split <;> omega
theorem RiseS.total {rs : Tb Int} {S : List Sp2} (h : RiseS rs S) : (rs.map (·.2)).sum = 0 := by
  obtain ⟨M, h1, h2⟩ := big_of S rs
  rw [← wsum_all_le h2, h.sum]
  have : cr S M = 0 := by
    unfold cr
    rw [List.length_eq_zero_iff, List.filter_eq_nil_iff]
    intro s hs
    have := h1 s hs
    simp [crossP]
    omega
  omega
/-- what stands when i keys have been seen -/
structure Seen (rs : Tb Int) (S : List Sp2) (ys : List Int) (i : Nat) (many bare : Int) : Prop where
  nn : 0 ≤ bare
  at_ : many = wsum (fun e => decide (e ∈ ys.take i)) rs
  hi : ∀ e ∈ ys.take i, e ≤ bare
  top : i = 0 ∧ bare = 0 ∨ bare ∈ ys.take i
  below : ∀ m, 0 ≤ m → m < bare → 0 < cr S m
section
variable {rs : Tb Int} {S : List Sp2} {ys : List Int}
theorem split_sorted (hw : ys.Pairwise (· ≤ ·)) (nd : ys.Nodup) {i : Nat} {e : Int} (h : ys[i]? = some e) : (∀ x ∈ ys.take i, x < e) ∧ ∀ x ∈ ys, x ∉ ys.take i → e ≤ x := by
  have hi := (List.getElem?_eq_some_iff.mp h).1
  have he := (List.getElem?_eq_some_iff.mp h).2
  rw [List.pairwise_iff_getElem] at hw
  refine ⟨fun x hx => ?_, fun x hx hn => ?_⟩
  · obtain ⟨j, hj, rfl⟩ := List.mem_iff_getElem.mp hx
    rw [List.length_take] at hj
    rw [List.getElem_take]
    have h1 := hw j i (by omega) hi (by omega)
    have h2 : ys[j] ≠ ys[i] := (List.pairwise_iff_getElem.mp nd) j i (by omega) hi (by omega)
    rw [he] at h1 h2
    omega
  · obtain ⟨j, hj, rfl⟩ := List.mem_iff_getElem.mp hx
    by_cases c : j < i
    · exact absurd (List.mem_iff_getElem.mpr ⟨j, by rw [List.length_take]; omega, by rw [List.getElem_take]⟩) hn
    · by_cases c2 : i = j
      · subst c2
        rw [he]
        exact Int.le_refl _
      · have := hw i j hi hj (by omega)
        rw [he] at this
        exact this
variable (hR : RiseS rs S) (hp : ys.Perm (rs.map (·.1))) (hw : ys.Pairwise (· ≤ ·)) (hk : ∀ e ∈ rs.map (·.1), 0 ≤ e)
include hR hp hw hk
theorem Seen.start : Seen rs S ys 0 0 0 := ⟨Int.le_refl _, by
  rw [List.take_zero]
  exact (by
    have : wsum (fun e => decide (e ∈ ([] : List Int))) rs = 0 := by
      clear hR hp hk
      induction rs with
      | nil => rfl
      | cons q tb ih => rw [wsum_cons, ih]; simp
    exact this.symm), fun e he => by simp at he, .inl ⟨rfl, rfl⟩, fun m a b => by omega⟩
theorem ys_nd : ys.Nodup := hp.nodup_iff.mpr hR.nd
/-- between the last key seen and the next one the sum is the crossing -/
theorem Seen.cross {i : Nat} {many bare e : Int} (s : Seen rs S ys i many bare) (h : ys[i]? = some e) {m : Int} (m0 : bare ≤ m) (m1 : m < e) : (cr S m : Int) = many := by
  obtain ⟨a, b⟩ := split_sorted hw (ys_nd hR hp hw hk) h
  rw [← hR.sum, s.at_]
  refine wsum_congr fun q hq => ?_
  have mem : q.1 ∈ ys := hp.mem_iff.mpr (List.mem_map_of_mem hq)
  by_cases c : q.1 ∈ ys.take i
  · have := s.hi _ c
    have : q.1 ≤ m := by omega
    simp [c, this]
  · have := b _ mem c
    have : ¬ q.1 ≤ m := by omega
    simp [c, this]
theorem Seen.next {i : Nat} {many bare e v : Int} (s : Seen rs S ys i many bare) (h : ys[i]? = some e) (hv : getI rs e = some v) (z : ¬ (many = 0 ∧ bare < e)) : Seen rs S ys (i + 1) (many + v) e := by
  obtain ⟨a, b⟩ := split_sorted hw (ys_nd hR hp hw hk) h
  have ht : ys.take (i + 1) = ys.take i ++ [e] := take_succ_get h
  have e0 : 0 ≤ e := hk e (hp.mem_iff.mp (List.mem_of_getElem? h))
  refine ⟨e0, ?_, fun x hx => ?_, .inr (by rw [ht]; simp), fun m m0 m1 => ?_⟩
  · rw [s.at_, ← wsum_one hR.nd hv, ← wsum_or fun q hq => ?_]
    · refine wsum_congr fun q hq => ?_
      rw [ht]
      simp
    · intro ⟨c1, c2⟩
      simp at c1 c2
      have := a _ c1
      omega
  · rw [ht] at hx
    rcases List.mem_append.mp hx with hx | hx
    · have := a x hx
      omega
    · simp at hx
      omega
  · by_cases c : m < bare
    · exact s.below m m0 c
    · have c2 := s.cross hR hp hw hk h (m := m) (by omega) m1
      have : many ≠ 0 := fun y => z ⟨y, by omega⟩
      omega
theorem Seen.last {many bare : Int} (s : Seen rs S ys ys.length many bare) : Bare S bare := by
  refine ⟨s.nn, ?_, s.below⟩
  have h1 : (cr S bare : Int) = 0 := by
    rw [← hR.sum, ← hR.total]
    refine wsum_all_le fun q hq => ?_
    have mem : q.1 ∈ ys := hp.mem_iff.mpr (List.mem_map_of_mem hq)
    have := s.hi q.1 (by rw [List.take_length]; exact mem)
    exact this
  omega
end
end Dl
namespace Dl
open PySem PySem.Spec PyProof.Rows L2
/-- a comprehension without a test -/
theorem lc_map {α : Type} {g : WG} {t : WT} {a : WE} {vs : List Nat} {ρ : Rho} {Q : DQ} {kp : Mu → Prop} {μ1 : Mu} {f h : α → D} {xs : List α} (sz : xs.length ≤ 1000000) (hk : ∀ L acc, μ1 L = none → kp (put μ1 L (.lst acc)))
    (hs : ∀ x ∈ xs, ∀ L acc (K1 : DQ) (K2 : Mu → Prop), μ1 L = none → K1 (h x) (put μ1 L (.lst acc)) → g (f x) (wipeD ρ vs) (put μ1 L (.lst acc)) fun ρ2 μ2 => t ρ2 μ2 fun b μ3 => Br b (a ρ2 μ3 K1) (K2 μ3))
    (hd : Q (.lst (xs.map h)) μ1) : LcB g t a vs ρ Q (xs.map f) kp μ1 :=
  lc_pure (p := fun _ => true) sz hk (fun x hx L acc K1 K2 hL k1 _ => hs x hx L acc K1 K2 hL (k1 rfl)) (by rw [List.filter_eq_self.mpr fun _ _ => rfl]; exact hd)
end Dl
namespace Dl
open PySem PySem.Spec PyProof.Rows L2
theorem RiseS.size {rs : Tb Int} {S : List Sp2} (h : RiseS rs S) : rs.length ≤ 2 * S.length := by
  have h1 : (rs.map (·.1)).length ≤ (S.map (·.1) ++ S.map (·.2)).length := by
    refine List.Nodup.length_le_of_subset h.nd fun e he => ?_
    obtain ⟨q, hq, rfl⟩ := List.mem_map.mp he
    obtain ⟨s, hs, e⟩ := h.key hq
    rcases e with e | e
    · exact List.mem_append.mpr (.inl (by rw [← e]; exact List.mem_map_of_mem hs))
    · exact List.mem_append.mpr (.inr (by rw [← e]; exact List.mem_map_of_mem hs))
  simp at h1
  omega
/-- a part of a list, as a slice takes it -/
def cutL {α : Type} (xs : List α) (lo hi : Option Int) : List α := (xs.drop (HT.sIx xs.length 0 lo)).take (HT.sIx xs.length xs.length hi - HT.sIx xs.length 0 lo)
theorem cut_map {α : Type} (f : α → D) (xs : List α) (lo hi : Option Int) : cutD (xs.map f) lo hi = (cutL xs lo hi).map f := by
  unfold cutD cutL
  rw [List.length_map, ← List.map_drop, ← List.map_take]
section
variable {μ : Mu} {l : Addr} {xs : List D} {i : Int} {y : D} {Q : DQ}
theorem atI_zero {α : Type} (x : α) (l : List α) : atI (x :: l) 0 = some x := by
  unfold atI ixN
  simp
theorem map_erase {α β : Type} (f : α → β) : ∀ (S : List α) (i : Nat), (S.map f).eraseIdx i = (S.eraseIdx i).map f
  | [], _ => rfl
  | _ :: _, 0 => rfl
  | x :: S, i + 1 => by
    rw [List.map_cons, List.eraseIdx_cons_succ, List.eraseIdx_cons_succ, List.map_cons, map_erase f S i]
theorem perm_erase {α : Type} : ∀ {S : List α} {i : Nat} (h : i < S.length), S.Perm (S[i] :: S.eraseIdx i)
  | _ :: _, 0, _ => .refl _
  | x :: S, i + 1, h => by
    rw [List.eraseIdx_cons_succ, List.getElem_cons_succ]
    exact (List.Perm.cons x (perm_erase (S := S) (i := i) (Nat.lt_of_succ_lt_succ h))).trans (.swap _ _ _)
theorem rd_pop {α : Type} {f : α → D} {S : List α} (h : μ l = some (.lst (S.map f))) (h0 : 0 ≤ i) (h1 : i < S.length) (h2 : S.length ≤ 1000000) (q : ∀ x S', S.Perm (x :: S') → S'.length + 1 = S.length → Q (f x) (put μ l (.lst (S'.map f)))) : fPopAt (.at l) [.int i] μ Q := by
  have hlt : i.toNat < S.length := by omega
  refine ⟨l, S.map f, i, i.toNat, f S[i.toNat], rfl, rfl, h, h0, by omega, by omega, ?_, ?_⟩
  · rw [List.getElem?_map, List.getElem?_eq_getElem hlt]
    rfl
  · have e : (S.map f).eraseIdx i.toNat = (S.eraseIdx i.toNat).map f := map_erase f S _
    rw [e]
    refine q _ _ ?_ ?_
    · exact perm_erase hlt
    · rw [List.length_eraseIdx_of_lt hlt]
      omega
end
end Dl
namespace Dl
open PySem PySem.Spec PyProof.Rows L2
end Dl
namespace Dl
open PySem PySem.Spec PyProof.Rows L2
/-! ### == by the text's own __eq__ -/
end Dl
namespace Dl
open PySem PySem.W PySem.Calls PyProof.Rows Builtin
end Dl
namespace Dl
open PySem PySem.Spec PyProof.Rows L2
end Dl
namespace Dl
open PySem PySem.Spec PyProof.Rows L2
end Dl
namespace Dl
open PySem PySem.W PySem.Calls PyProof.Rows PyProof.V PySem.Spec
end Dl
namespace Dl
open PySem PySem.Spec PyProof.Rows L2
variable {B : Bs}
/-! ### tables of counts compared; isinstance and == of an own class; a list turned about; tuple(a list) -/
/-- xs[::-1] -/
def wRev (mm : Bool) (o : WE) : WE := fun ρ μ Q => o ρ μ fun d μ1 => ∃ xs, Lr μ1 d xs ∧ New mm xs.reverse μ1 Q
theorem je_rev (mm : Bool) {X : Cx} {o : Expr} {wo : WE} {j : Nat} {p1 p2 p3 pos : Pos} (he : JE B X o wo) : JE B X (.Subscript o (.Slice none none (some (.UnaryOp .USub (.Constant (.int 1) j p1) p2)) p3) pos) (wRev mm wo) := PE.of (pe_revL he) fun σ H Q ⟨ρ, μ, QD, rs, m, h, k⟩ =>
  up_mk rs m h fun v H1 d μ1 s1 m1 v1 ⟨xs, hl, q⟩ => by
    obtain ⟨a, vs, e, f, g⟩ := hl.to m1 v1
    exact ⟨a, vs, e, .inl f, fun p hp => k _ _ ((lft_new m1 g.reverse hp q).trans s1)⟩
/-- tuple(xs) -/
def wTupOf (o : WE) : WE := fun ρ μ Q => o ρ μ fun d μ1 => ∃ xs, Lr μ1 d xs ∧ Q (.tup xs) μ1
theorem je_tupOf {X : Cx} {o : Expr} {wo : WE} {p pos : Pos} (hm : X.mg "tuple" = none) (he : JE B X o wo) (hg : Gl X "tuple" := by rfl) (na : starEach [o] X.env = (false, eval o X.env) :: starEach [] X.env := by rfl) : JE B X (.Call (.Name "tuple" p) [o] [] pos) (wTupOf wo) := PE.of (pe_tupleOf hg hm he na) fun σ H Q ⟨ρ, μ, QD, rs, m, h, k⟩ =>
  up_mk rs m h fun v H1 d μ1 s1 m1 v1 ⟨xs, hl, q⟩ => by
    obtain ⟨a, vs, e, f, g⟩ := hl.to m1 v1
    exact .inl ⟨a, vs, e, .inl f, fun p hp => k _ _ ((lft_tup m1 g hp q).trans s1)⟩
end Dl
namespace Dl
open PySem PySem.Spec PyProof.Rows L2
variable {B : Bs}
/-- the built-in types of data, none of which stands under the class C -/
def dataTys : List String := ["NoneType", "bool", "int", "str", "list", "tuple", "dict"]
end Dl
namespace Dl
open PySem PySem.Spec PyProof.Rows L2
variable {B : Bs}
/-- a comprehension whose turns change what stands: U tells it by a state -/
theorem lc_st {σ : Type} {g : WG} {t : WT} {a : WE} {vs : List Nat} {ρ : Rho} {Q : DQ} {ds : List D} {kp : Mu → Prop} {μ1 : Mu} (U : σ → Mu) (R : Nat → σ → List D → Prop) (s0 : σ) (sz : ds.length ≤ 1000000) (e0 : U s0 = μ1) (h0 : R 0 s0 []) (hU : ∀ s L, μ1 L = none → U s L = none)
    (hk : ∀ i s L acc, i ≤ ds.length → μ1 L = none → R i s acc → kp (put (U s) L (.lst acc))) (hd : ∀ s acc, acc.length ≤ ds.length → R ds.length s acc → Q (.lst acc) (U s))
    (hs : ∀ L i d s acc (K1 : DQ) (K2 : Mu → Prop), μ1 L = none → acc.length ≤ i → ds[i]? = some d → R i s acc → (∀ e s', R (i + 1) s' (acc ++ [e]) → K1 e (put (U s') L (.lst acc))) → (∀ s', R (i + 1) s' acc → K2 (put (U s') L (.lst acc))) →
      g d (wipeD ρ vs) (put (U s) L (.lst acc)) fun ρ2 μ2 => t ρ2 μ2 fun b μ3 => Br b (a ρ2 μ3 K1) (K2 μ3)) : LcB g t a vs ρ Q ds kp μ1 := by
  refine ⟨sz, fun L hL => ⟨fun i μ => ∃ s acc, μ = put (U s) L (.lst acc) ∧ acc.length ≤ i ∧ R i s acc, ⟨s0, [], by rw [e0], Nat.le_refl _, h0⟩, ?_, ?_, ?_⟩⟩
  · rintro i μ hi ⟨s, acc, rfl, _, r⟩
    exact hk i s L acc hi hL r
  · rintro i d μ hd ⟨s, acc, rfl, la, r⟩
    exact hs L i d s acc _ _ hL la hd r (fun e s' h2 => ⟨acc, put_same, la, s', acc ++ [e], put_put, by simp; omega, h2⟩) fun s' h2 => ⟨s', acc, rfl, by omega, h2⟩
  · rintro μ ⟨s, acc, rfl, la, r⟩
    exact .froze ((Less.refl (U s)).put (hU s L hL)) put_same (hU s L hL) (hd s acc la r)
theorem rd_eqSame {μ : Mu} {d : D} {p : PyData} {R : Bool → Prop} (h : Rs μ d p) (hd : p.depth ≤ 60) (q : R true) : EqQ μ d d R :=
  EqQ.of p p h h (by simp; omega) (by rw [SeqAt.eqv_refl_plain _ (Rs.plain _ _ h)]; exact q)
theorem depth_ints (xs : List Int) : (PyData.list (xs.map .int)).depth ≤ 60 := by
  have : PyData.depthAll (xs.map PyData.int) = 0 := by
    induction xs with
    | nil => rfl
    | cons x xs ih => simp [PyData.depthAll, PyData.depth, ih]
  show PyData.depthAll _ + 1 ≤ 60
  omega
theorem less_at {μ μ0 : Mu} {a : Addr} {o : O} (h : Less μ μ0) (n : μ0 a = some o) : μ a = some o := by
  rcases h a with e | e
  · rw [e] at n; cases n
  · rw [← e]; exact n
theorem Ls.lr {μ : Mu} {d : D} {ds : List D} (h : Ls μ d ds) : Lr μ d ds := by
  cases d with
  | lst xs => exact h
  | «at» l => exact .inl h
  | _ => exact h.elim
theorem Ls.sq {μ : Mu} {d : D} {ds : List D} (h : Ls μ d ds) : Sq μ d ds := by
  cases d with
  | lst xs => exact h
  | «at» l => exact .inl h
  | _ => exact h.elim
theorem Ls.rs {μ : Mu} {d : D} {ds : List D} {ps : List PyData} (h : Ls μ d ds) (r : Rss μ ds ps) : Rs μ d (.list ps) := by
  cases d with
  | lst xs => cases (show xs = ds from h); exact .lst r
  | «at» l => exact .at h r
  | _ => exact h.elim
theorem Ls.kind {μ : Mu} {d : D} {ds : List D} (h : Ls μ d ds) : kindD μ d "list" := by
  cases d with
  | lst xs => exact rfl
  | «at» l => exact .inl ⟨⟨ds, h⟩, rfl⟩
  | _ => exact h.elim
theorem rd_lenL {μ : Mu} {d : D} {ds : List D} {Q : DQ} (h : Ls μ d ds) (q : Q (.int ds.length) μ) : fLen [d] μ Q := by
  cases d with
  | lst xs => cases (show xs = ds from h); exact rd_lenl q
  | «at» l => exact rd_lena h q
  | _ => exact h.elim
theorem rd_ixL {μ : Mu} {d z : D} {ds : List D} {i : Int} {Q : DQ} (h : Ls μ d ds) (hz : atI ds i = some z) (q : Q z μ) : fIx d (.int i) μ Q := by
  cases d with
  | lst xs => cases (show xs = ds from h); exact rd_ixl hz q
  | «at» l => exact rd_ixa h hz q
  | _ => exact h.elim
theorem rd_neL {μ : Mu} {d : D} {ds : List D} {ps : List PyData} {R : Bool → Prop} (h : Ls μ d ds) (r : Rss μ ds ps) (q : R ds.isEmpty) : EqQ μ d (.lst []) R := by
  refine EqQ.of (.list ps) (.list []) (h.rs r) (.lst .nil) (by simp [PyData.depth, PyData.depthAll]) ?_
  have e : PyData.eqv (.list ps) (.list []) = ds.isEmpty := by
    cases r with
    | nil => simp [PyData.eqv, PyData.eqvAll]
    | cons a b => simp [PyData.eqv, PyData.eqvAll]
  rw [e]
  exact q
theorem rd_itL {μ : Mu} {d : D} {ds : List D} {R : List D → Prop} (h : Ls μ d ds) (q : R ds) : ∃ ds, Lr μ d ds ∧ R ds := ⟨ds, h.lr, q⟩
theorem rd_listL {m : Bool} {μ : Mu} {d : D} {ds : List D} {Q : DQ} (h : Ls μ d ds) (q : New m ds μ Q) : fListOf m [d] μ Q := ⟨d, ds, rfl, h.sq, q⟩
theorem wk.same' {P : Rho → Mu → Prop} {ρ : Rho} {μ μ' : Mu} (l : Less μ μ') (h : P ρ μ') : wk P ρ μ := ⟨ρ, μ', .refl _, l, h⟩
end Dl
namespace Dl
open PySem PySem.Spec PyProof.Rows L2
variable {B : Bs}
/-! ### texts: walked, one sign in a text, joined -/
def chars (z : Str) : List D := z.cps.toList.map fun c => .str ⟨#[c]⟩
def wItS (a : WE) : WI := fun ρ μ Q => a ρ μ fun d μ1 => ∃ z, d = .str z ∧ Q (chars z) (fun _ => True) μ1
theorem ji_str {X : Cx} {tg e : Expr} {w : WE} (h : JE B X e w) : JI B X tg e (wItS w) := PI.of (pi_str h) fun σ H R ⟨ρ, μ, QD, rs, m, h, k⟩ => up_mk rs m h fun v H1 d μ1 s1 m1 v1 ⟨z, ed, h1⟩ => by
  subst ed
  refine ⟨z, v1, k _ H1 _ (fun _ => True) μ1 s1 m1 ⟨fun i H2 hi _ => ?_, fun H2 _ => ?_, fun i H2 x H' hi _ ⟨e1, c, e2, e3⟩ μ st mh kp => ?_⟩ h1⟩
  · have hi' : i < z.cps.size := by simpa [chars] using hi
    exact hi'
  · show z.cps.size ≤ _
    simp [chars]
  · subst e1 e3
    have e4 : z.cps.toList[i]? = some c := by simpa using e2
    exact ⟨.str ⟨#[c]⟩, by unfold chars; rw [List.getElem?_map, e4]; rfl, .refl, mh, rfl⟩
def fInS (n : Bool) : F2 := fun d e μ Q => ∃ c z, d = .str ⟨#[c]⟩ ∧ e = .str z ∧ Q (.bl (if n then !decide (c ∈ z.cps.toList) else decide (c ∈ z.cps.toList))) μ
theorem od_inS {X : Cx} : OpR X (compareOp .In) (upF2 (fInS false)) := OpR.of op_in_sign fun x y H Q ⟨d, e, μ, QD, hx, hy, mh, ⟨c, z, ed, ee, q⟩, k⟩ => by
  subst ed ee
  exact ⟨c, z, hx, hy, k _ _ (lft_mk (d := .bl _) mh rfl q)⟩
/-! ### list(d), sorted(d), list(d.values()) -/
section
variable {X : Cx}
/-! ### list methods: clear, remove, index -/
def fIndex : D → FN := fun d ds μ Q => ∃ (xs : List Int) (k : Int) (j : Nat), Ls μ d (xs.map .int) ∧ ds = [.int k] ∧ xs[j]? = some k ∧ (∀ m : Nat, m < j → xs[m]? ≠ some k) ∧ Q (.int (j : Nat)) μ
theorem md_index (hu : X.A.units + 65 < cLine) : MtR X "list.index" (upFM fIndex) := MtR.of (mt_indexD hu) fun x vs H Q ⟨d, ds, μ, QD, v1, v2, m, ⟨xs, k, j, h1, e2, hj, hno, h2⟩, kk⟩ => by
  subst e2
  obtain ⟨u, us, rfl, r1, e⟩ := v2
  rw [show us = [] from e, show u = V.int k from r1]
  obtain ⟨a, ys, ex, f, g⟩ := h1.to m v1
  subst ex
  have rr : Rs μ d (.list (xs.map .int)) := h1.rs (Rss.map fun x _ => .int x)
  refine ⟨a, V.int k, .int k, xs.map .int, j, .int k, rfl, rfl, Rs.dp m _ _ _ rr v1, .int k, ?_, rfl, by rw [List.getElem?_map, hj]; rfl, by simp [PyData.eqv], fun q z' hq hz => ?_, kk _ _ (lft_mk (d := .int _) m rfl h2)⟩
  · exact PySem.W.ke_shaped_ints xs
  · rw [List.getElem?_map] at hz
    cases ez : xs[q]? with
    | none => rw [ez] at hz; cases hz
    | some w =>
      rw [ez] at hz
      cases hz
      have := hno q hq
      rw [ez] at this
      simp only [PyData.eqv]
      exact beq_eq_false_iff_ne.mpr fun h => this (by rw [h])
end
end Dl
namespace Dl
open PySem PySem.Spec PyProof.Rows L2
section
variable {X : Cx}
def rRemD (K : PySem.W.Frag) : V → List V → Hp → VK → Prop := fun x xs H Q => ∃ (l : Addr) (ys : List V) (y : V) (d : PyData) (ds : List PyData) (j : Nat) (z : PyData), x = .ref l ∧ xs = [y] ∧ H l = some (.lst ys) ∧ DpAll K H ys ds ∧ Dp K H y d ∧
  SeqAt.shaped (.list ds) = true ∧ SeqAt.shaped d = true ∧ ds[j]? = some z ∧ PyData.eqv z d = true ∧ (∀ (m : Nat) (z' : PyData), m < j → ds[m]? = some z' → PyData.eqv z' d = false) ∧ Q .non (upd H l (.lst (ys.eraseIdx j)))
theorem mt_removeD (room : X.A.units + 65 < cLine) : MtR X "list.remove" (rRemD X.K) := fun pins s σ H x xs v us Q I rx rxs ⟨l, ys, y, d, ds, j, z, ex, exs, hl, dl, dy, sl, sd, dz, ez, first, q⟩ => by
  subst ex exs
  obtain rfl : v = Value.ref l := rx
  obtain ⟨u, rfl, ru⟩ := rxs.one
  obtain ⟨big, vs, n, rel, len, obj⟩ := I.lstM hl
  obtain ⟨_, readY⟩ := Dp.reads I d y u dy ru
  obtain ⟨_, readL⟩ := Dp.readsAll I ds ys vs dl rel
  have lay : PyData.canLayAll0 ds = true := SeqAt.canLay_of_shaped sl
  have told : vs.map (SeqAt.readOf s.heap) = ds := SeqAt.readsAll_map ds vs _ lay readL
  have same := congrArg List.length told
  rw [List.length_map] at same
  have lt : j < vs.length := same ▸ (List.getElem?_eq_some_iff.mp dz).1
  have item : ∀ (m : Nat) (h : m < vs.toArray.size), ds[m]? = some (SeqAt.readOf s.heap vs.toArray[m]) := fun m h => by
    have h' : m < vs.length := by simpa using h
    rw [← told, List.getElem?_map, List.getElem?_eq_getElem h']
    rfl
  have sz := sizeLine_eq
  have lt2 : j < vs.toArray.size := by simpa using lt
  have atJ : PyData.eqv (SeqAt.readOf s.heap vs.toArray[j]) d = true := by
    have := item j lt2
    rw [dz] at this
    rw [← Option.some.inj this]
    exact ez
  have ahead : ∀ m (h : m < vs.toArray.size), m < j → PyData.eqv (SeqAt.readOf s.heap vs.toArray[m]) d = false := fun m h hm => first m _ hm (item m h)
  have less : (ys.eraseIdx j).length ≤ sizeLine := by
    rw [List.length_eraseIdx]
    split <;> omega
  exact call_meets PySem.F.slot_list_remove ⟨_, obj, rfl⟩ PySem.F.entry_list_remove (PySem.F.args_list_remove_2 _ _)
    (SeqAt.list_removeAt l vs.toArray n none #[] u (fun t => PyData.eqv (SeqAt.readOf s.heap t) d) j lt2 atJ ahead (by simp; omega))
    ⟨obj, SeqAt.items_eqAt (vs := vs.toArray) readL readY lay (SeqAt.canLay_of_shaped sd) (room_in_shaped sd room),
      .non, _, I.lset (its' := vs.eraseIdx j) (t' := s.toks) hl obj (List.eraseIdxIfInBounds_toArray ..) (rel.eraseIdx j) less, rfl, q⟩
/-- xs.remove(y) where y is there -/
def fRemove : D → FN := fun d ds μ Q => ∃ (l : Addr) (xs : List D) (ps : List PyData) (y : D) (q : PyData) (j : Nat) (z : PyData), d = .at l ∧ ds = [y] ∧ μ l = some (.lst xs) ∧ Rss μ xs ps ∧ Rs μ y q ∧ SeqAt.shaped (.list ps) = true ∧ SeqAt.shaped q = true ∧ ps[j]? = some z ∧ PyData.eqv z q = true ∧
  (∀ (m : Nat) (z' : PyData), m < j → ps[m]? = some z' → PyData.eqv z' q = false) ∧ Q .non (put μ l (.lst (xs.eraseIdx j)))
theorem md_remove (hu : X.A.units + 65 < cLine) : MtR X "list.remove" (upFM fRemove) := MtR.of (mt_removeD hu) fun x vs H Q ⟨d, ds, μ, QD, v1, v2, m, ⟨l, xs, ps, y, q, j, z, e1, e2, h1, h2, h3, h4, h5, h6, h7, h8, h9⟩, kk⟩ => by
  subst e1 e2
  obtain ⟨u, us, rfl, r1, e⟩ := v2
  rw [show us = [] from e, show x = V.ref l from v1]
  obtain ⟨ys, e1, g⟩ := m l _ h1
  exact ⟨l, ys, u, q, ps, j, z, rfl, rfl, e1, Rss.dp m ps _ _ h2 g, Rs.dp m q _ _ h3 r1, h4, h5, h6, h7, h8, kk _ _ (lft_set m h1 (g.eraseIdx j) (d := .non) rfl h9)⟩
end
variable {B : Bs}
/-! ### del xs[i] -/
def wDelL (o i : WE) : WS := fun DD ρ μ => o ρ μ fun d μ1 => i ρ μ1 fun e μ2 => ∃ l xs k j, d = .at l ∧ e = .int k ∧ μ2 l = some (.lst xs) ∧ -(2 ^ 63) ≤ k ∧ k < 2 ^ 63 ∧ ixN xs.length k = some j ∧ DD.nx ρ (put μ2 l (.lst (xs.eraseIdx j)))
theorem js_delL {X : Cx} {x y : Expr} {a b : WE} {tpos pos : Pos} (ho : JE B X x a) (hi : JE B X y b) : JS B X (.Delete [.Subscript x y tpos] pos) (wDelL a b) := PS.of (ps_delL ho hi) fun E σ H ⟨ρ, μ, DD, rs, m, h, l⟩ =>
  up_mk rs m h fun v H1 d μ1 s1 m1 v1 h1 => up_mk (rs.step s1) m1 h1 fun u H2 e μ2 s2 m2 v2 ⟨p, xs, k, j, ed, ee, h4, k0, k1, hj, h5⟩ => by
    subst ed ee
    obtain ⟨ys, e1, g⟩ := m2 p _ h4
    have sw : Step (MD μ2) H2 (MD (put μ2 p (.lst (xs.eraseIdx j)))) (upd H2 p (.lst (ys.eraseIdx j))) := .write ⟨_, h4⟩
    have st := (s1.trans s2).trans sw
    exact ⟨p, ys, k, j, VD.step s2 _ _ v1, v2, e1, k0, k1, (ixN_seq (by rw [← g.length]; exact hj)).1, l.nx σ _ ρ _ st (rs.step st) (m2.write ⟨_, h4⟩ ⟨_, upd_same, VDs.step sw _ _ (g.eraseIdx j)⟩) h5⟩
/-! ### d.pop(k) -/
def wDPop (d k : WE) : WE := fun ρ μ Q => d ρ μ fun e μ1 => (∃ p kvs, e = .at p ∧ μ1 p = some (.dK kvs)) ∧ k ρ μ1 fun f μ2 => ∃ p kvs k v, e = .at p ∧ μ2 p = some (.dK kvs) ∧ keyD f = some k ∧ atD kvs k = some v ∧ Q v (put μ2 p (.dK (dropD kvs k)))
theorem je_dpop {X : Cx} {x y : Expr} {a b : WE} {apos cpos : Pos} (ho : JE B X x a) (he : JE B X y b) (m : M1 X x "pop" apos y cpos) : JE B X (.Call (.Attribute x "pop" apos) [y] [] cpos) (wDPop a b) := PE.of (pe_dpop1 ho he m) fun σ H Q ⟨ρ, μ, QD, rs, mh, h, k⟩ =>
  up_mk rs mh h fun v H1 d μ1 s1 m1 v1 ⟨⟨p, kvs, ed, hp⟩, h1⟩ => by
    subst ed
    obtain ⟨ks, e1, kd⟩ := m1 p _ hp
    refine ⟨p, v1, .inl ⟨ks, .inl e1⟩, up_mk (rs.step s1) m1 h1 fun u H2 e μ2 s2 m2 v2 ⟨p', kvs', k', z, ed, h2, h3, h4, h5⟩ => ?_⟩
    cases ed
    obtain ⟨ks', e2, kd'⟩ := m2 p _ h2
    obtain ⟨w, e3, e4⟩ := (kd'.at k').1 z h4
    have sw : Step (MD μ2) H2 (MD (put μ2 p (.dK (dropD kvs' k')))) (upd H2 p (.dK (dropK ks' k'))) := .write ⟨_, h2⟩
    exact ⟨ks', k', w, e2, keyD_v h3 v2, e3, k _ _ ⟨z, _, (s1.trans s2).trans sw, m2.write ⟨_, h2⟩ ⟨_, upd_same, KD.step sw (kd'.drop k')⟩, VD.step sw _ _ e4, h5⟩⟩
/-! ### text.join(list of texts) -/
def wJoin (o a : WE) : WE := fun ρ μ Q => o ρ μ fun d μ1 => (∃ x, d = .str x) ∧ a ρ μ1 fun e μ2 => ∃ x ys, d = .str x ∧ Ls μ2 e (ys.map .str) ∧ (ys.map (·.length)).sum + ys.length * x.length ≤ 1000000 ∧ Q (.str (Txt.join x ys)) μ2
theorem je_join {X : Cx} {x y : Expr} {a b : WE} {apos cpos : Pos} (ho : JE B X x a) (he : JE B X y b) (hbase : attributeBase x "join" X.env (eval x X.env) = eval x X.env := by rfl) (hline : (apos.endLine == cpos.line) = true := by rfl) (hs : starEach [y] X.env = [(false, eval y X.env)] := by rfl) : JE B X (.Call (.Attribute x "join" apos) [y] [] cpos) (wJoin a b) := PE.of (pe_join ho he hs hbase hline) fun σ H Q ⟨ρ, μ, QD, rs, mh, h, k⟩ =>
  up_mk rs mh h fun v H1 d μ1 s1 m1 v1 ⟨⟨z, ed⟩, h1⟩ => by
    subst ed
    refine ⟨⟨z, v1⟩, up_mk (rs.step s1) m1 h1 fun u H2 e μ2 s2 m2 v2 ⟨z', ys, ed, h2, h3, h4⟩ => ?_⟩
    cases ed
    obtain ⟨p, vs, ep, f, g⟩ := h2.to m2 v2
    subst ep
    exact ⟨z, p, ys, v1, rfl, .inl (by rw [← VDs.strs g]; exact .inl (.inl f)), by omega, k _ _ ⟨.str _, μ2, s1.trans s2, m2, rfl, h4⟩⟩
end Dl
namespace Dl
open PySem PySem.Spec PyProof.Rows L2
variable {B : Bs}
/-! ### a result told with less -/
def wWk (a : WE) : WE := fun ρ μ Q => a ρ μ (wkR Q)
/-! ### dicts made of pairs -/
theorem keyD_Dk : ∀ k : Key, keyD (Dk k) = some k
  | .inl _ => rfl
  | .inr _ => rfl
def mergeD (kvs more : List (Key × D)) : List (Key × D) := more.foldl (fun acc kv => putD acc kv.1 kv.2) kvs
theorem KD.merge {M : Ms} {H : Hp} : ∀ {more : List (Key × D)} {more' : List (Key × V)} {a : List (Key × D)} {a' : List (Key × V)}, KD M H more more' → KD M H a a' → KD M H (mergeD a more) (mergeK a' more')
  | _, _, _, _, .nil, h => h
  | _, _, _, _, .cons (a := p) (b := q) r t, h => by
    obtain ⟨k, d⟩ := p
    obtain ⟨k', v⟩ := q
    obtain ⟨e, hv⟩ := r
    cases (show k = k' from e)
    show KD M H (mergeD (putD _ k d) _) (mergeK (putK _ k v) _)
    exact KD.merge t (h.put hv k)
theorem KD.of_pairs {M : Ms} {H : Hp} : ∀ {kvs : List (Key × D)} {vs : List V}, VDs M H (kvs.map fun q => D.tup [Dk q.1, q.2]) vs → ∃ (ps : List Addr) (ks : List (Key × V)), vs = ps.map V.ref ∧ KD M H kvs ks ∧ Paired (fun p (kv : Key × V) => H p = some (.tup [kV kv.1, kv.2])) ps ks
  | [], _, h => ⟨[], [], h, .nil, .nil⟩
  | q :: kvs, _, ⟨v, vs, e, h1, h2⟩ => by
    obtain ⟨ps, ks, e2, kd, pr⟩ := KD.of_pairs h2
    obtain ⟨a, xs, ea, f, k, ks', e3, hk, v2, ks'', e4, hv, e5⟩ := h1
    subst e e2 ea
    rw [e3, e4, show ks'' = [] from e5, keyD_v (keyD_Dk q.1) hk] at f
    exact ⟨a :: ps, (q.1, v2) :: ks, rfl, .cons ⟨rfl, hv⟩ kd, .cons f.2 pr⟩
def fDictP : FN := fun ds μ Q => ∃ d kvs, ds = [d] ∧ Ls μ d (kvs.map fun q : Key × D => .tup [Dk q.1, q.2]) ∧ ∀ p, μ p = none → Q (.at p) (put μ p (.dK (mergeD [] kvs)))
theorem cd_dictP {X : Cx} (hc : X.calm = true) : CallR X (.type "dict") (upFN fDictP) := CallR.of (call_dictP hc) fun xs H Q ⟨ds, μ, QD, v, mh, ⟨d, kvs, e, h1, h2⟩, k⟩ => by
  subst e
  obtain ⟨v1, vs, rfl, r1, e⟩ := v
  rw [show vs = [] from e]
  obtain ⟨a, ys, ea, f, g⟩ := h1.to mh r1
  obtain ⟨ps, ks, e2, kd, pr⟩ := KD.of_pairs g
  subst ea e2
  refine ⟨a, ps, ks, rfl, .inl (.inl f), Paired.mapP pr fun _ _ z => SqT.of z, fun p hp => k _ _ ⟨.at p, put μ p (.dK (mergeD [] kvs)), .newM hp, mh.newM hp ⟨_, upd_same, ?_⟩, rfl, h2 p (mh.free hp)⟩⟩
  exact KD.step (.newM hp) (KD.merge kd .nil)
/-! ### {k: v, ..} -/
def wPairs : List (WE × WE) → Rho → Mu → (List (D × D) → Mu → Prop) → Prop
  | [], _, μ, Q => Q [] μ
  | (a, b) :: r, ρ, μ, Q => a ρ μ fun d μ1 => b ρ μ1 fun e μ2 => wPairs r ρ μ2 fun ps μ3 => Q ((d, e) :: ps) μ3
def wDisp (ws : List (WE × WE)) : WE := fun ρ μ Q => ∀ p, μ p = none → wPairs ws ρ (put μ p (.dK [])) fun ps μ2 => μ2 p = some (.dK []) ∧ ∃ kvs : List (Key × D), ps = kvs.map (fun q => (Dk q.1, q.2)) ∧ kvs.length ≤ 15 ∧ Q (.at p) (put μ2 p (.dK (mergeD [] kvs)))
def JPs (B : Bs) (X : Cx) (pos : Pos) (keys : List (Option Expr)) (vals : List Expr) (ws : List (WE × WE)) : Prop := ∃ trs, PPs X pos keys vals trs ∧ ∀ σ H (Q : List (V × V) → Hp → Prop) ρ μ QD, RS B (MD μ) H ρ σ → MH μ H → wPairs ws ρ μ QD →
  (∀ ps H' ds μ', Step (MD μ) H (MD μ') H' → MH μ' H' → Paired (fun (p : D × D) (q : V × V) => VD (MD μ') H' p.1 q.1 ∧ VD (MD μ') H' p.2 q.2) ds ps → QD ds μ' → Q ps H') → tPairs trs σ H Q
section
variable {X : Cx} {pos : Pos} {k v : Expr} {ks : List (Option Expr)} {vs : List Expr} {a b : WE} {ws : List (WE × WE)}
theorem jps_nil : JPs B X pos [] [] [] := ⟨[], pps_nil, fun σ H Q ρ μ QD _ m h f => f [] H [] μ .refl m .nil h⟩
theorem jps_cons (hk : JE B X k a) (hv : JE B X v b) (hr : JPs B X pos ks vs ws) : JPs B X pos (some k :: ks) (v :: vs) ((a, b) :: ws) := by
  obtain ⟨trs, h1, h2⟩ := hr
  refine ⟨_, pps_cons hk hv h1, fun σ H Q ρ μ QD rs m h f => ?_⟩
  refine up_mk rs m h fun x H1 d μ1 s1 m1 v1 q1 => up_mk (rs.step s1) m1 q1 fun y H2 e μ2 s2 m2 v2 q2 => ?_
  refine h2 σ H2 _ ρ μ2 _ ((rs.step s1).step s2) m2 q2 fun ps H3 ds μ3 s3 m3 pr q3 => ?_
  exact f _ H3 _ μ3 ((s1.trans s2).trans s3) m3 (.cons ⟨VD.step (s2.trans s3) _ _ v1, VD.step s3 _ _ v2⟩ pr) q3
theorem KD.of_dv {M : Ms} {H : Hp} : ∀ {kvs : List (Key × D)} {ps : List (V × V)}, Paired (fun (p : D × D) (q : V × V) => VD M H p.1 q.1 ∧ VD M H p.2 q.2) (kvs.map fun q => (Dk q.1, q.2)) ps → ∃ gs : List (Key × V), ps = gs.map (fun kv => (kV kv.1, kv.2)) ∧ KD M H kvs gs
  | [], _, .nil => ⟨[], rfl, .nil⟩
  | q :: kvs, _, .cons (b := b) r t => by
    obtain ⟨gs, e, kd⟩ := KD.of_dv t
    subst e
    obtain ⟨x, y⟩ := b
    refine ⟨(q.1, y) :: gs, ?_, .cons ⟨rfl, r.2⟩ kd⟩
    rw [List.map_cons]
    rw [show x = kV q.1 from keyD_v (keyD_Dk q.1) r.1]
theorem je_disp {keys : List (Option Expr)} {vals : List Expr} (h : JPs B X pos keys vals ws) (hall : keys.all (·.isSome) = true := by rfl) (hl : keys.length = vals.length := by rfl) (h0 : keys ≠ [] := by exact fun z => nomatch z) (h15 : keys.length ≤ 15 := by decide) : JE B X (.Dict keys vals pos) (wDisp ws) := by
  obtain ⟨trs, h1, h2⟩ := h
  refine PE.of (pe_disp h1 hall hl h0 h15) fun σ H Q ⟨ρ, μ, QD, rs, m, h, k⟩ p hp => ?_
  have st : Step (MD μ) H (MD (put μ p (.dK []))) (upd H p (.dK [])) := .newM hp
  refine h2 σ _ _ ρ _ _ (rs.step st) (m.newM (x := .dK []) hp ⟨[], upd_same, .nil⟩) (h p (m.free hp)) fun ps H' ds μ' s' m' pr ⟨e, kvs, e2, l, q⟩ => ?_
  subst e2
  obtain ⟨gs, e3, kd⟩ := KD.of_dv pr
  obtain ⟨zs, e4, e5⟩ := m' p _ e
  have e6 : zs = [] := by cases e5; rfl
  subst e6
  have lk : gs.length ≤ 15 := by rw [← kd.length]; exact l
  have sw : Step (MD μ') H' (MD (put μ' p (.dK (mergeD [] kvs)))) (upd H' p (.dK (mergeK [] gs))) := .write ⟨_, e⟩
  exact ⟨e4, gs, e3, lk, k _ _ ⟨.at p, _, (st.trans s').trans sw, m'.write ⟨_, e⟩ ⟨_, upd_same, KD.step sw (KD.merge kd .nil)⟩, rfl, q⟩⟩
end
end Dl
namespace Dl
open PySem PySem.Spec PyProof.Rows L2
variable {B : Bs}
section
variable {X : Cx} {tg e : Expr} {w : WE}
/-- a dict's keys walked, under the lock -/
def wKeys (w : WE) : WI := fun ρ μ Q => w ρ μ fun d μ1 => ∃ p o ks kvs, d = .at p ∧ μ1 p = some (.fz o ks kvs) ∧ Q (kvs.map fun q => Dk q.1) (fun μ => μ p = some (.fz o ks kvs)) μ1
/-- enumerate(xs) -/
def wEnum (a : WA) : WI := fun ρ μ Q => a ρ μ fun vs μ1 => ∃ d xs, vs = [d] ∧ Lr μ1 d xs ∧ Q (xs.zipIdx.map fun q => .tup [.int q.2, q.1]) (fun μ => Lr μ d xs) μ1
theorem ji_enum {p pos tpos : Pos} {elts : List Expr} {kk : Nat} {a : WA} (hm : X.mg "enumerate" = none) (ha : JA B X [e] a) (hg : Gl X "enumerate" := by rfl) (hs : starEach [e] X.env = [(false, eval e X.env)] := by rfl) :
    JI B X (.Tuple elts kk tpos) (.Call (.Name "enumerate" p) [e] [] pos) (wEnum a) := PI.of (pi_enum hg hm ha hs) fun σ H R ⟨ρ, μ, QD, rs, m, h, k⟩ => ⟨ρ, μ, _, rs, m, h, fun vs H1 ds μ1 s1 m1 v1 ⟨d, xs, ed, hl, h1⟩ => by
  subst ed
  obtain ⟨v, vs', rfl, hv, e0⟩ := v1
  rw [show vs' = [] from e0]
  obtain ⟨l, ys, ev, r, g⟩ := hl.to m1 hv
  have more : ∀ μ2 H2, Step (MD μ1) H1 (MD μ2) H2 → MH μ2 H2 → Lr μ2 d xs → ∃ zs, SqL X.K H2 l zs ∧ VDs (MD μ2) H2 xs zs := fun μ2 H2 st mh kp => by
    obtain ⟨b, zs, eb, rb, gb⟩ := kp.to mh (VD.step st _ _ hv)
    rw [ev] at eb
    cases eb
    exact ⟨zs, .inl rb, gb⟩
  refine ⟨l, ys, by rw [ev], .inl r, k _ H1 _ (fun μ => Lr μ d xs) μ1 s1 m1 ⟨fun i H2 hi ⟨μ2, st, mh, kp⟩ => ?_, fun H2 ⟨μ2, st, mh, kp⟩ => ?_, fun i H2 x H' hi _ ⟨T, y, e1, hT, e2, e3⟩ μ2 st mh kp => ?_⟩ h1⟩
  · obtain ⟨zs, q, gb⟩ := more μ2 H2 st mh kp
    have hi' : i < xs.length := by simpa using hi
    obtain ⟨z, hz, _⟩ := gb.get (List.getElem?_eq_getElem hi')
    exact ⟨zs, z, q, hz⟩
  · obtain ⟨zs, q, gb⟩ := more μ2 H2 st mh kp
    exact ⟨zs, q, by rw [← gb.length]; simp⟩
  · obtain ⟨zs, q, gb⟩ := more μ2 H2 st mh kp
    subst e1 e2
    obtain ⟨d', hd, hv'⟩ := gb.of_get (e3 zs q)
    have st2 : Step (MD μ2) H2 (MD μ2) (upd H2 T (.tup [.int (i : Nat), y])) := .new hT
    refine ⟨.tup [.int (i : Nat), d'], ?_, st2, mh.newF hT, ⟨T, _, rfl, ⟨fun ⟨u, z⟩ => (by rw [mh.free hT] at z; cases z), upd_same⟩, _, _, rfl, rfl, _, _, rfl, VD.step st2 _ _ hv', rfl⟩⟩
    rw [List.getElem?_map, List.getElem?_zipIdx, hd]
    simp⟩
/-- a tuple's slice that is not the whole -/
def wSlT (o : WE) (lo hi : WO) : WE := fun ρ μ Q => o ρ μ fun d μ1 => lo ρ μ1 fun l μ2 => hi ρ μ2 fun h μ3 => ∃ xs, d = .tup xs ∧ ¬ (HT.sIx xs.length 0 l = 0 ∧ HT.sIx xs.length xs.length h = xs.length) ∧ Q (.tup (cutD xs l h)) μ3
theorem je_sliceT {lo hi : Option Expr} {p2 pos : Pos} {o : Expr} {wo : WE} {wl wh : WO} (he : JE B X o wo) (hl : JO B X lo wl) (hh : JO B X hi wh) : JE B X (.Subscript o (.Slice lo hi none p2) pos) (wSlT wo wl wh) := PE.of (pe_slice sl_tup he hl hh) fun σ H Q ⟨ρ, μ, QD, rs, m, h, k⟩ =>
  up_mk rs m h fun v H1 d μ1 s1 m1 v1 h1 => ⟨ρ, μ1, _, rs.step s1, m1, h1, fun l H2 μ2 s2 m2 h2 => ⟨ρ, μ2, _, (rs.step s1).step s2, m2, h2, fun u H3 μ3 s3 m3 ⟨xs, ed, hn, h4⟩ => by
    subst ed
    obtain ⟨a, ys, ev, f, g⟩ := VD.step (s2.trans s3) _ _ v1
    exact ⟨a, ys, ev, SqT.of f.2, by rw [← g.length]; exact hn, fun p hp => k _ _ ((lft_tup m3 (g.cut l u) hp h4).trans ((s1.trans s2).trans s3))⟩⟩⟩
end
/-! ### {k: v for target in iter}: L the dict while it grows -/
def wDc (wi : WI) (g : WG) (t : WT) (a b : WE) (vs : List Nat) : WE := fun ρ μ Q => wi ρ μ fun ds kp μ1 => ds.length ≤ 1000000 ∧ ∀ L, μ1 L = none → ∃ P : Nat → Mu → Prop, P 0 (put μ1 L (.dK [])) ∧ (∀ i μ, i ≤ ds.length → P i μ → kp μ) ∧
  (∀ i d μ, ds[i]? = some d → P i μ → g d (wipeD ρ vs) μ fun ρ2 μ2 => t ρ2 μ2 fun c μ3 => Br c (a ρ2 μ3 fun e μ4 => b ρ2 μ4 fun f μ5 => ∃ k acc, keyD e = some k ∧ μ5 L = some (.dK acc) ∧ acc.length ≤ i ∧ P (i + 1) (put μ5 L (.dK (putD acc k f)))) (P (i + 1) μ3)) ∧
  ∀ μ, P ds.length μ → wkR Q (.at L) μ
/-- the walk that a dict comprehension asks for, by an invariant -/
theorem dc_it {J : It} {n : Nat} {G : Hp → Prop} {Y : Nat → Hp → V → Hp → Prop} (W : Walk J n G Y) {g : TG} {tt : TT} {tk tv : TE} {vs : List Nat} {σ : L2.St} {H1 : Hp} {L : Addr} {Z : Hp → Prop} (P : Nat → Hp → Prop) (p0 : P 0 (upd H1 L (.dK []))) (pg : ∀ i H, i ≤ n → P i H → G H)
    (ps : ∀ i x H H', i < n → P i H → Y i H x H' → g x (wipe σ vs) H' fun σ2 H2 => wipe σ2 vs = wipe σ vs ∧ tt σ2 H2 fun c H3 =>
      if c = true then tk σ2 H3 fun y H4 => tv σ2 H4 fun z H5 => ∃ kvs k, y = kV k ∧ H5 L = some (.dK kvs) ∧ kvs.length < sizeLine ∧ P (i + 1) (upd H5 L (.dK (putK kvs k z))) else P (i + 1) H3) (pz : ∀ H, P n H → Z H) :
    ∃ U : Nat → Nat → Hp → Prop, (∃ m, U 0 m (upd H1 L (.dK []))) ∧ ∀ i m H, U i m H →
      (J.stop i H ∧ Z H) ∨ (J.go i H ∧ ∃ N : Hp → Prop, (∀ H', N H' → ∃ m', m' < m ∧ U (i + 1) m' H') ∧ ∀ x H', J.yld i H x H' → g x (wipe σ vs) H' fun σ2 H2 => wipe σ2 vs = wipe σ vs ∧ tt σ2 H2 fun c H3 =>
        if c = true then tk σ2 H3 fun y H4 => tv σ2 H4 fun z H5 => ∃ kvs k, y = kV k ∧ H5 L = some (.dK kvs) ∧ kvs.length < sizeLine ∧ N (upd H5 L (.dK (putK kvs k z))) else N H3) := by
  refine ⟨fun i m H => i ≤ n ∧ m + i = n ∧ P i H, ⟨n, Nat.zero_le _, rfl, p0⟩, fun i m H ⟨le, e, p⟩ => ?_⟩
  have hg := pg i H le p
  rcases Nat.lt_or_eq_of_le le with lt | rfl
  · exact .inr ⟨W.goes i H lt hg, P (i + 1), fun H' p' => ⟨m - 1, by omega, lt, by omega, p'⟩, fun x H' y => ps i x H H' lt p (W.yields i H x H' lt hg y)⟩
  · exact .inl ⟨W.stops H hg, pz H p⟩
theorem up_dc {X : Cx} {wi : WI} {g : TG} {w : WG} {t : WT} {a b : WE} {vs : List Nat} (ct : CT B g w vs) {σ : L2.St} {H : Hp} {Q : VK} (h : up B (wDc wi w t a b vs) σ H Q) : tDc (upI B wi) g (upT B t) (up B a) (up B b) vs σ H Q := by
  obtain ⟨ρ, μ, QD, rs, m, h, k⟩ := h
  refine ⟨ρ, μ, _, rs, m, h, fun J H1 ds kp μ1 s1 m1 gv ⟨sz, h1⟩ L hL => ?_⟩
  obtain ⟨P, p0, pk, ps, pd⟩ := h1 L (m1.free hL)
  have st0 : Step (MD μ1) H1 (MD (put μ1 L (.dK []))) (upd H1 L (.dK [])) := .newM hL
  have m0 : MH (put μ1 L (.dK [])) (upd H1 L (.dK [])) := m1.newM (x := .dK []) hL ⟨[], upd_same, .nil⟩
  refine dc_it gv (fun i H2 => ∃ μ, Step (MD μ1) H1 (MD μ) H2 ∧ MH μ H2 ∧ P i μ) ⟨_, st0, m0, p0⟩ (fun i H2 hi ⟨μ2, st, mh, p⟩ => ⟨μ2, st, mh, pk i μ2 hi p⟩) ?_ ?_
  · rintro i x H2 H3 hi ⟨μ2, st, mh, p⟩ y
    obtain ⟨d, hd, st2, mh2, vd⟩ := y μ2 st mh (pk i μ2 (Nat.le_of_lt hi) p)
    have st3 := st.trans st2
    have r2 := ((rs.step s1).step st3).wipe vs
    refine ct x d _ H3 _ μ2 _ vd r2 (ps i d μ2 hd p) _ fun σ4 ρ4 e4 r4 q4 => ⟨e4.trans (wipe_wipe σ vs), ?_⟩
    refine upT_mk r4 mh2 q4 fun c H5 μ5 s5 m5 q5 => (q5.mono (fun q => ?_) fun q => ?_).ite
    · refine up_mk (r4.step s5) m5 q fun v H6 e μ6 s6 m6 v6 q6 => up_mk ((r4.step s5).step s6) m6 q6 fun u H7 f μ7 s7 m7 v7 ⟨key, acc, ek, h7, l7, p7⟩ => ?_
      obtain ⟨ks, e7, kd⟩ := m7 L _ h7
      have st8 : Step (MD μ7) H7 (MD (put μ7 L (.dK (putD acc key f)))) (upd H7 L (.dK (putK ks key u))) := .write ⟨_, h7⟩
      refine ⟨ks, key, keyD_v ek (VD.step s7 _ _ v6), e7, ?_, _, (((st3.trans s5).trans s6).trans s7).trans st8, m7.write ⟨_, h7⟩ ⟨_, upd_same, KD.step st8 (kd.put v7 key)⟩, p7⟩
      rw [← kd.length, sizeLine_eq]
      omega
    · exact ⟨μ5, st3.trans s5, m5, q⟩
  · rintro H2 ⟨μ2, st, mh, p⟩
    obtain ⟨d', μ3, wk, q⟩ := pd μ2 p
    exact k _ _ ⟨d', μ3, (s1.trans st).trans (wk _ mh).1.1, (wk _ mh).1.2, (wk _ mh).2 _ rfl, q⟩
section
variable {X : Cx} {kx vx tg iter : Expr} {ifs : List Expr} {scope : Scope} {own : List (Str × Nat)} {pos : Pos} {wi : WI} {g : TG} {w : WG} {t : WT} {a b : WE}
theorem je_dc (hN : X.N.Nodup) (hi : JI B X tg iter wi) (ok : BlkOk X.N X.env.scope scope own) (ct : CT B g w (own.map (·.2))) (hg : ∀ (s : Shared) (H : Hp) (C : Addr) (cl : List (Str × Addr)) (fp : List Addr), PG (X.blk s H scope (compEnvC scope cl C X.env) fp) tg g)
    (ht : ∀ (s : Shared) (H : Hp) (C : Addr) (cl : List (Str × Addr)) (fp : List Addr), JTs B (X.blk s H scope (compEnvC scope cl C X.env) fp) ifs t) (hk : ∀ (s : Shared) (H : Hp) (C : Addr) (cl : List (Str × Addr)) (fp : List Addr), JE B (X.blk s H scope (compEnvC scope cl C X.env) fp) kx a)
    (he : ∀ (s : Shared) (H : Hp) (C : Addr) (cl : List (Str × Addr)) (fp : List Addr), JE B (X.blk s H scope (compEnvC scope cl C X.env) fp) vx b)
    (hc : X.calm = true := by rfl) (hs : ∀ x, foldedSetIterable iter X.env x = pure x := by intro _; rfl) : JE B X (.DictComp kx vx [⟨tg, iter, ifs, 0⟩] scope pos) (wDc wi w t a b (own.map (·.2))) :=
  PE.of (pe_dc hc hN hi ok hg ht hk he hs) fun σ H Q h => up_dc (X := X) ct h
end
end Dl
namespace Dl
open PySem PySem.Spec PyProof.Rows L2
variable {B : Bs}
/-! ### list(d.values()) -/
section
variable {X : Cx} {e : Expr} {p apos cpos pos : Pos} {w : WE}
def wValsL (m : Bool) (a : WE) : WE := fun ρ μ Q => a ρ μ fun d μ1 => ∃ p kvs, d = .at p ∧ μ1 p = some (.dK kvs) ∧ New m (kvs.map (·.2)) μ1 Q
end
/-! ### a keyword-only parameter that is left out, with a text as its default -/
/-- the text that the method m of C has as the default of nm -/
structure KwF (K : Frg) (C : Addr) (m qual : Str) (st : Stmt) (nm x : Str) : Prop where
  ex : ∃ (f : Addr) (oc : Value) (od : Option Addr) (kd : Addr) (t : Tok) (doc pm : Value) (an : Option Addr) (cdv ct : Value) (osl : Array (Option Value)), PySem.W.findIn K (.ref C) m = some (some (.ref f)) ∧
    K.lookup f = some ⟨oc, od, .func (PySem.W.fnOf m qual (defArgs st) (defBody st) (defScope st) .none (.ref kd) doc pm an cdv ct), osl⟩ ∧ PySem.W.nsIn K kd nm = some (some (.str x t))
def BdK (m qual : Str) (st : Stmt) (ps : List Str) (n : Nat) (nm : Str) : Prop := ∀ (kd : Addr) (doc pm : Value) (an : Option Addr) (cdv ct : Value) (us : List Value) (u : Value), us.length = n →
  KwChain kd [(nm, u)] (bindArgs (PySem.W.fnOf m qual (defArgs st) (defBody st) (defScope st) .none (.ref kd) doc pm an cdv ct) ⟨us, []⟩) (ps.zip (us ++ [u]))
def gK (x : Str) (ds _es : List D) : List D := ds ++ [.str x]
theorem KwF.bd {K : Frg} {C : Addr} {m qual : Str} {st : Stmt} {nm x : Str} {f : Addr} {fd : FuncData} {ps : List Str} {n : Nat} (w : KwF K C m qual st nm x) (F : Fun K m qual st f fd) (M : Meth K C m f) (h : BdK m qual st ps n nm) : KBd K fd ps n [] (gK x) := by
  obtain ⟨f', oc, od, kd, t, doc, pm, an, cdv, ct, osl, e1, e2, e3⟩ := w.ex
  have e4 := M.at_
  rw [e1] at e4
  cases e4
  obtain ⟨oc', od', kV, doc', pm', an', cdv', ct', osl', efd, lk, hcd⟩ := F.ex
  rw [e2] at lk
  cases lk
  refine ⟨fun s us ws X l1 l2 => ⟨us ++ [.str x t], ?_, fun M H ds es vs ms a b c d => ⟨vs ++ [.str x], ?_, a.append (show VDs M H [.str x] [V.str x] from ⟨_, _, rfl, rfl, rfl⟩)⟩⟩⟩
  · have e0 : ([] : List Str).zip ws = [] := rfl
    rw [e0]
    exact L2.BindsTo.of_looks fun M => KwChain.looks X (fun q hq => by
      rcases List.mem_cons.mp hq with rfl | hq
      · exact e3
      · cases hq) (h kd doc pm an cdv ct us (.str x t) l1)
  · exact Vals.append c (.cons ⟨t, rfl⟩ .nil)
theorem jmK {X : Cx} {k j : Nat} {C : Addr} {m qual nm x : Str} {st : Stmt} {ps : List Str} {sp : SpD} {n : Nat} {pos apos : Pos} {o : Expr} {es : List Expr} {t : WCl} {wo : WE} {W : WXD} {pl : Sem Bool} (ho : JE B X o wo) (c : Cls X.K C) (d : MetD X.prog X.w X.K X.mg X.base k C m qual st ps sp) (kw : KwF X.K C m qual st nm x)
    (hr : Room j X.A) (hk : k ≤ j) (hg : X.A.guards = some []) (tk : Takes X (upX B W)) (hb : BdK m qual st ps n nm) (ha : JCl B X es [] [] t)
    (ht : eval (.Call (.Attribute o m apos) es [] pos) X.env = (do
      let ov ← eval o X.env
      standAt apos.atName
      let (f, first) ← holding [ov] (getMethod ov m pl)
      callWith pos f first (backTo pos (starEach es X.env)) (backToKw pos (keywordEach [] X.env))) := by rfl) : JE B X (.Call (.Attribute o m apos) es [] pos) (wMeth C m n sp (gK x) W wo t) := by
  obtain ⟨f, fd, G, F, M⟩ := d.ex
  exact je_meth (pl := pl) ho c M G (hr.mono hk) hg tk (kw.bd F M hb) ha ht
end Dl
namespace Dl
open PySem PySem.Spec PyProof.Rows L2
variable {B : Bs}
section
variable {X : Cx}
/-- len(d) -/
def fLenD : FN := fun ds μ Q => ∃ p kvs, ds = [.at p] ∧ μ p = some (.dK kvs) ∧ Q (.int kvs.length) μ
theorem cd_lenD : CallR X (.builtin "len") (upFN fLenD) := CallR.of call_lenD fun xs H Q ⟨ds, μ, QD, v, m, ⟨p, kvs, e, h1, q⟩, k⟩ => by
  subst e
  obtain ⟨v1, vs, rfl, r1, e⟩ := v
  rw [show vs = [] from e, show v1 = V.ref p from r1]
  obtain ⟨ks, e1, kd⟩ := m p _ h1
  exact ⟨p, ks, rfl, e1, k _ _ (lft_mk (d := .int _) m (by rw [← kd.length]; rfl) q)⟩
end
end Dl
namespace Dl
open PySem PySem.Spec PyProof.Rows L2
/-! ### cells: what stands at some addresses, no two alike -/
abbrev Cells := List (Addr × O)
structure Sits (μ : Mu) (cs : Cells) : Prop where
  at_ : ∀ q ∈ cs, μ q.1 = some q.2
  nd : (cs.map (·.1)).Nodup
def foot (cs : Cells) : List Addr := cs.map (·.1)
theorem nd_eq {α β : Type} {f : α → β} : ∀ {l : List α}, (l.map f).Nodup → ∀ {x y : α}, x ∈ l → y ∈ l → f x = f y → x = y
  | [], _, _, _, h, _, _ => by cases h
  | z :: l, nd, x, y, hx, hy, e => by
    rw [List.map_cons, List.nodup_cons] at nd
    rcases List.mem_cons.mp hx with e1 | h1 <;> rcases List.mem_cons.mp hy with e2 | h2
    · rw [e1, e2]
    · exact (nd.1 (by rw [← e1, e]; exact List.mem_map.mpr ⟨y, h2, rfl⟩)).elim
    · exact (nd.1 (by rw [← e2, ← e]; exact List.mem_map.mpr ⟨x, h1, rfl⟩)).elim
    · exact nd_eq nd.2 h1 h2 e
theorem Sits.upd {μ : Mu} {cs cs' : Cells} {a : Addr} {o : O} (s : Sits μ cs) (e : cs'.map (·.1) = cs.map (·.1)) (h : ∀ q ∈ cs', q = (a, o) ∨ q ∈ cs ∧ q.1 ≠ a) : Sits (put μ a o) cs' :=
  ⟨fun q hq => by
    rcases h q hq with rfl | ⟨h1, h2⟩
    · exact put_same
    · rw [put_ne h2]
      exact s.at_ q h1, by rw [e]; exact s.nd⟩
theorem Sits.ne {μ : Mu} {cs : Cells} (s : Sits μ cs) {q q' : Addr × O} (h : q ∈ cs) (h' : q' ∈ cs) (n : q ≠ q') : q.1 ≠ q'.1 := fun e => n (nd_eq s.nd h h' e)
theorem Sits.out {μ μ' : Mu} {cs : Cells} (s : Sits μ cs) (h : ∀ a ∈ foot cs, μ' a = μ a) : Sits μ' cs := ⟨fun q hq => by rw [h q.1 (List.mem_map.mpr ⟨q, hq, rfl⟩)]; exact s.at_ q hq, s.nd⟩
theorem Sits.put {μ : Mu} {cs : Cells} {a : Addr} {o : O} (s : Sits μ cs) (h : a ∉ foot cs) : Sits (put μ a o) cs := s.out fun b hb => put_ne fun e => h (e ▸ hb)
theorem Sits.there {μ : Mu} {cs : Cells} (s : Sits μ cs) {a : Addr} (h : a ∈ foot cs) : ∃ o, μ a = some o := by
  obtain ⟨q, hq, rfl⟩ := List.mem_map.mp h
  exact ⟨_, s.at_ q hq⟩
theorem Sits.fresh {μ : Mu} {cs : Cells} (s : Sits μ cs) {a : Addr} (h : μ a = none) : a ∉ foot cs := fun z => by
  obtain ⟨o, e⟩ := s.there z
  rw [h] at e
  cases e
theorem Sits.less {μ μ' : Mu} {cs : Cells} (s : Sits μ cs) (l : Less μ' μ) : Sits μ' cs := ⟨fun q hq => less_at l (s.at_ q hq), s.nd⟩
/-- all else is as it was -/
def Same (F : List Addr) (μ μ' : Mu) : Prop := ∀ a, a ∉ F → μ' a = μ a
theorem Same.refl (F : List Addr) (μ : Mu) : Same F μ μ := fun _ _ => rfl
theorem Same.trans {F : List Addr} {a b c : Mu} (h : Same F a b) (g : Same F b c) : Same F a c := fun x n => (g x n).trans (h x n)
theorem Same.put {F : List Addr} {μ : Mu} {a : Addr} {o : O} (h : a ∈ F) : Same F μ (put μ a o) := fun x n => put_ne fun e => n (e ▸ h)
theorem Same.at {F : List Addr} {μ μ' : Mu} (h : Same F μ μ') {a : Addr} {o : O} (n : a ∉ F) (e : μ a = some o) : μ' a = some o := (h a n).trans e
theorem Sits.same {μ μ' : Mu} {cs : Cells} {F : List Addr} (s : Sits μ cs) (h : Same F μ μ') (d : ∀ a ∈ foot cs, a ∉ F) : Sits μ' cs := s.out fun a ha => h a (d a ha)
/-! ### a store -/
inductive Rw where
  | plain (x : Int) | weak (x : Int) | keyed (k v : Int)
  deriving DecidableEq
def Rw.D : Rw → D
  | .plain x => .tup [.str "plain", .int x]
  | .weak x => .tup [.str "weak", .int x]
  | .keyed k v => .tup [.str "keyed", .int k, .int v]
def joint (o k : Int) : List Int := if o = k then [o] else if o ≤ k then [o, k] else [k, o]
def Rw.holds (o : Int) : Rw → List (Int × List Int)
  | .plain x => [(x, [o])]
  | .weak _ => []
  | .keyed k v => [(v, joint o k)]
/-- a thing: its number, the addresses of its slots and holds, what stands there, its last word -/
structure Th where
  n : Int
  sa : Addr
  ka : Addr
  sl : List (Str × Rw)
  w : Str
  ke : List (List Int)
structure Hd where
  nm : Str
  ra : Addr
  row : List Int
structure SC where
  t : Addr
  r : Addr
  f : Addr
  l : Addr
  k : Addr
  hs : List Hd
  ts : List Th
  many : Int
  fx : List (Str × D)
  xc : Cells
def hoD (h : List Int) : D := .tup (h.map .int)
def slK (sl : List (Str × Rw)) : List (Key × D) := sl.map fun q => (.inr q.1, q.2.D)
def SC.flds (S : SC) : List (Str × D) := (("rows" : Str), D.at S.r) :: (("filled" : Str), D.at S.f) :: (("last" : Str), D.at S.l) :: (("kept" : Str), D.at S.k) :: (("many" : Str), D.int S.many) :: S.fx
def SC.dr (S : SC) : List (Key × D) := S.hs.map fun h => (.inr h.nm, .at h.ra)
def SC.df (S : SC) : List (Key × D) := S.ts.map fun x => (.inl x.n, .at x.sa)
def SC.dl (S : SC) : List (Key × D) := S.ts.map fun x => (.inl x.n, .str x.w)
def SC.dk (S : SC) : List (Key × D) := S.ts.map fun x => (.inl x.n, .at x.ka)
def SC.cells (C : Addr) (S : SC) : Cells := (S.t, .ins C S.flds) :: (S.r, .dK S.dr) :: (S.f, .dK S.df) :: (S.l, .dK S.dl) :: (S.k, .dK S.dk) ::
  (S.hs.map (fun h => (h.ra, O.lst (h.row.map .int))) ++ (S.ts.map (fun x => (x.sa, O.dK (slK x.sl))) ++ (S.ts.map (fun x => (x.ka, O.lst (x.ke.map hoD))) ++ S.xc)))
/-- the methods' names: no field bears one -/
def mths : List Str := ([ "sort_word", "anew", "copy_more", "marks_of", "come_in", "done", "add_hold", "end_hold", "holds_by", "hands", "things", "made", "has_thing", "want_thing", "want_hand", "want_had", "want_room", "want_owner", "had", "word_of", "slots", "in_slot", "have", "lose", "clear_slot", "fill", "make", "put", "show", "tie", "empty", "take", "give", "drop", "copied", "shape_of", "shape", "depth_of", "heft", "weight_of", "is_adrift", "is_loose", "loose", "deepest", "set_depth", "set_depths", "sink", "squeeze", "falls", "last_words", "crossing", "put_holds", "take_holds", "next_group", "plain_of", "fall", "cut_off", "settle"] : List String).map Str.ofString
structure St (C : Addr) (μ : Mu) (S : SC) : Prop where
  sits : Sits μ (S.cells C)
  hn : (S.hs.map Hd.nm).Nodup
  tn : (S.ts.map Th.n).Nodup
  mt : ∀ m ∈ mths, S.fx.lookup m = none
theorem mths_no : ∀ m ∈ mths, m ≠ "rows" ∧ m ≠ "filled" ∧ m ≠ "last" ∧ m ≠ "kept" ∧ m ≠ "many" := by decide +kernel
theorem look_ne {m k : Str} {d : D} {fs : List (Str × D)} (h : m ≠ k) : List.lookup m ((k, d) :: fs) = List.lookup m fs := by
  rw [List.lookup_cons]
  have : (m == k) = false := by simpa using h
  rw [this]
theorem St.lkm {C : Addr} {μ : Mu} {S : SC} (s : St C μ S) {m : Str} (h : m ∈ mths) : S.flds.lookup m = none := by
  obtain ⟨h1, h2, h3, h4, h5⟩ := mths_no m h
  unfold SC.flds
  rw [look_ne h1, look_ne h2, look_ne h3, look_ne h4, look_ne h5]
  exact s.mt m h
section
variable {C : Addr} {μ : Mu} {S : SC}
theorem St.ob (s : St C μ S) : μ S.t = some (.ins C S.flds) := s.sits.at_ (S.t, _) (by simp [SC.cells])
theorem St.rows (s : St C μ S) : μ S.r = some (.dK S.dr) := s.sits.at_ (S.r, _) (by simp [SC.cells])
theorem St.filled (s : St C μ S) : μ S.f = some (.dK S.df) := s.sits.at_ (S.f, _) (by simp [SC.cells])
theorem St.last (s : St C μ S) : μ S.l = some (.dK S.dl) := s.sits.at_ (S.l, _) (by simp [SC.cells])
theorem St.kept (s : St C μ S) : μ S.k = some (.dK S.dk) := s.sits.at_ (S.k, _) (by simp [SC.cells])
theorem mem_h {h : Hd} (m : h ∈ S.hs) : (h.ra, O.lst (h.row.map .int)) ∈ S.cells C := by
  simp only [SC.cells, List.mem_cons, List.mem_append, List.mem_map]
  exact .inr (.inr (.inr (.inr (.inr (.inl ⟨h, m, rfl⟩)))))
theorem mem_s {x : Th} (m : x ∈ S.ts) : (x.sa, O.dK (slK x.sl)) ∈ S.cells C := by
  simp only [SC.cells, List.mem_cons, List.mem_append, List.mem_map]
  exact .inr (.inr (.inr (.inr (.inr (.inr (.inl ⟨x, m, rfl⟩))))))
theorem mem_k {x : Th} (m : x ∈ S.ts) : (x.ka, O.lst (x.ke.map hoD)) ∈ S.cells C := by
  simp only [SC.cells, List.mem_cons, List.mem_append, List.mem_map]
  exact .inr (.inr (.inr (.inr (.inr (.inr (.inr (.inl ⟨x, m, rfl⟩)))))))
theorem St.row (s : St C μ S) {h : Hd} (m : h ∈ S.hs) : μ h.ra = some (.lst (h.row.map .int)) := s.sits.at_ _ (mem_h m)
theorem St.slots (s : St C μ S) {x : Th} (m : x ∈ S.ts) : μ x.sa = some (.dK (slK x.sl)) := s.sits.at_ _ (mem_s m)
theorem St.holds (s : St C μ S) {x : Th} (m : x ∈ S.ts) : μ x.ka = some (.lst (x.ke.map hoD)) := s.sits.at_ _ (mem_k m)
/-! a hand's row, a thing's slots, holds, otherwise -/
def SC.modH (S : SC) (nm : Str) (f : Hd → Hd) : SC := { S with hs := S.hs.map fun h => if h.nm = nm then f h else h }
def SC.modT (S : SC) (n : Int) (f : Th → Th) : SC := { S with ts := S.ts.map fun x => if x.n = n then f x else x }
/-- the addresses, part by part -/
structure Dj (S : SC) : Prop where
  ra : (S.hs.map Hd.ra).Nodup
  sa : (S.ts.map Th.sa).Nodup
  ka : (S.ts.map Th.ka).Nodup
  rs : ∀ h ∈ S.hs, ∀ x ∈ S.ts, h.ra ≠ x.sa
  rk : ∀ h ∈ S.hs, ∀ x ∈ S.ts, h.ra ≠ x.ka
  sk : ∀ x ∈ S.ts, ∀ y ∈ S.ts, x.sa ≠ y.ka
  rx : ∀ h ∈ S.hs, ∀ q ∈ S.xc, h.ra ≠ q.1
  sx : ∀ x ∈ S.ts, ∀ q ∈ S.xc, x.sa ≠ q.1
  kx : ∀ x ∈ S.ts, ∀ q ∈ S.xc, x.ka ≠ q.1
  xx : (S.xc.map (·.1)).Nodup
theorem foot_eq : foot (S.cells C) = S.t :: S.r :: S.f :: S.l :: S.k :: (S.hs.map Hd.ra ++ (S.ts.map Th.sa ++ (S.ts.map Th.ka ++ S.xc.map (·.1)))) := by
  simp only [foot, SC.cells, List.map_cons, List.map_append, List.map_map]
  rfl
theorem St.dj (s : St C μ S) : Dj S := by
  have nd : (foot (S.cells C)).Nodup := s.sits.nd
  rw [foot_eq] at nd
  simp only [List.nodup_cons] at nd
  have n1 := List.nodup_append.mp nd.2.2.2.2.2
  have n2 := List.nodup_append.mp n1.2.1
  have n3 := List.nodup_append.mp n2.2.1
  have mk : ∀ {α β : Type} {f : α → β} {l : List α} {x : α}, x ∈ l → f x ∈ l.map f := fun h => List.mem_map.mpr ⟨_, h, rfl⟩
  exact ⟨n1.1, n2.1, n3.1, fun h hh x hx => n1.2.2 _ (mk hh) _ (List.mem_append.mpr (.inl (mk hx))), fun h hh x hx => n1.2.2 _ (mk hh) _ (List.mem_append.mpr (.inr (List.mem_append.mpr (.inl (mk hx))))),
    fun x hx y hy => n2.2.2 _ (mk hx) _ (List.mem_append.mpr (.inl (mk hy))), fun h hh q hq => n1.2.2 _ (mk hh) _ (List.mem_append.mpr (.inr (List.mem_append.mpr (.inr (mk hq))))),
    fun x hx q hq => n2.2.2 _ (mk hx) _ (List.mem_append.mpr (.inr (mk hq))), fun x hx q hq => n3.2.2 _ (mk hx) _ (mk hq), n3.2.1⟩
theorem St.head (s : St C μ S) {a : Addr} (h : a ∈ S.hs.map Hd.ra ++ (S.ts.map Th.sa ++ (S.ts.map Th.ka ++ S.xc.map (·.1)))) : S.t ≠ a ∧ S.r ≠ a ∧ S.f ≠ a ∧ S.l ≠ a ∧ S.k ≠ a := by
  have nd : (foot (S.cells C)).Nodup := s.sits.nd
  rw [foot_eq] at nd
  simp only [List.nodup_cons, List.mem_cons, not_or] at nd
  refine ⟨fun e => nd.1.2.2.2.2 (e ▸ h), fun e => nd.2.1.2.2.2 (e ▸ h), fun e => nd.2.2.1.2.2 (e ▸ h), fun e => nd.2.2.2.1.2 (e ▸ h), fun e => nd.2.2.2.2.1 (e ▸ h)⟩
theorem in_ra {h : Hd} (m : h ∈ S.hs) : h.ra ∈ S.hs.map Hd.ra ++ (S.ts.map Th.sa ++ (S.ts.map Th.ka ++ S.xc.map (·.1))) := List.mem_append.mpr (.inl (List.mem_map.mpr ⟨h, m, rfl⟩))
theorem in_sa {x : Th} (m : x ∈ S.ts) : x.sa ∈ S.hs.map Hd.ra ++ (S.ts.map Th.sa ++ (S.ts.map Th.ka ++ S.xc.map (·.1))) := List.mem_append.mpr (.inr (List.mem_append.mpr (.inl (List.mem_map.mpr ⟨x, m, rfl⟩))))
theorem in_ka {x : Th} (m : x ∈ S.ts) : x.ka ∈ S.hs.map Hd.ra ++ (S.ts.map Th.sa ++ (S.ts.map Th.ka ++ S.xc.map (·.1))) := List.mem_append.mpr (.inr (List.mem_append.mpr (.inr (List.mem_append.mpr (.inl (List.mem_map.mpr ⟨x, m, rfl⟩))))))
theorem foot_of {a : Addr} (h : a ∈ S.hs.map Hd.ra ++ (S.ts.map Th.sa ++ (S.ts.map Th.ka ++ S.xc.map (·.1)))) : a ∈ foot (S.cells C) := by
  rw [foot_eq]
  simp only [List.mem_cons]
  exact .inr (.inr (.inr (.inr (.inr h))))
/-- what a changed cell leaves -/
theorem St.cell (s : St C μ S) {S' : SC} {a : Addr} {o : O} (ia : a ∈ S.hs.map Hd.ra ++ (S.ts.map Th.sa ++ (S.ts.map Th.ka ++ S.xc.map (·.1)))) (e : S'.t = S.t ∧ S'.r = S.r ∧ S'.f = S.f ∧ S'.l = S.l ∧ S'.k = S.k ∧ S'.flds = S.flds ∧ S'.xc = S.xc) (e1 : S'.dr = S.dr) (e2 : S'.df = S.df) (e3 : S'.dl = S.dl) (e4 : S'.dk = S.dk)
    (ra : S'.hs.map Hd.ra = S.hs.map Hd.ra) (sa : S'.ts.map Th.sa = S.ts.map Th.sa) (ka : S'.ts.map Th.ka = S.ts.map Th.ka) (hh : ∀ h ∈ S'.hs, (h.ra, O.lst (h.row.map .int)) = (a, o) ∨ ∃ g ∈ S.hs, g.ra = h.ra ∧ g.row = h.row ∧ g.ra ≠ a)
    (hs : ∀ x ∈ S'.ts, (x.sa, O.dK (slK x.sl)) = (a, o) ∨ ∃ y ∈ S.ts, y.sa = x.sa ∧ y.sl = x.sl ∧ y.sa ≠ a) (hk : ∀ x ∈ S'.ts, (x.ka, O.lst (x.ke.map hoD)) = (a, o) ∨ ∃ y ∈ S.ts, y.ka = x.ka ∧ y.ke = x.ke ∧ y.ka ≠ a) (hx : ∀ q ∈ S.xc, q.1 ≠ a) (hn : (S'.hs.map Hd.nm).Nodup) (tn : (S'.ts.map Th.n).Nodup) (ef : S'.fx = S.fx := by rfl) : St C (put μ a o) S' := by
  obtain ⟨t1, t2, t3, t4, t5⟩ := s.head ia
  obtain ⟨e5, e6, e7, e8, e9, e10, e11⟩ := e
  refine ⟨s.sits.upd ?_ fun q hq => ?_, hn, tn, by rw [ef]; exact s.mt⟩
  · show foot (S'.cells C) = foot (S.cells C)
    rw [foot_eq, foot_eq, ra, sa, ka, e5, e6, e7, e8, e9, e11]
  · simp only [SC.cells, List.mem_cons, List.mem_append, List.mem_map] at hq
    rcases hq with rfl | rfl | rfl | rfl | rfl | ⟨h, m, rfl⟩ | ⟨x, m, rfl⟩ | ⟨x, m, rfl⟩ | m
    · rw [e5, e10]
      exact .inr ⟨by simp [SC.cells], t1⟩
    · rw [e6, e1]
      exact .inr ⟨by simp [SC.cells], t2⟩
    · rw [e7, e2]
      exact .inr ⟨by simp [SC.cells], t3⟩
    · rw [e8, e3]
      exact .inr ⟨by simp [SC.cells], t4⟩
    · rw [e9, e4]
      exact .inr ⟨by simp [SC.cells], t5⟩
    · rcases hh h m with z | ⟨g, mg, g1, g2, g3⟩
      · exact .inl z
      · rw [← g1, ← g2]
        exact .inr ⟨mem_h mg, g3⟩
    · rcases hs x m with z | ⟨g, mg, g1, g2, g3⟩
      · exact .inl z
      · rw [← g1, ← g2]
        exact .inr ⟨mem_s mg, g3⟩
    · rcases hk x m with z | ⟨g, mg, g1, g2, g3⟩
      · exact .inl z
      · rw [← g1, ← g2]
        exact .inr ⟨mem_k mg, g3⟩
    · rw [e11] at m
      refine .inr ⟨?_, hx q m⟩
      simp only [SC.cells, List.mem_cons, List.mem_append]
      exact .inr (.inr (.inr (.inr (.inr (.inr (.inr (.inr m)))))))
theorem modH_map {β : Type} {g : Hd → β} {nm : Str} {f : Hd → Hd} (h : ∀ x, g (f x) = g x) : (S.modH nm f).hs.map g = S.hs.map g := by
  unfold SC.modH
  rw [List.map_map]
  refine List.map_congr_left fun x _ => ?_
  show g (if x.nm = nm then f x else x) = g x
  split
  · exact h x
  · rfl
theorem modT_map {β : Type} {g : Th → β} {n : Int} {f : Th → Th} (h : ∀ x, g (f x) = g x) : (S.modT n f).ts.map g = S.ts.map g := by
  unfold SC.modT
  rw [List.map_map]
  refine List.map_congr_left fun x _ => ?_
  show g (if x.n = n then f x else x) = g x
  split
  · exact h x
  · rfl
theorem mem_modH {nm : Str} {f : Hd → Hd} {h : Hd} (m : h ∈ (S.modH nm f).hs) : ∃ g ∈ S.hs, h = if g.nm = nm then f g else g := by
  obtain ⟨g, hg, e⟩ := List.mem_map.mp m
  exact ⟨g, hg, e.symm⟩
theorem mem_modT {n : Int} {f : Th → Th} {x : Th} (m : x ∈ (S.modT n f).ts) : ∃ y ∈ S.ts, x = if y.n = n then f y else y := by
  obtain ⟨g, hg, e⟩ := List.mem_map.mp m
  exact ⟨g, hg, e.symm⟩
/-- a hand's row otherwise -/
theorem St.setRow (s : St C μ S) {h : Hd} (m : h ∈ S.hs) (row : List Int) : St C (put μ h.ra (.lst (row.map .int))) (S.modH h.nm fun g => { g with row := row }) := by
  have d := s.dj
  refine s.cell (in_ra m) ⟨rfl, rfl, rfl, rfl, rfl, rfl, rfl⟩ (modH_map fun _ => rfl) rfl rfl rfl (modH_map fun _ => rfl) rfl rfl (fun g mg => ?_) (fun x mx => .inr ⟨x, mx, rfl, rfl, (d.rs h m x mx).symm⟩) (fun x mx => .inr ⟨x, mx, rfl, rfl, (d.rk h m x mx).symm⟩) (fun q mq => (d.rx h m q mq).symm) ?_ s.tn
  · obtain ⟨g0, m0, rfl⟩ := mem_modH mg
    by_cases e : g0.nm = h.nm
    · cases nd_eq s.hn m0 m e
      rw [if_pos rfl]
      exact .inl rfl
    · rw [if_neg e]
      exact .inr ⟨g0, m0, rfl, rfl, fun z => e (by rw [nd_eq d.ra m0 m z])⟩
  · have e := modH_map (S := S) (g := Hd.nm) (nm := h.nm) (f := fun g => { g with row := row }) fun _ => rfl
    rw [e]
    exact s.hn
/-- a thing's slots otherwise -/
theorem St.setSl (s : St C μ S) {x : Th} (m : x ∈ S.ts) (sl : List (Str × Rw)) : St C (put μ x.sa (.dK (slK sl))) (S.modT x.n fun y => { y with sl := sl }) := by
  have d := s.dj
  refine s.cell (in_sa m) ⟨rfl, rfl, rfl, rfl, rfl, rfl, rfl⟩ rfl (modT_map fun _ => rfl) (modT_map fun _ => rfl) (modT_map fun _ => rfl) rfl (modT_map fun _ => rfl) (modT_map fun _ => rfl) (fun g mg => .inr ⟨g, mg, rfl, rfl, d.rs g mg x m⟩) (fun y my => ?_) (fun y my => ?_) (fun q mq => (d.sx x m q mq).symm) s.hn ?_
  · obtain ⟨y0, m0, rfl⟩ := mem_modT my
    by_cases e : y0.n = x.n
    · cases nd_eq s.tn m0 m e
      rw [if_pos rfl]
      exact .inl rfl
    · rw [if_neg e]
      exact .inr ⟨y0, m0, rfl, rfl, fun z => e (by rw [nd_eq d.sa m0 m z])⟩
  · obtain ⟨y0, m0, rfl⟩ := mem_modT my
    refine .inr ⟨y0, m0, ?_, ?_, (d.sk x m y0 m0).symm⟩ <;> split <;> rfl
  · have e := modT_map (S := S) (g := Th.n) (n := x.n) (f := fun y => { y with sl := sl }) fun _ => rfl
    rw [e]
    exact s.tn
/-- a thing's holds otherwise -/
theorem St.setKe (s : St C μ S) {x : Th} (m : x ∈ S.ts) (ke : List (List Int)) : St C (put μ x.ka (.lst (ke.map hoD))) (S.modT x.n fun y => { y with ke := ke }) := by
  have d := s.dj
  refine s.cell (in_ka m) ⟨rfl, rfl, rfl, rfl, rfl, rfl, rfl⟩ rfl (modT_map fun _ => rfl) (modT_map fun _ => rfl) (modT_map fun _ => rfl) rfl (modT_map fun _ => rfl) (modT_map fun _ => rfl) (fun g mg => .inr ⟨g, mg, rfl, rfl, d.rk g mg x m⟩) (fun y my => ?_) (fun y my => ?_) (fun q mq => (d.kx x m q mq).symm) s.hn ?_
  · obtain ⟨y0, m0, rfl⟩ := mem_modT my
    refine .inr ⟨y0, m0, ?_, ?_, d.sk y0 m0 x m⟩ <;> split <;> rfl
  · obtain ⟨y0, m0, rfl⟩ := mem_modT my
    by_cases e : y0.n = x.n
    · cases nd_eq s.tn m0 m e
      rw [if_pos rfl]
      exact .inl rfl
    · rw [if_neg e]
      exact .inr ⟨y0, m0, rfl, rfl, fun z => e (by rw [nd_eq d.ka m0 m z])⟩
  · have e := modT_map (S := S) (g := Th.n) (n := x.n) (f := fun y => { y with ke := ke }) fun _ => rfl
    rw [e]
    exact s.tn
end
end Dl
namespace Dl
open PySem PySem.Spec PyProof.Rows L2
/-! ### dicts told by a list -/
section
variable {α κ : Type} [DecidableEq κ]
theorem at_in {f : α → κ} {g : α → D} : ∀ {l : List α}, (l.map f).Nodup → ∀ {x : α}, x ∈ l → atD (l.map fun x => (f x, g x)) (f x) = some (g x)
  | [], _, _, h => by cases h
  | z :: l, nd, x, h => by
    rw [List.map_cons, List.nodup_cons] at nd
    unfold atD
    rw [List.map_cons, List.find?_cons]
    by_cases e : f z = f x
    · rw [decide_eq_true (show ((f z, g z) : κ × D).1 = f x from e)]
      rcases List.mem_cons.mp h with rfl | h
      · rfl
      · exact (nd.1 (by rw [e]; exact List.mem_map.mpr ⟨x, h, rfl⟩)).elim
    · rw [decide_eq_false (show ¬ ((f z, g z) : κ × D).1 = f x from e)]
      rcases List.mem_cons.mp h with rfl | h
      · exact (e rfl).elim
      · exact at_in nd.2 h
theorem at_is {f : α → κ} {g : α → D} {k : κ} : ∀ {l : List α}, (atD (l.map fun x => (f x, g x)) k).isSome = decide (k ∈ l.map f)
  | [] => rfl
  | z :: l => by
    unfold atD
    rw [List.map_cons, List.find?_cons]
    by_cases e : f z = k
    · rw [decide_eq_true (show ((f z, g z) : κ × D).1 = k from e), decide_eq_true (by rw [List.map_cons, e]; exact List.mem_cons_self)]
      rfl
    · rw [decide_eq_false (show ¬ ((f z, g z) : κ × D).1 = k from e)]
      have ih := at_is (f := f) (g := g) (k := k) (l := l)
      unfold atD at ih
      rw [ih]
      refine decide_eq_decide.mpr ⟨fun h => List.mem_cons_of_mem _ h, fun h => ?_⟩
      rcases List.mem_cons.mp h with h | h
      · exact (e h.symm).elim
      · exact h
theorem any_is {f : α → κ} {g : α → D} {k : κ} (l : List α) : ((l.map fun x => (f x, g x)).any fun kv => decide (kv.1 = k)) = decide (k ∈ l.map f) := by
  induction l with
  | nil => rfl
  | cons z l ih =>
    rw [List.map_cons, List.any_cons, ih, List.map_cons]
    by_cases e : f z = k
    · simp [e]
    · have e' : ¬ k = f z := fun h => e h.symm
      simp [e, e']
theorem put_new {f : α → κ} {g : α → D} {k : κ} {v : D} {l : List α} (h : k ∉ l.map f) : putD (l.map fun x => (f x, g x)) k v = (l.map fun x => (f x, g x)) ++ [(k, v)] := by
  unfold putD
  rw [any_is, decide_eq_false h]
  rfl
theorem drop_map {f : α → κ} {g : α → D} {k : κ} {l : List α} : dropD (l.map fun x => (f x, g x)) k = (l.filter fun x => decide (f x ≠ k)).map fun x => (f x, g x) := by
  unfold dropD
  rw [List.filter_map]
  rfl
theorem put_old {f : α → κ} {g : α → D} {k : κ} {v : D} {l : List α} (h : k ∈ l.map f) : putD (l.map fun x => (f x, g x)) k v = l.map fun x => (f x, if f x = k then v else g x) := by
  unfold putD
  rw [any_is, decide_eq_true h, if_pos rfl, List.map_map]
  refine List.map_congr_left fun x _ => ?_
  show (if f x = k then (f x, v) else (f x, g x)) = _
  split <;> rfl
end
theorem nodup_inr {α : Type} {f : α → Str} : ∀ {l : List α}, (l.map f).Nodup → (l.map fun x => (Sum.inr (f x) : Key)).Nodup
  | [], _ => List.nodup_nil
  | x :: l, h => by
    rw [List.map_cons, List.nodup_cons] at h
    rw [List.map_cons, List.nodup_cons]
    refine ⟨fun m => h.1 ?_, nodup_inr h.2⟩
    obtain ⟨y, hy, e⟩ := List.mem_map.mp m
    exact List.mem_map.mpr ⟨y, hy, Sum.inr.inj e⟩
theorem nodup_inl {α : Type} {f : α → Int} : ∀ {l : List α}, (l.map f).Nodup → (l.map fun x => (Sum.inl (f x) : Key)).Nodup
  | [], _ => List.nodup_nil
  | x :: l, h => by
    rw [List.map_cons, List.nodup_cons] at h
    rw [List.map_cons, List.nodup_cons]
    refine ⟨fun m => h.1 ?_, nodup_inl h.2⟩
    obtain ⟨y, hy, e⟩ := List.mem_map.mp m
    exact List.mem_map.mpr ⟨y, hy, Sum.inl.inj e⟩
theorem mem_inr {α : Type} {f : α → Str} {l : List α} {k : Str} : (Sum.inr k : Key) ∈ (l.map fun x => (Sum.inr (f x) : Key)) ↔ k ∈ l.map f := by
  simp only [List.mem_map, Sum.inr.injEq]
theorem mem_inl {α : Type} {f : α → Int} {l : List α} {k : Int} : (Sum.inl k : Key) ∈ (l.map fun x => (Sum.inl (f x) : Key)) ↔ k ∈ l.map f := by
  simp only [List.mem_map, Sum.inl.injEq]
/-! ### slots -/
def getA (sl : List (Str × Rw)) (k : Str) : Option Rw := (sl.find? fun q => decide (q.1 = k)).map (·.2)
def dropA (sl : List (Str × Rw)) (k : Str) : List (Str × Rw) := sl.filter fun q => decide (q.1 ≠ k)
def putA (sl : List (Str × Rw)) (k : Str) (r : Rw) : List (Str × Rw) := if k ∈ sl.map (·.1) then sl.map (fun q => if q.1 = k then (q.1, r) else q) else sl ++ [(k, r)]
theorem slK_at (sl : List (Str × Rw)) (k : Str) : atD (slK sl) (.inr k) = (getA sl k).map Rw.D := by
  unfold slK getA atD
  induction sl with
  | nil => rfl
  | cons q sl ih =>
    rw [List.map_cons, List.find?_cons, List.find?_cons]
    by_cases e : q.1 = k
    · rw [decide_eq_true e, decide_eq_true (show (((Sum.inr q.1 : Key), q.2.D) : Key × D).1 = .inr k from by rw [e])]
      rfl
    · rw [decide_eq_false e, decide_eq_false (show ¬ (((Sum.inr q.1 : Key), q.2.D) : Key × D).1 = .inr k from fun h => e (Sum.inr.inj h))]
      exact ih
theorem slK_drop (sl : List (Str × Rw)) (k : Str) : dropD (slK sl) (.inr k) = slK (dropA sl k) := by
  unfold slK dropA
  rw [drop_map]
  congr 1
  refine List.filter_congr fun q _ => ?_
  refine decide_eq_decide.mpr ⟨fun h e => h (by rw [e]), fun h e => h (Sum.inr.inj e)⟩
theorem slK_put (sl : List (Str × Rw)) (k : Str) (r : Rw) : putD (slK sl) (.inr k) r.D = slK (putA sl k r) := by
  unfold putA
  by_cases h : k ∈ sl.map (·.1)
  · rw [if_pos h]
    unfold slK
    rw [put_old (mem_inr.mpr h), List.map_map]
    refine List.map_congr_left fun q _ => ?_
    show ((Sum.inr q.1 : Key), if (Sum.inr q.1 : Key) = .inr k then r.D else q.2.D) = ((Sum.inr (if q.1 = k then (q.1, r) else q).1 : Key), (if q.1 = k then (q.1, r) else q).2.D)
    by_cases e : q.1 = k
    · rw [if_pos e, if_pos (by rw [e])]
    · rw [if_neg e, if_neg fun h => e (Sum.inr.inj h)]
  · rw [if_neg h]
    unfold slK
    rw [put_new fun m => h (mem_inr.mp m), List.map_append]
    rfl
theorem getA_some {sl : List (Str × Rw)} {k : Str} {r : Rw} (h : getA sl k = some r) : (k, r) ∈ sl := by
  unfold getA at h
  cases e : sl.find? fun q => decide (q.1 = k) with
  | none => rw [e] at h; cases h
  | some q =>
    rw [e] at h
    have h1 := List.mem_of_find?_eq_some e
    have h2 := List.find?_some e
    have h3 : q.1 = k := by simpa using h2
    have h4 : q.2 = r := by simpa using h
    rw [← h3, ← h4]
    exact h1
theorem getA_is {sl : List (Str × Rw)} {k : Str} : (getA sl k).isSome = decide (k ∈ sl.map (·.1)) := by
  have g := at_is (κ := Key) (f := fun q : Str × Rw => Sum.inr q.1) (g := fun q => q.2.D) (k := .inr k) (l := sl)
  have e := slK_at sl k
  unfold slK at e
  rw [e, Option.isSome_map] at g
  rw [g]
  exact decide_eq_decide.mpr mem_inr
/-! ### a store's dicts read -/
section
variable {C : Addr} {μ : Mu} {S : SC} {T : D → Prop} {R : Option D → Prop}
theorem rd_getRow (s : St C μ S) {h : Hd} (m : h ∈ S.hs) (q : T (.at h.ra)) : ∃ v, GetD μ (.at S.r) (.str h.nm) (some v) ∧ T v :=
  ⟨_, .inl ⟨S.dr, .inr h.nm, .inl s.rows, rfl, (at_in (f := fun h : Hd => (Sum.inr h.nm : Key)) (g := fun h => D.at h.ra) (nodup_inr s.hn) m).symm⟩, q⟩
theorem rd_hasRow (s : St C μ S) {nm : Str} (q : ∀ o : Option D, o.isSome = decide (nm ∈ S.hs.map Hd.nm) → R o) : ∃ o, GetD μ (.at S.r) (.str nm) o ∧ R o :=
  ⟨_, .inl ⟨S.dr, .inr nm, .inl s.rows, rfl, rfl⟩, q _ (by
    have g := at_is (f := fun h : Hd => (Sum.inr h.nm : Key)) (g := fun h => D.at h.ra) (k := .inr nm) (l := S.hs)
    refine (show _ = _ from g).trans (decide_eq_decide.mpr mem_inr))⟩
theorem rd_getSl (s : St C μ S) {x : Th} (m : x ∈ S.ts) (q : T (.at x.sa)) : ∃ v, GetD μ (.at S.f) (.int x.n) (some v) ∧ T v :=
  ⟨_, .inl ⟨S.df, .inl x.n, .inl s.filled, rfl, (at_in (f := fun x : Th => (Sum.inl x.n : Key)) (g := fun x => D.at x.sa) (nodup_inl s.tn) m).symm⟩, q⟩
theorem rd_hasSl (s : St C μ S) {n : Int} (q : ∀ o : Option D, o.isSome = decide (n ∈ S.ts.map Th.n) → R o) : ∃ o, GetD μ (.at S.f) (.int n) o ∧ R o :=
  ⟨_, .inl ⟨S.df, .inl n, .inl s.filled, rfl, rfl⟩, q _ (by
    have g := at_is (f := fun x : Th => (Sum.inl x.n : Key)) (g := fun x => D.at x.sa) (k := .inl n) (l := S.ts)
    refine (show _ = _ from g).trans (decide_eq_decide.mpr mem_inl))⟩
theorem rd_getKe (s : St C μ S) {x : Th} (m : x ∈ S.ts) (q : T (.at x.ka)) : ∃ v, GetD μ (.at S.k) (.int x.n) (some v) ∧ T v :=
  ⟨_, .inl ⟨S.dk, .inl x.n, .inl s.kept, rfl, (at_in (f := fun x : Th => (Sum.inl x.n : Key)) (g := fun x => D.at x.ka) (nodup_inl s.tn) m).symm⟩, q⟩
/-- what is in a slot -/
theorem rd_getRw {a : Addr} {sl : List (Str × Rw)} {k : Str} {r : Rw} (h : μ a = some (.dK (slK sl))) (g : getA sl k = some r) (q : T r.D) : ∃ v, GetD μ (.at a) (.str k) (some v) ∧ T v :=
  ⟨_, .inl ⟨_, .inr k, .inl h, rfl, by rw [slK_at, g]; rfl⟩, q⟩
theorem rd_optRw {a : Addr} {sl : List (Str × Rw)} {k : Str} (h : μ a = some (.dK (slK sl))) (q : R ((getA sl k).map Rw.D)) : ∃ o, GetD μ (.at a) (.str k) o ∧ R o :=
  ⟨_, .inl ⟨_, .inr k, .inl h, rfl, (slK_at sl k).symm⟩, q⟩
theorem rd_putRw {a : Addr} {sl : List (Str × Rw)} {k : Str} {r : Rw} {Q : Mu → Prop} (h : μ a = some (.dK (slK sl))) (hl : sl.length ≤ 1000) (q : Q (put μ a (.dK (slK (putA sl k r))))) : PutD μ (.at a) (.str k) r.D Q :=
  .inl ⟨_, .inr k, h, rfl, by unfold slK; rw [List.length_map]; omega, by rw [slK_put]; exact q⟩
end
/-! ### a new thing -/
def SC.addTh (S : SC) (x : Th) : SC := { S with ts := S.ts ++ [x], many := S.many + 1 }
section
variable {C : Addr} {μ μ1 : Mu} {S : SC}
theorem St.addTh (s : St C μ S) {x : Th} (h1 : μ x.sa = none) (h2 : μ x.ka = none) (h3 : x.ka ≠ x.sa) (hn : x.n ∉ S.ts.map Th.n) (oth : ∀ a, a ≠ S.t → a ≠ S.f → a ≠ S.l → a ≠ S.k → a ≠ x.sa → a ≠ x.ka → μ1 a = μ a)
    (e1 : μ1 S.t = some (.ins C (S.addTh x).flds)) (e2 : μ1 S.f = some (.dK (S.addTh x).df)) (e3 : μ1 S.l = some (.dK (S.addTh x).dl)) (e4 : μ1 S.k = some (.dK (S.addTh x).dk)) (e5 : μ1 x.sa = some (.dK (slK x.sl))) (e6 : μ1 x.ka = some (.lst (x.ke.map hoD))) : St C μ1 (S.addTh x) := by
  have f1 := s.sits.fresh h1
  have f2 := s.sits.fresh h2
  have nd : (foot (S.cells C)).Nodup := s.sits.nd
  have p : (foot ((S.addTh x).cells C)).Perm (x.sa :: x.ka :: foot (S.cells C)) := by
    rw [foot_eq, foot_eq]
    simp only [SC.addTh, List.map_append, List.map_cons, List.map_nil]
    refine List.perm_iff_count.mpr fun a => ?_
    simp only [List.count_cons, List.count_append, List.count_nil]
    omega
  have nd' : (foot ((S.addTh x).cells C)).Nodup := by
    rw [p.nodup_iff, List.nodup_cons, List.nodup_cons]
    refine ⟨fun m => ?_, f2, nd⟩
    rcases List.mem_cons.mp m with e | m
    · exact h3 e.symm
    · exact f1 m
  have old : ∀ {a : Addr}, a ∈ S.hs.map Hd.ra ++ (S.ts.map Th.sa ++ (S.ts.map Th.ka ++ S.xc.map (·.1))) → μ1 a = μ a := fun {a} m => by
    obtain ⟨t1, _, t3, t4, t5⟩ := s.head m
    exact oth a t1.symm t3.symm t4.symm t5.symm (fun e => f1 (e ▸ foot_of m)) fun e => f2 (e ▸ foot_of m)
  refine ⟨⟨fun q hq => ?_, nd'⟩, s.hn, ?_, s.mt⟩
  · simp only [SC.cells, List.mem_cons, List.mem_append, List.mem_map] at hq
    rcases hq with rfl | rfl | rfl | rfl | rfl | ⟨h, m, rfl⟩ | ⟨y, m, rfl⟩ | ⟨y, m, rfl⟩ | m
    · exact e1
    · have nd2 := nd
      rw [foot_eq] at nd2
      simp only [List.nodup_cons, List.mem_cons, not_or] at nd2
      show μ1 S.r = some (.dK S.dr)
      have ir : S.r ∈ foot (S.cells C) := by rw [foot_eq]; simp
      rw [oth S.r (fun e => nd2.1.1 e.symm) nd2.2.1.1 nd2.2.1.2.1 nd2.2.1.2.2.1 (fun e => f1 (e ▸ ir)) (fun e => f2 (e ▸ ir))]
      exact s.rows
    · exact e2
    · exact e3
    · exact e4
    · show μ1 h.ra = _
      rw [old (in_ra m)]
      exact s.row m
    · rcases List.mem_append.mp (show y ∈ S.ts ++ [x] from m) with m | m
      · show μ1 y.sa = _
        rw [old (in_sa m)]
        exact s.slots m
      · cases List.mem_singleton.mp m
        exact e5
    · rcases List.mem_append.mp (show y ∈ S.ts ++ [x] from m) with m | m
      · show μ1 y.ka = _
        rw [old (in_ka m)]
        exact s.holds m
      · cases List.mem_singleton.mp m
        exact e6
    · have m' : q ∈ S.xc := m
      rw [old (List.mem_append.mpr (.inr (List.mem_append.mpr (.inr (List.mem_append.mpr (.inr (List.mem_map.mpr ⟨q, m', rfl⟩)))))))]
      exact s.sits.at_ q (by
        simp only [SC.cells, List.mem_cons, List.mem_append]
        exact .inr (.inr (.inr (.inr (.inr (.inr (.inr (.inr m'))))))))
  · show ((S.ts ++ [x]).map Th.n).Nodup
    rw [List.map_append, List.nodup_append]
    refine ⟨s.tn, by simp, fun a ha b hb => ?_⟩
    cases List.mem_singleton.mp hb
    exact fun e => hn (e ▸ ha)
end
end Dl
namespace Dl
open PySem PySem.Spec PyProof.Rows L2
/-! ### names, whole numbers, counts -/
def letters : Str := "abcdefghijklmnopqrstuvwxyz"
def isLet (c : Nat) : Bool := decide (c ∈ letters.cps.toList)
def nameB (x : Str) : Bool := decide (1 ≤ x.length) && decide (x.length ≤ 8) && x.cps.toList.all isLet
def wholeB : D → Bool
  | .int _ => true
  | _ => false
def countB : D → Bool
  | .int i => decide (0 ≤ i)
  | _ => false
theorem kind_cases {μ : Mu} {d : D} {n : String} (h : kindD μ d n) (hn : n ∈ dataTys) : (∃ i, d = .int i ∧ n = "int") ∨ (wholeB d = false ∧ n ≠ "int") := by
  cases d with
  | int i => exact .inl ⟨i, rfl, h⟩
  | non => exact .inr ⟨rfl, by rw [show n = "NoneType" from h]; decide⟩
  | bl b => exact .inr ⟨rfl, by rw [show n = "bool" from h]; decide⟩
  | str x => exact .inr ⟨rfl, by rw [show n = "str" from h]; decide⟩
  | ty x => exact h.elim
  | lst x => exact .inr ⟨rfl, by rw [show n = "list" from h]; decide⟩
  | tup x => exact .inr ⟨rfl, by rw [show n = "tuple" from h]; decide⟩
  | «at» a =>
    refine .inr ⟨rfl, ?_⟩
    rcases h with ⟨_, e⟩ | ⟨_, e⟩ | ⟨_, e⟩ <;> rw [e] <;> decide
theorem nameB_len {x : Str} (h : nameB x = true) : 1 ≤ x.length ∧ x.length ≤ 8 := by
  unfold nameB at h
  simp only [Bool.and_eq_true, decide_eq_true_eq] at h
  exact ⟨h.1.1, h.1.2⟩
theorem len_cps (x : Str) : x.length = x.cps.toList.length := by
  show x.cps.size = _
  simp
/-- all(..) of truths told by a test -/
theorem rd_allB {μ : Mu} {Q : DQ} {bs : List Bool} (q : Q (.bl (bs.all id)) μ) : fAll [.lst (bs.map .bl)] μ Q := ⟨_, bs, rfl, rfl, q⟩
theorem rd_inS {c : Nat} {z : Str} {μ : Mu} {Q : DQ} (q : Q (.bl (decide (c ∈ z.cps.toList))) μ) : fInS false (.str ⟨#[c]⟩) (.str z) μ Q := ⟨c, z, rfl, rfl, q⟩
theorem eqv_str (a b : Str) : PyData.eqv (.str a) (.str b) = decide (a = b) := by
  simp only [PyData.eqv]
  rw [Bool.beq_eq_decide_eq]
theorem eqv_int (a b : Int) : PyData.eqv (.int a) (.int b) = decide (a = b) := by
  simp only [PyData.eqv]
  rw [Bool.beq_eq_decide_eq]
theorem depthAll_flat {α : Type} {f : α → PyData} (h : ∀ x, (f x).depth = 0) : ∀ l : List α, PyData.depthAll (l.map f) = 0
  | [] => rfl
  | x :: l => by simp [PyData.depthAll, h x, depthAll_flat h l]
/-- a text among texts, a number among numbers -/
theorem rd_inStrs {μ : Mu} {e : D} {xs : List Str} {x : Str} {Q : DQ} {n : Bool} (h : Ls μ e (xs.map .str)) (q : Q (.bl (if n then !decide (x ∈ xs) else decide (x ∈ xs))) μ) : fIn n (.str x) e μ Q := by
  refine ⟨.str x, xs.map .str, .str x, .inl (h.rs (Rss.map fun x _ => .str x)), by rw [depthAll_flat (fun x => rfl)]; simp [PyData.depth], ?_⟩
  have e : (xs.map PyData.str).any (fun z => PyData.eqv z (.str x)) = decide (x ∈ xs) := by
    rw [List.any_map]
    induction xs with
    | nil => rfl
    | cons y ys ih =>
      rw [List.any_cons]
      have ih' : ys.any ((fun z => PyData.eqv z (.str x)) ∘ PyData.str) = decide (x ∈ ys) := by
        clear ih q h
        induction ys with
        | nil => rfl
        | cons z zs ih =>
          rw [List.any_cons, ih]
          show (PyData.eqv (.str z) (.str x) || _) = _
          rw [eqv_str]
          by_cases c : z = x
          · simp [c]
          · have c' : ¬ x = z := fun h => c h.symm
            simp [c, c']
      rw [ih']
      show (PyData.eqv (.str y) (.str x) || _) = _
      rw [eqv_str]
      by_cases c : y = x
      · simp [c]
      · have c' : ¬ x = y := fun h => c h.symm
        simp [c, c']
  rw [e]
  exact q
theorem any_int (x : Int) : ∀ xs : List Int, (xs.map PyData.int).any (fun z => PyData.eqv z (.int x)) = decide (x ∈ xs)
  | [] => rfl
  | y :: ys => by
    rw [List.map_cons, List.any_cons, any_int x ys, eqv_int]
    by_cases c : y = x
    · simp [c]
    · have c' : ¬ x = y := fun h => c h.symm
      simp [c, c']
theorem rd_inInts {μ : Mu} {e : D} {xs : List Int} {x : Int} {Q : DQ} {n : Bool} (h : Ls μ e (xs.map .int)) (q : Q (.bl (if n then !decide (x ∈ xs) else decide (x ∈ xs))) μ) : fIn n (.int x) e μ Q := by
  refine ⟨.int x, xs.map .int, .int x, .inl (h.rs (Rss.map fun x _ => .int x)), by rw [depthAll_flat (fun x => rfl)]; simp [PyData.depth], ?_⟩
  rw [any_int]
  exact q
theorem rd_lenD {μ : Mu} {p : Addr} {kvs : List (Key × D)} {Q : DQ} (h : μ p = some (.dK kvs)) (q : Q (.int kvs.length) μ) : fLenD [.at p] μ Q := ⟨p, kvs, rfl, h, q⟩
theorem je_gi {B : Bs} {X : Cx} {x : Str} {i : Int} {pos : Pos} (h : ∃ t, X.mg x = some (.int i t)) (hg : Gl X x := by rfl) (hd : (x == ("__debug__" : Str)) = false := by decide) : JE B X (.Name x pos) (wC (.int i)) := by
  obtain ⟨t, h⟩ := h
  exact je_gint h hg hd
theorem je_gs {B : Bs} {X : Cx} {x z : Str} {pos : Pos} (h : ∃ t, X.mg x = some (.str z t)) (hg : Gl X x := by rfl) (hd : (x == ("__debug__" : Str)) = false := by decide) : JE B X (.Name x pos) (wC (.str z)) := by
  obtain ⟨t, h⟩ := h
  exact je_gstr h hg hd
theorem cutL_take {α : Type} {xs : List α} {i : Nat} (h : i ≤ xs.length) : cutL xs none (some (i : Int)) = xs.take i := by
  unfold cutL
  have e1 : HT.sIx xs.length 0 none = 0 := rfl
  have e2 : HT.sIx xs.length xs.length (some (i : Int)) = i := by
    rw [HT.sIx_nat]
    omega
  rw [e1, e2, List.drop_zero, Nat.sub_zero]
theorem cutL_drop {α : Type} {xs : List α} {i : Nat} (h : i ≤ xs.length) : cutL xs (some (i : Int)) none = xs.drop i := by
  unfold cutL
  have e1 : HT.sIx xs.length xs.length none = xs.length := rfl
  have e2 : HT.sIx xs.length 0 (some (i : Int)) = i := by
    rw [HT.sIx_nat]
    omega
  rw [e1, e2]
  exact List.take_of_length_le (by simp)
end Dl
namespace Dl
open PySem PySem.Spec PyProof.Rows L2
/-! ### what deeds do to a store, told without the heap -/
def woLast (row : List Int) (n : Int) : List Int := row.eraseIdx (row.length - 1 - row.reverse.idxOf n)
def SC.addKe (S : SC) (n : Int) (h : List Int) : SC := S.modT n fun x => { x with ke := x.ke ++ [h] }
def SC.delKe (S : SC) (n : Int) (h : List Int) : SC := S.modT n fun x => { x with ke := x.ke.erase h }
def SC.addKes (S : SC) (ps : List (Int × List Int)) : SC := ps.foldl (fun S p => S.addKe p.1 p.2) S
def SC.delKes (S : SC) (ps : List (Int × List Int)) : SC := ps.foldl (fun S p => S.delKe p.1 p.2) S
def SC.setSl (S : SC) (o : Int) (f : List (Str × Rw) → List (Str × Rw)) : SC := S.modT o fun x => { x with sl := f x.sl }
def SC.setRow (S : SC) (nm : Str) (f : List Int → List Int) : SC := S.modH nm fun g => { g with row := f g.row }
def SC.have_ (S : SC) (nm : Str) (n : Int) : SC := (S.setRow nm (· ++ [n])).addKe n []
def SC.lose (S : SC) (nm : Str) (n : Int) : SC := (S.setRow nm fun r => woLast r n).delKe n []
def SC.clr (S : SC) (o : Int) (k : Str) (r : Rw) : SC := (S.setSl o fun sl => dropA sl k).delKes (r.holds o)
def SC.fill (S : SC) (o : Int) (k : Str) (r : Rw) : SC := (S.setSl o fun sl => putA sl k r).addKes (r.holds o)
section
variable {S : SC} {C : Addr}
theorem foot_modT {n : Int} {f : Th → Th} (h : ∀ x, (f x).sa = x.sa ∧ (f x).ka = x.ka) : foot ((S.modT n f).cells C) = foot (S.cells C) := by
  rw [foot_eq, foot_eq, modT_map (g := Th.sa) fun x => (h x).1, modT_map (g := Th.ka) fun x => (h x).2]
  rfl
theorem foot_modH {nm : Str} {f : Hd → Hd} (h : ∀ x, (f x).ra = x.ra) : foot ((S.modH nm f).cells C) = foot (S.cells C) := by
  rw [foot_eq, foot_eq, modH_map (g := Hd.ra) h]
  rfl
theorem foot_addKe {n : Int} {h : List Int} : foot ((S.addKe n h).cells C) = foot (S.cells C) := foot_modT fun _ => ⟨rfl, rfl⟩
theorem foot_delKe {n : Int} {h : List Int} : foot ((S.delKe n h).cells C) = foot (S.cells C) := foot_modT fun _ => ⟨rfl, rfl⟩
theorem foot_setSl {n : Int} {f : List (Str × Rw) → List (Str × Rw)} : foot ((S.setSl n f).cells C) = foot (S.cells C) := foot_modT fun _ => ⟨rfl, rfl⟩
theorem foot_setRow {nm : Str} {f : List Int → List Int} : foot ((S.setRow nm f).cells C) = foot (S.cells C) := foot_modH fun _ => rfl
theorem foot_addKes : ∀ (ps : List (Int × List Int)) (S : SC), foot ((S.addKes ps).cells C) = foot (S.cells C)
  | [], _ => rfl
  | p :: ps, S => (foot_addKes ps (S.addKe p.1 p.2)).trans foot_addKe
theorem foot_delKes : ∀ (ps : List (Int × List Int)) (S : SC), foot ((S.delKes ps).cells C) = foot (S.cells C)
  | [], _ => rfl
  | p :: ps, S => (foot_delKes ps (S.delKe p.1 p.2)).trans foot_delKe
end
theorem th_of {S : SC} {n : Int} (h : n ∈ S.ts.map Th.n) : ∃ x ∈ S.ts, x.n = n := List.mem_map.mp h
/-- what is at the number n behind a change at n -/
theorem modT_at {S : SC} {n : Int} {f : Th → Th} {x : Th} (m : x ∈ S.ts) (e : x.n = n) : f x ∈ (S.modT n f).ts := List.mem_map.mpr ⟨x, m, by rw [if_pos e]⟩
theorem modT_off {S : SC} {n : Int} {f : Th → Th} {x : Th} (m : x ∈ S.ts) (e : x.n ≠ n) : x ∈ (S.modT n f).ts := List.mem_map.mpr ⟨x, m, by rw [if_neg e]⟩
/-! ### sums -/
theorem sum_mod {α κ : Type} [DecidableEq κ] {key : α → κ} {f : α → Nat} {u : α → α} : ∀ {l : List α}, (l.map key).Nodup → ∀ {x : α}, x ∈ l → ((l.map fun y => if key y = key x then u y else y).map f).sum + f x = (l.map f).sum + f (u x)
  | [], _, _, h => by cases h
  | z :: l, nd, x, h => by
    rw [List.map_cons, List.nodup_cons] at nd
    rcases List.mem_cons.mp h with rfl | h
    · have e : (l.map fun y => if key y = key x then u y else y) = l := by
        have : l.map (fun y => if key y = key x then u y else y) = l.map id := List.map_congr_left fun y hy => by
          rw [if_neg]
          · rfl
          · exact fun e => nd.1 (e ▸ List.mem_map.mpr ⟨y, hy, rfl⟩)
        rw [this, List.map_id]
      simp only [List.map_cons, List.sum_cons, if_true, e]
      omega
    · have ne : key z ≠ key x := fun e => nd.1 (e ▸ List.mem_map.mpr ⟨x, h, rfl⟩)
      have ih := sum_mod (f := f) (u := u) nd.2 h
      simp only [List.map_cons, List.sum_cons, if_neg ne]
      omega
theorem sum_same {α : Type} {f : α → Nat} {p : α → Prop} [DecidablePred p] {u : α → α} (h : ∀ x, f (u x) = f x) (l : List α) : ((l.map fun y => if p y then u y else y).map f).sum = (l.map f).sum := by
  rw [List.map_map]
  congr 1
  refine List.map_congr_left fun x _ => ?_
  show f (if p x then u x else x) = f x
  split
  · exact h x
  · rfl
theorem mem_sum {α : Type} {f : α → Nat} : ∀ {l : List α} {x : α}, x ∈ l → f x ≤ (l.map f).sum
  | z :: l, x, h => by
    rw [List.map_cons, List.sum_cons]
    rcases List.mem_cons.mp h with rfl | h
    · omega
    · have := mem_sum (f := f) h
      omega
/-! ### the holds that there are -/
def slCnt (o : Int) (sl : List (Str × Rw)) (n : Int) (h : List Int) : Nat := (sl.map fun q => (q.2.holds o).count (n, h)).sum
def rowCnt (S : SC) (n : Int) (h : List Int) : Nat := if h = [] then (S.hs.map fun g => g.row.count n).sum else 0
def SC.cnt (S : SC) (n : Int) (h : List Int) : Nat := rowCnt S n h + (S.ts.map fun o => slCnt o.n o.sl n h).sum
structure OkS (S : SC) : Prop where
  many : ∀ x ∈ S.ts, 0 ≤ x.n ∧ x.n < S.many
  srt : (S.ts.map Th.n).Pairwise (· < ·)
  rows : ∀ h ∈ S.hs, ∀ x ∈ h.row, x ∈ S.ts.map Th.n
  refs : ∀ x ∈ S.ts, ∀ q ∈ x.sl, ∀ p ∈ q.2.holds x.n, p.1 ∈ S.ts.map Th.n
  sln : ∀ x ∈ S.ts, (x.sl.map (·.1)).Nodup
  kept : ∀ x ∈ S.ts, ∀ h, x.ke.count h = S.cnt x.n h
theorem cnt_setRow {S : SC} (hn : (S.hs.map Hd.nm).Nodup) {g : Hd} (m : g ∈ S.hs) (f : List Int → List Int) (n : Int) (h : List Int) :
    (S.setRow g.nm f).cnt n h + (if h = [] then g.row.count n else 0) = S.cnt n h + (if h = [] then (f g.row).count n else 0) := by
  unfold SC.cnt rowCnt
  have e1 : (S.setRow g.nm f).ts = S.ts := rfl
  rw [e1]
  by_cases c : h = []
  · simp only [if_pos c]
    have := sum_mod (f := fun g : Hd => g.row.count n) (u := fun g => { g with row := f g.row }) hn m
    have e2 : (S.setRow g.nm f).hs = S.hs.map fun y => if y.nm = g.nm then { y with row := f y.row } else y := rfl
    rw [e2]
    simp only at this
    omega
  · simp only [if_neg c]
theorem cnt_setSl {S : SC} (tn : (S.ts.map Th.n).Nodup) {x : Th} (m : x ∈ S.ts) (f : List (Str × Rw) → List (Str × Rw)) (n : Int) (h : List Int) :
    (S.setSl x.n f).cnt n h + slCnt x.n x.sl n h = S.cnt n h + slCnt x.n (f x.sl) n h := by
  unfold SC.cnt rowCnt
  have e1 : (S.setSl x.n f).hs = S.hs := rfl
  rw [e1]
  have := sum_mod (f := fun o : Th => slCnt o.n o.sl n h) (u := fun g => { g with sl := f g.sl }) tn m
  have e2 : (S.setSl x.n f).ts = S.ts.map fun y => if y.n = x.n then { y with sl := f y.sl } else y := rfl
  rw [e2]
  simp only at this
  omega
theorem cnt_modKe {S : SC} (k : Int) (f : List (List Int) → List (List Int)) (n : Int) (h : List Int) : (S.modT k fun x => { x with ke := f x.ke }).cnt n h = S.cnt n h := by
  unfold SC.cnt rowCnt
  have e1 : (S.modT k fun x => { x with ke := f x.ke }).hs = S.hs := rfl
  rw [e1]
  congr 1
  exact sum_same (f := fun o : Th => slCnt o.n o.sl n h) (p := fun y : Th => y.n = k) (u := fun x => { x with ke := f x.ke }) (fun _ => rfl) S.ts
theorem slCnt_put {o : Int} {sl : List (Str × Rw)} {k : Str} {r : Rw} (hk : k ∉ sl.map (·.1)) (n : Int) (h : List Int) : slCnt o (putA sl k r) n h = slCnt o sl n h + (r.holds o).count (n, h) := by
  unfold putA slCnt
  rw [if_neg hk]
  simp
theorem slCnt_drop {o : Int} {k : Str} {r : Rw} (n : Int) (h : List Int) : ∀ {sl : List (Str × Rw)}, (sl.map (·.1)).Nodup → getA sl k = some r → slCnt o (dropA sl k) n h + (r.holds o).count (n, h) = slCnt o sl n h
  | [], _, e => by cases e
  | q :: sl, nd, e => by
    rw [List.map_cons, List.nodup_cons] at nd
    unfold getA at e
    rw [List.find?_cons] at e
    by_cases c : q.1 = k
    · rw [decide_eq_true c] at e
      have e' : q.2 = r := by simpa using e
      have e3 : dropA (q :: sl) k = sl := by
        unfold dropA
        rw [List.filter_cons_of_neg (by simp [c])]
        refine List.filter_eq_self.mpr fun p hp => ?_
        refine decide_eq_true fun z => nd.1 ?_
        rw [c, ← z]
        exact List.mem_map.mpr ⟨p, hp, rfl⟩
      rw [e3, ← e']
      unfold slCnt
      rw [List.map_cons, List.sum_cons]
      omega
    · rw [decide_eq_false c] at e
      have ih := slCnt_drop (o := o) n h nd.2 (show getA sl k = some r from e)
      have e3 : dropA (q :: sl) k = q :: dropA sl k := by
        unfold dropA
        rw [List.filter_cons_of_pos (by simp [c])]
      rw [e3]
      unfold slCnt at ih ⊢
      rw [List.map_cons, List.sum_cons, List.map_cons, List.sum_cons]
      omega
theorem count_erase_add {l : List (List Int)} {a b : List Int} (h : a ∈ l) : (l.erase a).count b + (if b = a then 1 else 0) = l.count b := by
  rw [(List.perm_cons_erase h).count_eq b, List.count_cons]
  by_cases c : b = a
  · subst c; simp
  · have : ¬ a = b := fun e => c e.symm
    simp [c, this]
theorem woLast_count {row : List Int} {n : Int} (h : n ∈ row) (m : Int) : (woLast row n).count m + (if m = n then 1 else 0) = row.count m := by
  have h' : n ∈ row.reverse := List.mem_reverse.mpr h
  have hj : row.reverse.idxOf n < row.reverse.length := List.idxOf_lt_length_of_mem h'
  rw [List.length_reverse] at hj
  have hi : row.length - 1 - row.reverse.idxOf n < row.length := by omega
  have e : row[row.length - 1 - row.reverse.idxOf n]'hi = n := by
    have e1 : row.reverse[row.reverse.idxOf n]'(by rw [List.length_reverse]; exact hj) = n := List.getElem_idxOf ..
    rw [List.getElem_reverse] at e1
    exact e1
  have p := perm_erase hi
  rw [p.count_eq m, e, List.count_cons]
  unfold woLast
  by_cases c : m = n
  · subst c; simp
  · have : ¬ n = m := fun z => c z.symm
    simp [c, this]
theorem woLast_len {row : List Int} {n : Int} (h : n ∈ row) : (woLast row n).length + 1 = row.length := by
  have h' : n ∈ row.reverse := List.mem_reverse.mpr h
  have hj : row.reverse.idxOf n < row.reverse.length := List.idxOf_lt_length_of_mem h'
  rw [List.length_reverse] at hj
  unfold woLast
  rw [List.length_eraseIdx_of_lt (by omega)]
  omega
theorem woLast_sub {row : List Int} {n x : Int} (h : x ∈ woLast row n) : x ∈ row := (List.eraseIdx_subset h)
end Dl
namespace Dl
open PySem PySem.Spec PyProof.Rows L2
section
variable {S : SC}
theorem ns_modT {n : Int} {f : Th → Th} (h : ∀ x, (f x).n = x.n) : (S.modT n f).ts.map Th.n = S.ts.map Th.n := modT_map h
theorem ns_addKe {n : Int} {h : List Int} : (S.addKe n h).ts.map Th.n = S.ts.map Th.n := ns_modT fun _ => rfl
theorem ns_delKe {n : Int} {h : List Int} : (S.delKe n h).ts.map Th.n = S.ts.map Th.n := ns_modT fun _ => rfl
theorem ns_setSl {n : Int} {f : List (Str × Rw) → List (Str × Rw)} : (S.setSl n f).ts.map Th.n = S.ts.map Th.n := ns_modT fun _ => rfl
theorem nms_setRow {nm : Str} {f : List Int → List Int} : (S.setRow nm f).hs.map Hd.nm = S.hs.map Hd.nm := modH_map fun _ => rfl
/-- all of a store but which holds are kept -/
structure OkB (S : SC) : Prop where
  many : ∀ x ∈ S.ts, 0 ≤ x.n ∧ x.n < S.many
  srt : (S.ts.map Th.n).Pairwise (· < ·)
  rows : ∀ h ∈ S.hs, ∀ x ∈ h.row, x ∈ S.ts.map Th.n
  refs : ∀ x ∈ S.ts, ∀ q ∈ x.sl, ∀ p ∈ q.2.holds x.n, p.1 ∈ S.ts.map Th.n
  sln : ∀ x ∈ S.ts, (x.sl.map (·.1)).Nodup
theorem OkS.b (h : OkS S) : OkB S := ⟨h.many, h.srt, h.rows, h.refs, h.sln⟩
theorem OkB.ok (h : OkB S) (k : ∀ x ∈ S.ts, ∀ h, x.ke.count h = S.cnt x.n h) : OkS S := ⟨h.many, h.srt, h.rows, h.refs, h.sln, k⟩
theorem OkB.nd (h : OkB S) : (S.ts.map Th.n).Nodup := h.srt.imp fun a => Int.ne_of_lt a
theorem OkB.ke (h : OkB S) (n : Int) (f : List (List Int) → List (List Int)) : OkB (S.modT n fun x => { x with ke := f x.ke }) := by
  have e := ns_modT (S := S) (n := n) (f := fun x => { x with ke := f x.ke }) fun _ => rfl
  refine ⟨fun x m => ?_, by rw [e]; exact h.srt, fun g mg x hx => by rw [e]; exact h.rows g mg x hx, fun x m q hq p hp => ?_, fun x m => ?_⟩
  · obtain ⟨y, hy, rfl⟩ := mem_modT m
    have := h.many y hy
    split <;> exact this
  · obtain ⟨y, hy, rfl⟩ := mem_modT m
    rw [e]
    split at hq <;> rename_i c
    · rw [if_pos c] at hp
      exact h.refs y hy q hq p hp
    · rw [if_neg c] at hp
      exact h.refs y hy q hq p hp
  · obtain ⟨y, hy, rfl⟩ := mem_modT m
    have := h.sln y hy
    split <;> exact this
theorem OkB.row (h : OkB S) (nm : Str) (f : List Int → List Int) (hf : ∀ g ∈ S.hs, g.nm = nm → ∀ x ∈ f g.row, x ∈ S.ts.map Th.n) : OkB (S.setRow nm f) := by
  refine ⟨h.many, h.srt, fun g mg x hx => ?_, h.refs, h.sln⟩
  obtain ⟨g0, m0, rfl⟩ := mem_modH mg
  by_cases c : g0.nm = nm
  · rw [if_pos c] at hx
    exact hf g0 m0 c x hx
  · rw [if_neg c] at hx
    exact h.rows g0 m0 x hx
theorem OkB.sl (h : OkB S) (n : Int) (f : List (Str × Rw) → List (Str × Rw)) (h1 : ∀ x ∈ S.ts, x.n = n → ∀ q ∈ f x.sl, ∀ p ∈ q.2.holds x.n, p.1 ∈ S.ts.map Th.n) (h2 : ∀ x ∈ S.ts, x.n = n → ((f x.sl).map (·.1)).Nodup) : OkB (S.setSl n f) := by
  have e := ns_setSl (S := S) (n := n) (f := f)
  refine ⟨fun x m => ?_, by rw [e]; exact h.srt, fun g mg x hx => by rw [e]; exact h.rows g mg x hx, fun x m q hq p hp => ?_, fun x m => ?_⟩
  · obtain ⟨y, hy, rfl⟩ := mem_modT m
    have := h.many y hy
    split <;> exact this
  · obtain ⟨y, hy, rfl⟩ := mem_modT m
    rw [e]
    by_cases c : y.n = n
    · rw [if_pos c] at hq hp
      exact h1 y hy c q hq p hp
    · rw [if_neg c] at hq hp
      exact h.refs y hy q hq p hp
  · obtain ⟨y, hy, rfl⟩ := mem_modT m
    by_cases c : y.n = n
    · rw [if_pos c]
      exact h2 y hy c
    · rw [if_neg c]
      exact h.sln y hy
/-! which holds are kept: those counted, but for some -/
def KeptBut (S : SC) (d : Int → List Int → Int) : Prop := ∀ x ∈ S.ts, ∀ h, (x.ke.count h : Int) + d x.n h = S.cnt x.n h
theorem OkS.but (h : OkS S) : KeptBut S fun _ _ => 0 := fun x m g => by
  have := h.kept x m g
  show (x.ke.count g : Int) + 0 = _
  omega
def one (n : Int) (h : List Int) (m : Int) (g : List Int) : Int := if m = n ∧ g = h then 1 else 0
theorem KeptBut.add {d : Int → List Int → Int} (k : KeptBut S d) (n : Int) (h : List Int) : KeptBut (S.addKe n h) fun m g => d m g - one n h m g := fun x m g => by
  have ec := cnt_modKe (S := S) n (fun ke => ke ++ [h]) x.n g
  have ec' : (S.addKe n h).cnt x.n g = S.cnt x.n g := ec
  rw [ec']
  obtain ⟨y, hy, rfl⟩ := mem_modT m
  have := k y hy g
  unfold one
  by_cases c : y.n = n
  · rw [if_pos c]
    simp only [List.count_append, List.count_cons, List.count_nil]
    by_cases c2 : g = h
    · subst c2
      simp only [c, and_self, if_true, beq_self_eq_true]
      rw [c] at this
      omega
    · have c3 : (h == g) = false := by simpa using fun e => c2 e.symm
      simp only [c2, and_false, if_false, c3]
      simp
      omega
  · rw [if_neg c]
    simp only [c, false_and, if_false]
    omega
theorem KeptBut.del {d : Int → List Int → Int} (k : KeptBut S d) {n : Int} {h : List Int} (hm : ∀ x ∈ S.ts, x.n = n → h ∈ x.ke) : KeptBut (S.delKe n h) fun m g => d m g + one n h m g := fun x m g => by
  have ec := cnt_modKe (S := S) n (fun ke => ke.erase h) x.n g
  have ec' : (S.delKe n h).cnt x.n g = S.cnt x.n g := ec
  rw [ec']
  obtain ⟨y, hy, rfl⟩ := mem_modT m
  have := k y hy g
  unfold one
  by_cases c : y.n = n
  · rw [if_pos c]
    have e := count_erase_add (b := g) (hm y hy c)
    by_cases c2 : g = h
    · subst c2
      rw [if_pos rfl] at e
      dsimp only
      rw [if_pos ⟨c, rfl⟩]
      omega
    · rw [if_neg c2] at e
      dsimp only
      rw [if_neg fun z => c2 z.2]
      omega
  · rw [if_neg c]
    dsimp only
    rw [if_neg fun z => c z.1]
    omega
theorem KeptBut.row {d : Int → List Int → Int} (k : KeptBut S d) (hn : (S.hs.map Hd.nm).Nodup) {g : Hd} (m : g ∈ S.hs) (f : List Int → List Int) : KeptBut (S.setRow g.nm f) fun n h => d n h + if h = [] then ((f g.row).count n : Int) - g.row.count n else 0 := fun x mx h => by
  have := k x mx h
  have e := cnt_setRow hn m f x.n h
  by_cases c : h = []
  · simp only [if_pos c] at e ⊢
    omega
  · simp only [if_neg c] at e ⊢
    omega
theorem KeptBut.sl {d : Int → List Int → Int} (k : KeptBut S d) (tn : (S.ts.map Th.n).Nodup) {y : Th} (m : y ∈ S.ts) (f : List (Str × Rw) → List (Str × Rw)) : KeptBut (S.setSl y.n f) fun n h => d n h + slCnt y.n (f y.sl) n h - slCnt y.n y.sl n h := fun x mx h => by
  have e := cnt_setSl tn m f x.n h
  obtain ⟨z, hz, rfl⟩ := mem_modT mx
  have := k z hz h
  have e1 : (if z.n = y.n then { z with sl := f z.sl } else z).n = z.n := by split <;> rfl
  have e2 : (if z.n = y.n then { z with sl := f z.sl } else z).ke = z.ke := by split <;> rfl
  rw [e1] at e ⊢
  rw [e2]
  show ((z.ke.count h : Nat) : Int) + (d z.n h + slCnt y.n (f y.sl) z.n h - slCnt y.n y.sl z.n h) = _
  omega
theorem KeptBut.ok {d : Int → List Int → Int} (k : KeptBut S d) (h : ∀ x ∈ S.ts, ∀ g, d x.n g = 0) : ∀ x ∈ S.ts, ∀ g, x.ke.count g = S.cnt x.n g := fun x m g => by
  have := k x m g
  rw [h x m g] at this
  omega
/-! ### deeds keep what is right -/
theorem OkS.have_ (o : OkS S) (hn : (S.hs.map Hd.nm).Nodup) {g : Hd} (m : g ∈ S.hs) {n : Int} (hx : n ∈ S.ts.map Th.n) : OkS (S.have_ g.nm n) := by
  have b1 := o.b.row g.nm (· ++ [n]) fun g' m' _ x hx' => by
    rcases List.mem_append.mp hx' with h | h
    · exact o.rows g' m' x h
    · rw [List.mem_singleton.mp h]; exact hx
  refine (b1.ke n fun ke => ke ++ [[]]).ok (KeptBut.ok ((o.but.row hn m (· ++ [n])).add n []) fun x mx h => ?_)
  unfold one
  by_cases c : h = []
  · subst c
    simp only [if_true, and_true, List.count_append, List.count_cons, List.count_nil]
    by_cases c2 : x.n = n
    · simp [c2]
      omega
    · have c3 : (n == x.n) = false := by simpa using fun e => c2 e.symm
      simp [c2, c3]
  · simp [c]
theorem OkS.has_nil (o : OkS S) {g : Hd} (m : g ∈ S.hs) {n : Int} (hx : n ∈ g.row) : ∀ x ∈ S.ts, x.n = n → ([] : List Int) ∈ x.ke := fun x mx e => by
  have h1 := o.kept x mx []
  have h2 : g.row.count n ≤ (S.hs.map fun g => g.row.count n).sum := mem_sum (f := fun g : Hd => g.row.count n) m
  have h3 : 0 < g.row.count n := List.count_pos_iff.mpr hx
  have h4 : (S.hs.map fun g => g.row.count n).sum ≤ S.cnt x.n [] := by
    unfold SC.cnt rowCnt
    rw [e]
    simp
  exact List.count_pos_iff.mp (by omega)
theorem OkS.lose (o : OkS S) (hn : (S.hs.map Hd.nm).Nodup) {g : Hd} (m : g ∈ S.hs) {n : Int} (hx : n ∈ g.row) : OkS (S.lose g.nm n) := by
  have b1 := o.b.row g.nm (fun r => woLast r n) fun g' m' _ x hx' => o.rows g' m' x (woLast_sub hx')
  refine (b1.ke n fun ke => ke.erase []).ok (KeptBut.ok ((o.but.row hn m fun r => woLast r n).del (n := n) (h := []) fun x mx e => o.has_nil m hx x mx e) fun x mx h => ?_)
  unfold one
  by_cases c : h = []
  · subst c
    have e := woLast_count hx x.n
    by_cases c2 : x.n = n
    · simp only [if_pos c2] at e
      simp only [if_true, c2, and_self]
      rw [c2] at e
      omega
    · simp only [if_neg c2] at e
      simp only [if_true, c2, false_and, if_false]
      omega
  · simp [c]
theorem OkS.has_hold (o : OkS S) {y : Th} (m : y ∈ S.ts) {q : Str × Rw} (hq : q ∈ y.sl) {p : Int × List Int} (hp : p ∈ q.2.holds y.n) : ∀ x ∈ S.ts, x.n = p.1 → p.2 ∈ x.ke := fun x mx e => by
  have h1 := o.kept x mx p.2
  have h2 : 0 < (q.2.holds y.n).count (p.1, p.2) := List.count_pos_iff.mpr hp
  have h3 : (q.2.holds y.n).count (p.1, p.2) ≤ slCnt y.n y.sl p.1 p.2 := mem_sum (f := fun q : Str × Rw => (q.2.holds y.n).count (p.1, p.2)) hq
  have h4 : slCnt y.n y.sl p.1 p.2 ≤ (S.ts.map fun o => slCnt o.n o.sl p.1 p.2).sum := mem_sum (f := fun o : Th => slCnt o.n o.sl p.1 p.2) m
  have h5 : (S.ts.map fun o => slCnt o.n o.sl p.1 p.2).sum ≤ S.cnt x.n p.2 := by
    unfold SC.cnt
    rw [e]
    omega
  exact List.count_pos_iff.mp (by omega)
theorem holds_le {o : Int} {r : Rw} : r.holds o = [] ∨ ∃ p, r.holds o = [p] := by
  cases r with
  | plain x => exact .inr ⟨_, rfl⟩
  | weak x => exact .inl rfl
  | keyed k v => exact .inr ⟨_, rfl⟩
theorem count_one {p : Int × List Int} (n : Int) (h : List Int) : (([p].count (n, h) : Nat) : Int) = one p.1 p.2 n h := by
  unfold one
  rw [List.count_cons, List.count_nil]
  obtain ⟨a, b⟩ := p
  by_cases c : (a, b) = (n, h)
  · cases c; simp
  · have c1 : ((a, b) == (n, h)) = false := by simpa using c
    have c2 : ¬ (n = a ∧ h = b) := fun e => c (by rw [e.1, e.2])
    rw [c1, if_neg c2]
    rfl
theorem dropA_sub {sl : List (Str × Rw)} {k : Str} {q : Str × Rw} (h : q ∈ dropA sl k) : q ∈ sl := (List.mem_filter.mp h).1
theorem OkS.clr (o : OkS S) {y : Th} (m : y ∈ S.ts) {k : Str} {r : Rw} (hr : getA y.sl k = some r) : OkS (S.clr y.n k r) := by
  have tn := o.b.nd
  have hq := getA_some hr
  have b1 := o.b.sl y.n (fun sl => dropA sl k) (fun x mx _ q hq' => o.refs x mx q (dropA_sub hq')) fun x mx _ => List.Nodup.sublist (List.Sublist.map _ List.filter_sublist) (o.sln x mx)
  have k1 := o.but.sl tn m fun sl => dropA sl k
  have e0 := fun n h => slCnt_drop (o := y.n) n h (o.sln y m) hr
  unfold SC.clr
  rcases holds_le (o := y.n) (r := r) with e | ⟨p, e⟩
  · rw [e]
    refine b1.ok (k1.ok fun x mx h => ?_)
    have := e0 x.n h
    rw [e] at this
    simp at this
    omega
  · rw [e]
    have hk : ∀ x ∈ (S.setSl y.n fun sl => dropA sl k).ts, x.n = p.1 → p.2 ∈ x.ke := fun x mx ex => by
      obtain ⟨z, hz, rfl⟩ := mem_modT mx
      have e1 : (if z.n = y.n then { z with sl := dropA z.sl k } else z).n = z.n := by split <;> rfl
      have e2 : (if z.n = y.n then { z with sl := dropA z.sl k } else z).ke = z.ke := by split <;> rfl
      rw [e1] at ex
      rw [e2]
      exact o.has_hold m hq (p := p) (by rw [e]; exact List.mem_singleton_self _) z hz ex
    refine (b1.ke p.1 fun ke => ke.erase p.2).ok (KeptBut.ok (k1.del (n := p.1) (h := p.2) hk) fun x mx h => ?_)
    have h1 := e0 x.n h
    have h2 := count_one (p := p) x.n h
    rw [e] at h1
    omega
theorem OkS.fill (o : OkS S) {y : Th} (m : y ∈ S.ts) {k : Str} {r : Rw} (hk : k ∉ y.sl.map (·.1)) (hr : ∀ p ∈ r.holds y.n, p.1 ∈ S.ts.map Th.n) : OkS (S.fill y.n k r) := by
  have tn := o.b.nd
  have at_y : ∀ x ∈ S.ts, x.n = y.n → x = y := fun x mx e => nd_eq tn mx m e
  have ep : putA y.sl k r = y.sl ++ [(k, r)] := by unfold putA; rw [if_neg hk]
  have b1 := o.b.sl y.n (fun sl => putA sl k r) (fun x mx e q hq p hp => by
    cases at_y x mx e
    rw [ep] at hq
    rcases List.mem_append.mp hq with h | h
    · exact o.refs _ m q h p hp
    · rw [List.mem_singleton.mp h] at hp
      exact hr p hp) fun x mx e => by
    cases at_y x mx e
    rw [ep, List.map_append, List.nodup_append]
    refine ⟨o.sln _ m, by simp, fun a ha b hb => ?_⟩
    rw [List.mem_singleton.mp (show b ∈ [k] from hb)]
    exact fun e => hk (e ▸ ha)
  have k1 := o.but.sl tn m fun sl => putA sl k r
  have e0 := fun n h => slCnt_put (o := y.n) (r := r) hk n h
  unfold SC.fill
  rcases holds_le (o := y.n) (r := r) with e | ⟨p, e⟩
  · rw [e]
    refine b1.ok (k1.ok fun x mx h => ?_)
    have := e0 x.n h
    rw [e] at this
    simp at this
    omega
  · rw [e]
    refine (b1.ke p.1 fun ke => ke ++ [p.2]).ok (KeptBut.ok (k1.add p.1 p.2) fun x mx h => ?_)
    have h1 := e0 x.n h
    have h2 := count_one (p := p) x.n h
    rw [e] at h1
    omega
theorem sum_zero {α : Type} {f : α → Nat} : ∀ {l : List α}, (∀ x ∈ l, f x = 0) → (l.map f).sum = 0
  | [], _ => rfl
  | x :: l, h => by
    rw [List.map_cons, List.sum_cons, h x List.mem_cons_self, sum_zero fun y hy => h y (List.mem_cons_of_mem _ hy)]
theorem OkS.addTh (o : OkS S) {x : Th} (hx : x.n = S.many) (h0 : 0 ≤ S.many) (sl : x.sl = []) (ke : x.ke = []) : OkS (S.addTh x) := by
  have ens : (S.addTh x).ts.map Th.n = S.ts.map Th.n ++ [x.n] := by simp [SC.addTh]
  have low : ∀ y ∈ S.ts.map Th.n, y < S.many := fun y hy => by
    obtain ⟨z, hz, rfl⟩ := List.mem_map.mp hy
    exact (o.many z hz).2
  have cn : ∀ n h, (S.addTh x).cnt n h = S.cnt n h := fun n h => by
    unfold SC.cnt rowCnt SC.addTh
    simp [sl, slCnt]
  refine ⟨fun y hy => ?_, ?_, fun h mh y hy => ?_, fun y hy q hq p hp => ?_, fun y hy => ?_, fun y hy h => ?_⟩
  · show 0 ≤ y.n ∧ y.n < S.many + 1
    rcases List.mem_append.mp hy with h | h
    · have := o.many y h
      omega
    · cases List.mem_singleton.mp h
      omega
  · rw [ens, List.pairwise_append]
    refine ⟨o.srt, by simp, fun a ha b hb => ?_⟩
    rw [List.mem_singleton.mp hb, hx]
    exact low a ha
  · rw [ens]
    exact List.mem_append.mpr (.inl (o.rows h mh y hy))
  · rw [ens]
    rcases List.mem_append.mp hy with h | h
    · exact List.mem_append.mpr (.inl (o.refs y h q hq p hp))
    · cases List.mem_singleton.mp h
      rw [sl] at hq
      cases hq
  · rcases List.mem_append.mp hy with h | h
    · exact o.sln y h
    · cases List.mem_singleton.mp h
      rw [sl]
      exact List.nodup_nil
  · rw [cn]
    rcases List.mem_append.mp hy with hm | hm
    · exact o.kept y hm h
    · cases List.mem_singleton.mp hm
      rw [ke, List.count_nil]
      symm
      unfold SC.cnt rowCnt
      have z1 : ∀ g ∈ S.hs, g.row.count x.n = 0 := fun g mg => List.count_eq_zero.mpr fun m => by
        have := low _ (o.rows g mg _ m)
        omega
      have z2 : ∀ y ∈ S.ts, slCnt y.n y.sl x.n h = 0 := fun y my => by
        unfold slCnt
        have : ∀ q ∈ y.sl, (q.2.holds y.n).count (x.n, h) = 0 := fun q hq => List.count_eq_zero.mpr fun m => by
          have := low _ (o.refs y my q hq _ m)
          simp only at this
          omega
        exact sum_zero this
      have s1 : (S.hs.map fun g => g.row.count x.n).sum = 0 := sum_zero z1
      have s2 : (S.ts.map fun o => slCnt o.n o.sl x.n h).sum = 0 := sum_zero z2
      rw [s1, s2]
      split <;> rfl
end
end Dl
namespace Dl
open PySem PySem.Spec PyProof.Rows L2
/-! ### holds as data -/
def hoP (h : List Int) : PyData := .tuple (h.map .int)
def hpD (p : Int × List Int) : D := .tup [.int p.1, hoD p.2]
theorem rs_ho {μ : Mu} (h : List Int) : Rs μ (hoD h) (hoP h) := .tup (Rss.map fun x _ => .int x)
theorem eqvAll_ints : ∀ a b : List Int, PyData.eqvAll (a.map .int) (b.map .int) = decide (a = b)
  | [], [] => by simp [PyData.eqvAll]
  | [], y :: b => by simp [PyData.eqvAll]
  | x :: a, [] => by simp [PyData.eqvAll]
  | x :: a, y :: b => by
    rw [List.map_cons, List.map_cons]
    simp only [PyData.eqvAll]
    rw [eqvAll_ints a b, eqv_int]
    by_cases h1 : x = y <;> by_cases h2 : a = b <;> simp [h1, h2]
theorem eqv_ho (a b : List Int) : PyData.eqv (hoP a) (hoP b) = decide (a = b) := by
  unfold hoP
  simp only [PyData.eqv]
  exact eqvAll_ints a b
theorem lay_ints : ∀ l : List Int, PyData.canLayAll0 (l.map .int) = true
  | [] => by simp [PyData.canLayAll0]
  | x :: l => by
    rw [List.map_cons]
    simp only [PyData.canLayAll0, PyData.canLay0, lay_ints l, Bool.and_self]
theorem depth_ho (h : List Int) : (hoP h).depth = 1 := by
  unfold hoP
  simp only [PyData.depth]
  rw [depthAll_flat fun _ => rfl]
theorem shaped_ho (h : List Int) : SeqAt.shaped (hoP h) = true := by
  unfold SeqAt.shaped
  rw [depth_ho]
  unfold hoP
  simp only [PyData.canLay0, lay_ints, Bool.true_and]
  decide
theorem lay_hos : ∀ l : List (List Int), PyData.canLayAll0 (l.map hoP) = true
  | [] => by simp [PyData.canLayAll0]
  | x :: l => by
    have : (hoP x).canLay0 = true := by unfold hoP; simp only [PyData.canLay0, lay_ints]
    rw [List.map_cons]
    simp only [PyData.canLayAll0, this, lay_hos l, Bool.and_self]
theorem depthAll_hos : ∀ l : List (List Int), PyData.depthAll (l.map hoP) ≤ 1
  | [] => by simp [PyData.depthAll]
  | x :: l => by
    have := depthAll_hos l
    rw [List.map_cons]
    simp only [PyData.depthAll, depth_ho]
    omega
theorem shaped_hos (l : List (List Int)) : SeqAt.shaped (.list (l.map hoP)) = true := by
  unfold SeqAt.shaped
  have := depthAll_hos l
  simp only [PyData.canLay0, lay_hos, Bool.true_and, PyData.depth]
  exact decide_eq_true (by omega)
theorem rd_removeH {μ : Mu} {l : Addr} {ke : List (List Int)} {h : List Int} {Q : DQ} (hl : μ l = some (.lst (ke.map hoD))) (hm : h ∈ ke) (q : Q .non (put μ l (.lst ((ke.erase h).map hoD)))) : fRemove (.at l) [hoD h] μ Q := by
  have hj := List.idxOf_lt_length_of_mem hm
  have e := List.getElem_idxOf hj
  refine ⟨l, ke.map hoD, ke.map hoP, hoD h, hoP h, ke.idxOf h, hoP h, rfl, rfl, hl, Rss.map fun x _ => rs_ho x, rs_ho h, shaped_hos ke, shaped_ho h, ?_, by rw [eqv_ho]; simp, fun m z hmj hz => ?_, ?_⟩
  · rw [List.getElem?_map, List.getElem?_eq_getElem hj, e]
    rfl
  · rw [List.getElem?_map] at hz
    cases ez : ke[m]? with
    | none => rw [ez] at hz; cases hz
    | some w =>
      rw [ez] at hz
      cases hz
      rw [eqv_ho]
      refine decide_eq_false fun ew => ?_
      have := List.not_of_lt_findIdx (p := (· == h)) (xs := ke) (i := m) hmj
      have e2 := (List.getElem?_eq_some_iff.mp ez).2
      exact (beq_eq_false_iff_ne.mp this) (e2.trans ew)
  · rw [map_erase, ← List.erase_eq_eraseIdx_of_idxOf rfl]
    exact q
theorem idx_first {xs : List Int} {k : Int} (hk : k ∈ xs) : xs[xs.idxOf k]? = some k ∧ ∀ m : Nat, m < xs.idxOf k → xs[m]? ≠ some k := by
  have hj := List.idxOf_lt_length_of_mem hk
  refine ⟨by rw [List.getElem?_eq_getElem hj, List.getElem_idxOf], fun m hm e => ?_⟩
  have := List.not_of_lt_findIdx (p := (· == k)) (xs := xs) (i := m) hm
  have e2 := (List.getElem?_eq_some_iff.mp e).2
  exact (beq_eq_false_iff_ne.mp this) e2
theorem rd_indexI {μ : Mu} {d : D} {xs : List Int} {k : Int} {Q : DQ} (h : Ls μ d (xs.map .int)) (hk : k ∈ xs) (q : Q (.int (xs.idxOf k : Nat)) μ) : fIndex d [.int k] μ Q :=
  ⟨xs, k, xs.idxOf k, h, rfl, (idx_first hk).1, (idx_first hk).2, q⟩
theorem sortI_eq {S T : List Int} (h : T.Pairwise (· ≤ ·)) (p : T.Perm S) : sortI S = T :=
  (List.Perm.eq_of_pairwise (le := (· ≤ ·)) (fun a b _ _ h g => Int.le_antisymm h g) (sortI_pw S) h ((sortI_perm S).trans p.symm))
theorem sort_joint (o k : Int) (h : o ≠ k) : sortI [o, k] = joint o k := by
  unfold joint
  rw [if_neg h]
  by_cases c : o ≤ k
  · rw [if_pos c]
    exact sortI_eq (by simp [c]) (.refl _)
  · rw [if_neg c]
    exact sortI_eq (by simp; omega) (.swap ..)
/-! ### a store's cells behind a step -/
section
variable {C : Addr} {μ : Mu} {S : SC}
theorem modT_congr {n : Int} {f g : Th → Th} (h : ∀ y ∈ S.ts, y.n = n → f y = g y) : S.modT n f = S.modT n g := by
  unfold SC.modT
  congr 1
  refine List.map_congr_left fun y hy => ?_
  split
  · exact h y hy (by assumption)
  · rfl
theorem modH_congr {nm : Str} {f g : Hd → Hd} (h : ∀ y ∈ S.hs, y.nm = nm → f y = g y) : S.modH nm f = S.modH nm g := by
  unfold SC.modH
  congr 1
  refine List.map_congr_left fun y hy => ?_
  split
  · exact h y hy (by assumption)
  · rfl
theorem St.stepKe (s : St C μ S) {x : Th} (m : x ∈ S.ts) (f : List (List Int) → List (List Int)) : St C (put μ x.ka (.lst ((f x.ke).map hoD))) (S.modT x.n fun y => { y with ke := f y.ke }) := by
  have h := s.setKe m (f x.ke)
  rw [modT_congr (g := fun y => { y with ke := f y.ke }) fun y hy e => by rw [nd_eq s.tn hy m e]] at h
  exact h
theorem St.stepSl (s : St C μ S) {x : Th} (m : x ∈ S.ts) (f : List (Str × Rw) → List (Str × Rw)) : St C (put μ x.sa (.dK (slK (f x.sl)))) (S.setSl x.n f) := by
  have h := s.setSl m (f x.sl)
  rw [modT_congr (g := fun y => { y with sl := f y.sl }) fun y hy e => by rw [nd_eq s.tn hy m e]] at h
  exact h
theorem St.stepRow (s : St C μ S) {x : Hd} (m : x ∈ S.hs) (f : List Int → List Int) : St C (put μ x.ra (.lst ((f x.row).map .int))) (S.setRow x.nm f) := by
  have h := s.setRow m (f x.row)
  rw [modH_congr (g := fun y => { y with row := f y.row }) fun y hy e => by rw [nd_eq s.hn hy m e]] at h
  exact h
theorem sameRa {h : Hd} (m : h ∈ S.hs) {o : O} : Same (foot (S.cells C)) μ (put μ h.ra o) := Same.put (foot_of (in_ra m))
theorem sameSa {x : Th} (m : x ∈ S.ts) {o : O} : Same (foot (S.cells C)) μ (put μ x.sa o) := Same.put (foot_of (in_sa m))
theorem sameKa {x : Th} (m : x ∈ S.ts) {o : O} : Same (foot (S.cells C)) μ (put μ x.ka o) := Same.put (foot_of (in_ka m))
theorem rd_dpopRw {a : Addr} {sl : List (Str × Rw)} {k : Str} {r : Rw} {Q : DQ} (h : μ a = some (.dK (slK sl))) (g : getA sl k = some r) (q : Q r.D (put μ a (.dK (slK (dropA sl k))))) :
    ∃ p kvs k' v, D.at a = .at p ∧ μ p = some (.dK kvs) ∧ keyD (.str k) = some k' ∧ atD kvs k' = some v ∧ Q v (put μ p (.dK (dropD kvs k'))) :=
  ⟨a, _, .inr k, r.D, rfl, h, rfl, by rw [slK_at, g]; rfl, by rw [slK_drop]; exact q⟩
end
end Dl
namespace Dl
open PySem PySem.Spec PyProof.Rows L2
/-- a store as deeds leave it: B bounds how many holds are kept of one thing -/
structure OkN (S : SC) (B : Nat) : Prop where
  ok : OkS S
  hn : (S.hs.map Hd.nm).Nodup
  kl : ∀ x ∈ S.ts, x.ke.length ≤ B
  rl : ∀ g ∈ S.hs, g.row.length ≤ 30
  sl : ∀ x ∈ S.ts, x.sl.length ≤ 8
  tl : S.ts.length ≤ 40
  hl : S.hs.length ≤ 6
  nm : ∀ g ∈ S.hs, nameB g.nm = true
  m0 : 0 ≤ S.many
  m1 : S.many ≤ 100000
def SC.slOf (S : SC) (o : Int) : List (Str × Rw) := match S.ts.find? fun x => decide (x.n = o) with
  | some x => x.sl
  | none => []
def SC.put_ (S : SC) (o : Int) (k : Str) (r : Rw) : SC := (match getA (S.slOf o) k with | some r0 => S.clr o k r0 | none => S).fill o k r
section
variable {S : SC} {B : Nat}
theorem OkN.tn (o : OkN S B) : (S.ts.map Th.n).Nodup := o.ok.b.nd
theorem OkN.n0 (o : OkN S B) : ∀ x ∈ S.ts, 0 ≤ x.n := fun x m => (o.ok.many x m).1
theorem slOf_at (tn : (S.ts.map Th.n).Nodup) {y : Th} (m : y ∈ S.ts) : S.slOf y.n = y.sl := by
  unfold SC.slOf
  cases e : S.ts.find? fun x => decide (x.n = y.n) with
  | none =>
    have := List.find?_eq_none.mp e y m
    simp at this
  | some x =>
    have h1 := List.mem_of_find?_eq_some e
    have h2 := List.find?_some e
    have h3 : x.n = y.n := by simpa using h2
    rw [nd_eq tn h1 m h3]
theorem len_modT {n : Int} {f : Th → Th} : (S.modT n f).ts.length = S.ts.length := by unfold SC.modT; rw [List.length_map]
theorem kl_modT {n : Int} {f : Th → Th} {B' : Nat} (k : ∀ x ∈ S.ts, x.ke.length ≤ B) (hB : B ≤ B') (h : ∀ x ∈ S.ts, (f x).ke.length ≤ B') : ∀ x ∈ (S.modT n f).ts, x.ke.length ≤ B' := fun x m => by
  obtain ⟨y, hy, rfl⟩ := mem_modT m
  split
  · exact h y hy
  · exact Nat.le_trans (k y hy) hB
theorem sl_modT {n : Int} {f : Th → Th} (k : ∀ x ∈ S.ts, x.sl.length ≤ 8) (h : ∀ x ∈ S.ts, x.n = n → (f x).sl.length ≤ 8) : ∀ x ∈ (S.modT n f).ts, x.sl.length ≤ 8 := fun x m => by
  obtain ⟨y, hy, rfl⟩ := mem_modT m
  split
  · exact h y hy (by assumption)
  · exact k y hy
theorem OkN.have_ (o : OkN S B) {g : Hd} (m : g ∈ S.hs) {n : Int} (hx : n ∈ S.ts.map Th.n) (hl : g.row.length < 30) : OkN (S.have_ g.nm n) (B + 1) where
  ok := o.ok.have_ o.hn m hx
  hn := (nms_setRow (S := S) (nm := g.nm) (f := (· ++ [n]))).symm ▸ o.hn
  kl := kl_modT (S := S.setRow g.nm (· ++ [n])) o.kl (Nat.le_succ B) fun x mx => by
    have := o.kl x mx
    simp
    exact this
  rl := fun h mh => by
    obtain ⟨y, hy, rfl⟩ := mem_modH (show h ∈ (S.modH g.nm fun g => { g with row := g.row ++ [n] }).hs from mh)
    by_cases c : y.nm = g.nm
    · rw [if_pos c, nd_eq o.hn hy m c]
      simp
      omega
    · rw [if_neg c]
      exact o.rl y hy
  sl := sl_modT (S := S.setRow g.nm (· ++ [n])) o.sl fun x mx _ => o.sl x mx
  tl := by
    have e : (S.have_ g.nm n).ts.length = S.ts.length := len_modT
    rw [e]
    exact o.tl
  hl := by
    have e : (S.have_ g.nm n).hs.length = S.hs.length := by show (S.modH g.nm _).hs.length = _; unfold SC.modH; rw [List.length_map]
    rw [e]
    exact o.hl
  nm := fun h mh => by
    obtain ⟨y, hy, rfl⟩ := mem_modH (show h ∈ (S.modH g.nm fun g => { g with row := g.row ++ [n] }).hs from mh)
    split <;> exact o.nm y hy
  m0 := o.m0
  m1 := o.m1
theorem OkN.lose (o : OkN S B) {g : Hd} (m : g ∈ S.hs) {n : Int} (hx : n ∈ g.row) : OkN (S.lose g.nm n) B where
  ok := o.ok.lose o.hn m hx
  hn := (nms_setRow (S := S) (nm := g.nm) (f := fun r => woLast r n)).symm ▸ o.hn
  kl := kl_modT (S := S.setRow g.nm fun r => woLast r n) o.kl (Nat.le_refl B) fun x mx => Nat.le_trans (List.length_erase_le) (o.kl x mx)
  rl := fun h mh => by
    obtain ⟨y, hy, rfl⟩ := mem_modH (show h ∈ (S.modH g.nm fun g => { g with row := woLast g.row n }).hs from mh)
    by_cases c : y.nm = g.nm
    · rw [if_pos c, nd_eq o.hn hy m c]
      have := woLast_len hx
      have := o.rl g m
      show (woLast g.row n).length ≤ 30
      omega
    · rw [if_neg c]
      exact o.rl y hy
  sl := sl_modT (S := S.setRow g.nm fun r => woLast r n) o.sl fun x mx _ => o.sl x mx
  tl := by
    have e : (S.lose g.nm n).ts.length = S.ts.length := len_modT
    rw [e]
    exact o.tl
  hl := by
    have e : (S.lose g.nm n).hs.length = S.hs.length := by show (S.modH g.nm _).hs.length = _; unfold SC.modH; rw [List.length_map]
    rw [e]
    exact o.hl
  nm := fun h mh => by
    obtain ⟨y, hy, rfl⟩ := mem_modH (show h ∈ (S.modH g.nm fun g => { g with row := woLast g.row n }).hs from mh)
    split <;> exact o.nm y hy
  m0 := o.m0
  m1 := o.m1
theorem dropA_len {sl : List (Str × Rw)} {k : Str} : (dropA sl k).length ≤ sl.length := List.length_filter_le _ _
theorem hs_clr {o : Int} {k : Str} {r : Rw} : (S.clr o k r).hs = S.hs := by
  unfold SC.clr
  rcases holds_le (o := o) (r := r) with e | ⟨p, e⟩ <;> rw [e] <;> rfl
theorem many_clr {o : Int} {k : Str} {r : Rw} : (S.clr o k r).many = S.many := by
  unfold SC.clr
  rcases holds_le (o := o) (r := r) with e | ⟨p, e⟩ <;> rw [e] <;> rfl
theorem hs_fill {o : Int} {k : Str} {r : Rw} : (S.fill o k r).hs = S.hs := by
  unfold SC.fill
  rcases holds_le (o := o) (r := r) with e | ⟨p, e⟩ <;> rw [e] <;> rfl
theorem many_fill {o : Int} {k : Str} {r : Rw} : (S.fill o k r).many = S.many := by
  unfold SC.fill
  rcases holds_le (o := o) (r := r) with e | ⟨p, e⟩ <;> rw [e] <;> rfl
theorem OkN.clr (o : OkN S B) {y : Th} (m : y ∈ S.ts) {k : Str} {r : Rw} (hr : getA y.sl k = some r) : OkN (S.clr y.n k r) B where
  ok := o.ok.clr m hr
  hn := by rw [hs_clr]; exact o.hn
  kl := by
    have k1 := kl_modT (S := S) (n := y.n) (f := fun x => { x with sl := dropA x.sl k }) o.kl (Nat.le_refl B) fun x mx => o.kl x mx
    unfold SC.clr
    rcases holds_le (o := y.n) (r := r) with e | ⟨p, e⟩
    · rw [e]
      exact k1
    · rw [e]
      exact kl_modT k1 (Nat.le_refl B) fun x mx => Nat.le_trans (List.length_erase_le) (k1 x mx)
  rl := by rw [hs_clr]; exact o.rl
  sl := by
    have k1 := sl_modT (S := S) (n := y.n) (f := fun x => { x with sl := dropA x.sl k }) o.sl fun x mx _ => Nat.le_trans dropA_len (o.sl x mx)
    unfold SC.clr
    rcases holds_le (o := y.n) (r := r) with e | ⟨p, e⟩
    · rw [e]
      exact k1
    · rw [e]
      exact sl_modT k1 fun x mx _ => k1 x mx
  tl := by
    unfold SC.clr
    rcases holds_le (o := y.n) (r := r) with e | ⟨p, e⟩
    · rw [e]
      show (S.modT _ _).ts.length ≤ 40
      rw [len_modT]
      exact o.tl
    · rw [e]
      show ((S.modT _ _).modT _ _).ts.length ≤ 40
      rw [len_modT, len_modT]
      exact o.tl
  hl := by rw [hs_clr]; exact o.hl
  nm := by rw [hs_clr]; exact o.nm
  m0 := by rw [many_clr]; exact o.m0
  m1 := by rw [many_clr]; exact o.m1
theorem OkN.fill (o : OkN S B) {y : Th} (m : y ∈ S.ts) {k : Str} {r : Rw} (hk : k ∉ y.sl.map (·.1)) (hr : ∀ p ∈ r.holds y.n, p.1 ∈ S.ts.map Th.n) (h8 : y.sl.length < 8) : OkN (S.fill y.n k r) (B + 1) where
  ok := o.ok.fill m hk hr
  hn := by rw [hs_fill]; exact o.hn
  kl := by
    have k1 := kl_modT (S := S) (n := y.n) (f := fun x : Th => { x with sl := putA x.sl k r }) o.kl (Nat.le_refl B) fun x mx => o.kl x mx
    unfold SC.fill
    rcases holds_le (o := y.n) (r := r) with e | ⟨p, e⟩
    · rw [e]
      exact fun x mx => Nat.le_succ_of_le (k1 x mx)
    · rw [e]
      refine kl_modT k1 (Nat.le_succ B) fun x mx => ?_
      have := k1 x mx
      simp
      exact this
  rl := by rw [hs_fill]; exact o.rl
  sl := by
    have k1 := sl_modT (S := S) (n := y.n) (f := fun x : Th => { x with sl := putA x.sl k r }) o.sl fun x mx e => by
      cases nd_eq o.tn mx m e
      show (putA y.sl k r).length ≤ 8
      unfold putA
      rw [if_neg hk]
      simp
      omega
    unfold SC.fill
    rcases holds_le (o := y.n) (r := r) with e | ⟨p, e⟩
    · rw [e]
      exact k1
    · rw [e]
      exact sl_modT k1 fun x mx _ => k1 x mx
  tl := by
    unfold SC.fill
    rcases holds_le (o := y.n) (r := r) with e | ⟨p, e⟩
    · rw [e]
      show (S.modT _ _).ts.length ≤ 40
      rw [len_modT]
      exact o.tl
    · rw [e]
      show ((S.modT _ _).modT _ _).ts.length ≤ 40
      rw [len_modT, len_modT]
      exact o.tl
  hl := by rw [hs_fill]; exact o.hl
  nm := by rw [hs_fill]; exact o.nm
  m0 := by rw [many_fill]; exact o.m0
  m1 := by rw [many_fill]; exact o.m1
/-- the owner behind a slot was emptied -/
theorem clr_at {y : Th} (m : y ∈ S.ts) {k : Str} {r : Rw} : ∃ y' ∈ (S.clr y.n k r).ts, y'.n = y.n ∧ y'.sl = dropA y.sl k ∧ y'.sa = y.sa := by
  unfold SC.clr
  have m1 := modT_at (f := fun x => { x with sl := dropA x.sl k }) m rfl
  rcases holds_le (o := y.n) (r := r) with e | ⟨p, e⟩
  · rw [e]
    exact ⟨_, m1, rfl, rfl, rfl⟩
  · rw [e]
    by_cases c : y.n = p.1
    · exact ⟨_, modT_at (f := fun x => { x with ke := x.ke.erase p.2 }) m1 c, rfl, rfl, rfl⟩
    · exact ⟨_, modT_off m1 c, rfl, rfl, rfl⟩
theorem ns_clr {o : Int} {k : Str} {r : Rw} : (S.clr o k r).ts.map Th.n = S.ts.map Th.n := by
  unfold SC.clr
  rcases holds_le (o := o) (r := r) with e | ⟨p, e⟩
  · rw [e]
    exact ns_setSl
  · rw [e]
    exact ns_delKe.trans ns_setSl
theorem ns_fill {o : Int} {k : Str} {r : Rw} : (S.fill o k r).ts.map Th.n = S.ts.map Th.n := by
  unfold SC.fill
  rcases holds_le (o := o) (r := r) with e | ⟨p, e⟩
  · rw [e]
    exact ns_setSl (S := S) (f := fun sl => putA sl k r)
  · rw [e]
    exact ns_addKe.trans ns_setSl
theorem dropA_no {sl : List (Str × Rw)} {k : Str} : k ∉ (dropA sl k).map (·.1) := fun h => by
  obtain ⟨q, hq, e⟩ := List.mem_map.mp h
  have := (List.mem_filter.mp hq).2
  simp at this
  exact this e
theorem dropA_lt {sl : List (Str × Rw)} {k : Str} {r : Rw} (h : getA sl k = some r) : (dropA sl k).length < sl.length := by
  have hq := getA_some h
  unfold dropA
  refine Nat.lt_of_le_of_ne (List.length_filter_le _ _) fun e => ?_
  have := List.length_filter_eq_length_iff.mp e (k, r) hq
  simp at this
theorem OkN.put_ (o : OkN S B) {y : Th} (m : y ∈ S.ts) {k : Str} {r : Rw} (hr : ∀ p ∈ r.holds y.n, p.1 ∈ S.ts.map Th.n) (h8 : getA y.sl k = none → y.sl.length < 8) : OkN (S.put_ y.n k r) (B + 1) := by
  unfold SC.put_
  rw [slOf_at o.tn m]
  cases e : getA y.sl k with
  | none =>
    have hk : k ∉ y.sl.map (·.1) := fun h => by
      have := getA_is (sl := y.sl) (k := k)
      rw [e, decide_eq_true h] at this
      cases this
    exact o.fill m hk hr (h8 e)
  | some r0 =>
    obtain ⟨y', m', e1, e2, _⟩ := clr_at (S := S) m (k := k) (r := r0)
    have o1 := o.clr m e
    have := dropA_lt e
    have := o.sl y m
    have h := OkN.fill o1 m' (k := k) (r := r) (by rw [e2]; exact dropA_no) (by rw [e1, ns_clr]; exact hr) (by rw [e2]; omega)
    rw [e1] at h
    exact h
theorem foot_clr {C : Addr} {o : Int} {k : Str} {r : Rw} : foot ((S.clr o k r).cells C) = foot (S.cells C) := (foot_delKes _ _).trans foot_setSl
theorem foot_fill {C : Addr} {o : Int} {k : Str} {r : Rw} : foot ((S.fill o k r).cells C) = foot (S.cells C) := (foot_addKes _ _).trans foot_setSl
theorem OkN.addTh (o : OkN S B) {x : Th} (hx : x.n = S.many) (sl : x.sl = []) (ke : x.ke = []) (h40 : S.ts.length < 40) (hm : S.many < 100000) : OkN (S.addTh x) B where
  ok := o.ok.addTh hx o.m0 sl ke
  hn := o.hn
  kl := fun y hy => by
    rcases List.mem_append.mp hy with h | h
    · exact o.kl y h
    · cases List.mem_singleton.mp h
      rw [ke]
      exact Nat.zero_le _
  rl := o.rl
  sl := fun y hy => by
    rcases List.mem_append.mp hy with h | h
    · exact o.sl y h
    · cases List.mem_singleton.mp h
      rw [sl]
      exact Nat.zero_le _
  tl := by
    show (S.ts ++ [x]).length ≤ 40
    simp
    omega
  hl := o.hl
  nm := o.nm
  m0 := by
    have := o.m0
    show 0 ≤ S.many + 1
    omega
  m1 := by
    show S.many + 1 ≤ 100000
    omega
end
end Dl
namespace Dl
open PySem PySem.Spec PyProof.Rows L2
def Rw.val : Rw → Int
  | .plain x => x
  | .weak x => x
  | .keyed _ v => v
def Rw.key : Rw → Option Int
  | .keyed k _ => some k
  | _ => none
def SC.clrO (S : SC) (o : Int) (k : Str) : SC := match getA (S.slOf o) k with
  | some r => S.clr o k r
  | none => S
section
variable {S : SC} {B : Nat} {C : Addr}
theorem rd_brOne {c : Bool} {P R : Prop} (h : R) (g : c = true → R → P) : Br c P R := ⟨fun e => g e h, fun _ => h⟩
theorem hold_in (o : OkS S) {y : Th} (m : y ∈ S.ts) {k : Str} {r : Rw} (hr : getA y.sl k = some r) {p : Int × List Int} (hp : p ∈ r.holds y.n) (f : List (Str × Rw) → List (Str × Rw)) : ∃ x ∈ (S.setSl y.n f).ts, x.n = p.1 ∧ p.2 ∈ x.ke := by
  have hq := getA_some hr
  obtain ⟨x, hx, e⟩ := th_of (o.refs y m _ hq p hp)
  have h := o.has_hold m hq hp x hx e
  by_cases c : x.n = y.n
  · exact ⟨_, modT_at (f := fun x => { x with sl := f x.sl }) hx c, e, h⟩
  · exact ⟨_, modT_off hx c, e, h⟩
theorem room_in (o : OkN S B) {n : Int} (h : n ∈ S.ts.map Th.n) (u : Int) (f : List (Str × Rw) → List (Str × Rw)) : ∃ x ∈ (S.setSl u f).ts, x.n = n ∧ x.ke.length ≤ B := by
  obtain ⟨x, hx, e⟩ := th_of h
  have h := o.kl x hx
  by_cases c : x.n = u
  · exact ⟨_, modT_at (f := fun x => { x with sl := f x.sl }) hx c, e, h⟩
  · exact ⟨_, modT_off hx c, e, h⟩
theorem OkN.clrO (o : OkN S B) {y : Th} (m : y ∈ S.ts) (k : Str) : OkN (S.clrO y.n k) B := by
  unfold SC.clrO
  rw [slOf_at o.tn m]
  cases e : getA y.sl k with
  | none => exact o
  | some r => exact o.clr m e
theorem clrO_at (tn : (S.ts.map Th.n).Nodup) {y : Th} (m : y ∈ S.ts) {k : Str} : ∃ y' ∈ (S.clrO y.n k).ts, y'.n = y.n ∧ k ∉ y'.sl.map (·.1) ∧ y'.sl.length ≤ y.sl.length ∧ (getA y.sl k ≠ none → y'.sl.length < y.sl.length) := by
  unfold SC.clrO
  rw [slOf_at tn m]
  cases e : getA y.sl k with
  | none =>
    refine ⟨y, m, rfl, fun h => ?_, Nat.le_refl _, fun h => (h rfl).elim⟩
    have := getA_is (sl := y.sl) (k := k)
    rw [e, decide_eq_true h] at this
    cases this
  | some r =>
    obtain ⟨y', m', e1, e2, _⟩ := clr_at (S := S) m (k := k) (r := r)
    have := dropA_lt e
    exact ⟨y', m', e1, by rw [e2]; exact dropA_no, by rw [e2]; omega, fun _ => by rw [e2]; exact this⟩
theorem put_eq' (tn : (S.ts.map Th.n).Nodup) {y : Th} (m : y ∈ S.ts) {k : Str} {r : Rw} : S.put_ y.n k r = (S.clrO y.n k).fill y.n k r := by
  unfold SC.put_ SC.clrO
  rw [slOf_at tn m]
  all_goals (cases getA y.sl k <;> rfl)
theorem ns_clrO {o : Int} {k : Str} : (S.clrO o k).ts.map Th.n = S.ts.map Th.n := by
  unfold SC.clrO
  cases getA (S.slOf o) k with
  | none => rfl
  | some r => exact ns_clr
theorem foot_clrO {o : Int} {k : Str} : foot ((S.clrO o k).cells C) = foot (S.cells C) := by
  unfold SC.clrO
  cases getA (S.slOf o) k with
  | none => rfl
  | some r => exact foot_clr
theorem t_clr {o : Int} {k : Str} {r : Rw} : (S.clr o k r).t = S.t ∧ (S.clr o k r).r = S.r ∧ (S.clr o k r).f = S.f ∧ (S.clr o k r).flds = S.flds := by
  unfold SC.clr
  rcases holds_le (o := o) (r := r) with e | ⟨p, e⟩ <;> rw [e] <;> exact ⟨rfl, rfl, rfl, rfl⟩
theorem t_fill {o : Int} {k : Str} {r : Rw} : (S.fill o k r).t = S.t ∧ (S.fill o k r).flds = S.flds := by
  unfold SC.fill
  rcases holds_le (o := o) (r := r) with e | ⟨p, e⟩ <;> rw [e] <;> exact ⟨rfl, rfl⟩
theorem t_clrO {o : Int} {k : Str} : (S.clrO o k).t = S.t ∧ (S.clrO o k).r = S.r ∧ (S.clrO o k).f = S.f ∧ (S.clrO o k).flds = S.flds := by
  unfold SC.clrO
  cases getA (S.slOf o) k with
  | none => exact ⟨rfl, rfl, rfl, rfl⟩
  | some r => exact t_clr
theorem hs_clrO {o : Int} {k : Str} : (S.clrO o k).hs = S.hs := by
  unfold SC.clrO
  cases getA (S.slOf o) k with
  | none => rfl
  | some r => exact hs_clr
theorem hs_put {o : Int} {k : Str} {r : Rw} : (S.put_ o k r).hs = S.hs := by
  unfold SC.put_
  cases getA (S.slOf o) k with
  | none => exact hs_fill
  | some r0 => exact hs_fill.trans hs_clr
theorem ns_put {o : Int} {k : Str} {r : Rw} : (S.put_ o k r).ts.map Th.n = S.ts.map Th.n := by
  unfold SC.put_
  cases getA (S.slOf o) k with
  | none => exact ns_fill
  | some r0 => exact ns_fill.trans ns_clr
theorem many_put {o : Int} {k : Str} {r : Rw} : (S.put_ o k r).many = S.many := by
  unfold SC.put_
  cases getA (S.slOf o) k with
  | none => exact many_fill
  | some r0 => exact many_fill.trans many_clr
theorem foot_put {o : Int} {k : Str} {r : Rw} : foot ((S.put_ o k r).cells C) = foot (S.cells C) := by
  unfold SC.put_
  cases getA (S.slOf o) k with
  | none => exact foot_fill
  | some r0 => exact foot_fill.trans foot_clr
/-- words, and the things' numbers -/
def SC.wds (S : SC) : List (Int × Str) := S.ts.map fun x => (x.n, x.w)
theorem wds_modT {n : Int} {f : Th → Th} (h : ∀ x, (f x).n = x.n ∧ (f x).w = x.w) : (S.modT n f).wds = S.wds := modT_map (g := fun x : Th => (x.n, x.w)) fun x => by rw [(h x).1, (h x).2]
theorem wds_setSl {n : Int} {f : List (Str × Rw) → List (Str × Rw)} : (S.setSl n f).wds = S.wds := wds_modT fun _ => ⟨rfl, rfl⟩
theorem wds_addKe {n : Int} {h : List Int} : (S.addKe n h).wds = S.wds := wds_modT fun _ => ⟨rfl, rfl⟩
theorem wds_delKe {n : Int} {h : List Int} : (S.delKe n h).wds = S.wds := wds_modT fun _ => ⟨rfl, rfl⟩
theorem wds_fill {o : Int} {k : Str} {r : Rw} : (S.fill o k r).wds = S.wds := by
  unfold SC.fill
  rcases holds_le (o := o) (r := r) with e | ⟨p, e⟩
  · rw [e]
    exact wds_setSl (S := S) (f := fun sl => putA sl k r)
  · rw [e]
    exact (wds_addKe (S := S.setSl o fun sl => putA sl k r)).trans wds_setSl
theorem wds_clr {o : Int} {k : Str} {r : Rw} : (S.clr o k r).wds = S.wds := by
  unfold SC.clr
  rcases holds_le (o := o) (r := r) with e | ⟨p, e⟩
  · rw [e]
    exact wds_setSl (S := S) (f := fun sl => dropA sl k)
  · rw [e]
    exact (wds_delKe (S := S.setSl o fun sl => dropA sl k)).trans wds_setSl
theorem wds_put {o : Int} {k : Str} {r : Rw} : (S.put_ o k r).wds = S.wds := by
  unfold SC.put_
  cases getA (S.slOf o) k with
  | none => exact wds_fill
  | some r0 => exact wds_fill.trans wds_clr
theorem wds_have {nm : Str} {n : Int} : (S.have_ nm n).wds = S.wds := wds_modT fun _ => ⟨rfl, rfl⟩
theorem wds_lose {nm : Str} {n : Int} : (S.lose nm n).wds = S.wds := wds_modT fun _ => ⟨rfl, rfl⟩
theorem foot_have {nm : Str} {n : Int} : foot ((S.have_ nm n).cells C) = foot (S.cells C) := foot_addKe.trans foot_setRow
theorem foot_lose {nm : Str} {n : Int} : foot ((S.lose nm n).cells C) = foot (S.cells C) := foot_delKe.trans foot_setRow
/-- the rows told by name -/
def SC.rws (S : SC) : List (Str × List Int) := S.hs.map fun g => (g.nm, g.row)
end
end Dl
namespace Dl
open PySem PySem.Spec PyProof.Rows L2
section
variable {S : SC} {C : Addr} {μ : Mu}
theorem St.five (s : St C μ S) : S.t ≠ S.r ∧ S.t ≠ S.f ∧ S.t ≠ S.l ∧ S.t ≠ S.k ∧ S.r ≠ S.f ∧ S.r ≠ S.l ∧ S.r ≠ S.k ∧ S.f ≠ S.l ∧ S.f ≠ S.k ∧ S.l ≠ S.k := by
  have nd : (foot (S.cells C)).Nodup := s.sits.nd
  rw [foot_eq] at nd
  simp only [List.nodup_cons, List.mem_cons, not_or] at nd
  exact ⟨nd.1.1, nd.1.2.1, nd.1.2.2.1, nd.1.2.2.2.1, nd.2.1.1, nd.2.1.2.1, nd.2.1.2.2.1, nd.2.2.1.1, nd.2.2.1.2.1, nd.2.2.2.1.1⟩
theorem flds_many {j : Int} : putFD "many" (.int j) S.flds = ({ S with many := j } : SC).flds := by
  unfold SC.flds
  simp only [putFD]
  rw [if_neg (by decide +kernel), if_neg (by decide +kernel), if_neg (by decide +kernel), if_neg (by decide +kernel), if_pos trivial]
theorem rd_putNew {α : Type} {f : α → Int} {g : α → D} {l : List α} {n : Int} {v : D} {a : Addr} {Q : Mu → Prop} (h : μ a = some (.dK (l.map fun x => (.inl (f x), g x)))) (hn : n ∉ l.map f) (hl : l.length ≤ 1000) (q : Q (put μ a (.dK ((l.map fun x => (.inl (f x), g x)) ++ [(.inl n, v)])))) : PutD μ (.at a) (.int n) v Q :=
  .inl ⟨_, .inl n, h, rfl, by rw [List.length_map]; omega, by rw [put_new (f := fun x : α => (Sum.inl (f x) : Key)) fun m => hn (mem_inl.mp m)]; exact q⟩
end
end Dl
namespace Dl
open PySem PySem.Spec PyProof.Rows L2
section
variable {C : Addr} {μ : Mu}
theorem St.mk0 {t r f l k : Addr} {hs : List Hd} (nd : (t :: r :: f :: l :: k :: hs.map Hd.ra).Nodup) (hn : (hs.map Hd.nm).Nodup)
    (h1 : μ t = some (.ins C [(("rows" : Str), D.at r), (("filled" : Str), D.at f), (("last" : Str), D.at l), (("kept" : Str), D.at k), (("many" : Str), D.int 0)])) (h2 : μ r = some (.dK (hs.map fun h => (.inr h.nm, .at h.ra)))) (h3 : μ f = some (.dK [])) (h4 : μ l = some (.dK [])) (h5 : μ k = some (.dK [])) (h6 : ∀ h ∈ hs, μ h.ra = some (.lst (h.row.map .int))) : St C μ ⟨t, r, f, l, k, hs, [], 0, [], []⟩ := by
  refine ⟨⟨fun q hq => ?_, ?_⟩, hn, List.nodup_nil, fun _ _ => rfl⟩
  · simp only [SC.cells, List.mem_cons, List.mem_append, List.mem_map, List.map_nil, List.not_mem_nil, or_false, List.append_nil] at hq
    rcases hq with rfl | rfl | rfl | rfl | rfl | ⟨h, m, rfl⟩
    · exact h1
    · exact h2
    · exact h3
    · exact h4
    · exact h5
    · exact h6 h m
  · show (foot (SC.cells C _)).Nodup
    rw [foot_eq]
    simpa using nd
theorem Ls.mono {μ μ' : Mu} {d : D} {ds : List D} (h : Ls μ d ds) (g : ∀ a o, μ a = some o → μ' a = some o) : Ls μ' d ds := by
  unfold Ls at h ⊢
  split at h
  · exact h
  · exact g _ _ h
  · exact h
/-- a dict of fresh lists, one for each name, while it grows -/
structure Rowing (μ μ' : Mu) (L : Addr) (hs : List Hd) (xs : List Str) : Prop where
  nm : hs.map Hd.nm = xs
  row : ∀ g ∈ hs, g.row = []
  nd : (hs.map Hd.ra).Nodup
  new : ∀ g ∈ hs, μ g.ra = none ∧ g.ra ≠ L
  at_ : ∀ g ∈ hs, μ' g.ra = some (.lst [])
  dic : μ' L = some (.dK (hs.map fun h => (.inr h.nm, .at h.ra)))
  oth : ∀ a, a ≠ L → a ∉ hs.map Hd.ra → μ' a = μ a
theorem Rowing.zero {μ : Mu} {L : Addr} : Rowing μ (put μ L (.dK [])) L [] [] := ⟨rfl, (fun _ h => by cases h), List.nodup_nil, (fun _ h => by cases h), (fun _ h => by cases h), put_same, fun a h _ => put_ne h⟩
theorem Rowing.step {μ μ' : Mu} {L : Addr} {hs : List Hd} {xs : List Str} (w : Rowing μ μ' L hs xs) {x : Str} (hx : x ∉ xs) {p : Addr} (hp : μ' p = none) :
    (.inr x : Key) ∉ (hs.map fun h => (Sum.inr h.nm : Key)) ∧ Rowing μ (put (put μ' p (.lst [])) L (.dK (putD (hs.map fun h => (.inr h.nm, .at h.ra)) (.inr x) (.at p)))) L (hs ++ [⟨x, p, []⟩]) (xs ++ [x]) := by
  have no : (.inr x : Key) ∉ (hs.map fun h => (Sum.inr h.nm : Key)) := fun m => by
    rw [mem_inr, w.nm] at m
    exact hx m
  have pL : p ≠ L := fun e => by
    rw [e, w.dic] at hp
    cases hp
  have pn : p ∉ hs.map Hd.ra := fun m => by
    obtain ⟨g, mg, e⟩ := List.mem_map.mp m
    rw [← e, w.at_ g mg] at hp
    cases hp
  have pm : μ p = none := by rw [← w.oth p pL pn]; exact hp
  refine ⟨no, ?_, ?_, ?_, ?_, ?_, ?_, ?_⟩
  · rw [List.map_append, w.nm]
    rfl
  · intro g mg
    rcases List.mem_append.mp mg with m | m
    · exact w.row g m
    · cases List.mem_singleton.mp m
      rfl
  · rw [List.map_append, List.nodup_append]
    refine ⟨w.nd, by simp, fun a ha b hb => ?_⟩
    cases List.mem_singleton.mp hb
    exact fun e => pn ((show a = p from e) ▸ ha)
  · intro g mg
    rcases List.mem_append.mp mg with m | m
    · exact w.new g m
    · cases List.mem_singleton.mp m
      exact ⟨pm, pL⟩
  · intro g mg
    rcases List.mem_append.mp mg with m | m
    · rw [put_ne (w.new g m).2, put_ne fun (e : g.ra = p) => pn (e ▸ List.mem_map.mpr ⟨g, m, rfl⟩)]
      exact w.at_ g m
    · cases List.mem_singleton.mp m
      rw [put_ne pL, put_same]
  · rw [put_same, put_new no, List.map_append]
    rfl
  · intro a h1 h2
    rw [List.map_append, List.mem_append, not_or] at h2
    rw [put_ne h1, put_ne fun (e : a = p) => h2.2 (List.mem_singleton.mpr e)]
    exact w.oth a h1 h2.1
theorem Rowing.keep {μ μ' : Mu} {L : Addr} {hs : List Hd} {xs : List Str} (w : Rowing μ μ' L hs xs) (hL : μ L = none) : ∀ a o, μ a = some o → μ' a = some o := fun a o h => by
  rw [w.oth a (ne_no h hL) fun m => ?_]
  · exact h
  · obtain ⟨g, mg, rfl⟩ := List.mem_map.mp m
    rw [(w.new g mg).1] at h
    cases h
end
end Dl
namespace Dl
open PySem PySem.Spec PyProof.Rows L2
/-! ### names drawn -/
def one1 (c : Nat) : Str := ⟨#[c]⟩
theorem cat_one (c : Nat) (cs : List Nat) : (one1 c ++ (⟨cs.toArray⟩ : Str) : Str) = ⟨(c :: cs).toArray⟩ := by
  show (⟨#[c] ++ cs.toArray⟩ : Str) = _
  simp
theorem join_ones : ∀ cs : List Nat, Str.join "" (cs.map one1) = ⟨cs.toArray⟩
  | [] => rfl
  | [c] => rfl
  | c :: d :: cs => by
    show one1 c ++ ("" : Str) ++ Str.join "" ((d :: cs).map one1) = _
    rw [join_ones (d :: cs)]
    have e : (one1 c ++ ("" : Str) : Str) = one1 c := by
      show (⟨#[c] ++ ("" : Str).cps⟩ : Str) = _
      rfl
    rw [e]
    exact cat_one c (d :: cs)
theorem nameB_of {cs : List Nat} (h : ∀ c ∈ cs, isLet c = true) (h1 : 1 ≤ cs.length) (h8 : cs.length ≤ 8) : nameB ⟨cs.toArray⟩ = true := by
  unfold nameB
  have e : (⟨cs.toArray⟩ : Str).length = cs.length := by
    show cs.toArray.size = _
    simp
  rw [e, decide_eq_true h1, decide_eq_true h8]
  simpa using h
theorem rd_ixLet {k : Int} {μ : Mu} {Q : DQ} (h0 : 0 ≤ k) (h1 : k < 26) (q : ∀ c, isLet c = true → Q (.str (one1 c)) μ) : fIx (.str letters) (.int k) μ Q := by
  have hl : letters.cps.toList.length = 26 := by decide +kernel
  have hk : k.toNat < letters.cps.toList.length := by omega
  refine ⟨letters.cps.toList[k.toNat], by decide +kernel, ?_, q _ (decide_eq_true (List.getElem_mem hk))⟩
  unfold atI
  have e1 : ixN letters.cps.toList.length k = some k.toNat := by
    unfold ixN
    rw [if_pos h0, if_pos (by omega)]
  rw [e1]
  simp only [Option.bind_some]
  exact List.getElem?_eq_getElem hk
theorem sum_ones (cs : List Nat) (h : cs.length ≤ 1000000) : ((cs.map one1).map (·.length)).sum + (cs.map one1).length * ("" : Str).length ≤ 1000000 := by
  have e : ∀ l : List Nat, ((l.map one1).map (·.length)).sum = l.length := fun l => by
    induction l with
    | nil => rfl
    | cons c l ih =>
      rw [List.map_cons, List.map_cons, List.sum_cons, ih, List.length_cons]
      show 1 + _ = _
      omega
  rw [e]
  show cs.length + _ * 0 ≤ 1000000
  omega
theorem join_txt (cs : List Nat) : Txt.join "" (cs.map one1) = ⟨cs.toArray⟩ := by
  show PySem.Txt.join _ _ = _
  unfold PySem.Txt.join
  rw [StrLaws.glued_eq_join]
  exact join_ones cs
/-! sixty names, one of them is free -/
theorem len_sub {α : Type} [DecidableEq α] : ∀ {l k : List α}, l.Nodup → (∀ x ∈ l, x ∈ k) → l.length ≤ k.length
  | [], _, _, _ => Nat.zero_le _
  | x :: l, k, nd, h => by
    have nd' := List.nodup_cons.mp nd
    have hx := h x List.mem_cons_self
    have ih := len_sub (k := k.erase x) nd'.2 fun y hy => (List.mem_erase_of_ne fun (e : y = x) => nd'.1 (e ▸ hy)).mpr (h y (List.mem_cons_of_mem _ hy))
    rw [List.length_erase_of_mem hx] at ih
    have := List.length_pos_of_mem hx
    rw [List.length_cons]
    omega
theorem woLast_cut (xs : List Int) (n : Int) (i : Nat) (e : i = xs.length - 1 - xs.reverse.idxOf n) : xs.take i ++ xs.drop (i + 1) = woLast xs n := by
  unfold woLast
  rw [← e, List.eraseIdx_eq_take_drop_succ]
end Dl
namespace Dl
open PySem PySem.Spec PyProof.Rows L2
/-! ### a store and a law's own rows of it -/
def rwD (q : Str × List Int) : Key × D := (.inr q.1, .lst (q.2.map .int))
structure Mo (C : Addr) (μ : Mu) (p m m1 w1 : Addr) (S : SC) (B : Nat) : Prop where
  st : St C μ S
  ok : OkN S B
  fx : S.fx.length ≤ 100
  pot : μ p = some .pot
  hm : μ m = some (.dK [(.inr "rows", .at m1), (.inr "words", .at w1)])
  hr : μ m1 = some (.dK (S.rws.map rwD))
  hw : μ w1 = some (.lst ((S.ts.map Th.w).map .str))
  pF : p ∉ foot (S.cells C)
  mF : m ∉ foot (S.cells C)
  rF : m1 ∉ foot (S.cells C)
  wF : w1 ∉ foot (S.cells C)
  ne : m ≠ m1
  num : S.ts.map Th.n = (List.range S.ts.length).map fun (i : Nat) => (i : Int)
  cnt : S.many = S.ts.length
section
variable {C : Addr} {μ : Mu} {p m m1 w1 : Addr} {S : SC} {B : Nat}
theorem Mo.names (o : Mo C μ p m m1 w1 S B) : (S.hs.map Hd.nm).Nodup := o.ok.hn
/-- a row set anew -/
def setR (rs : List (Str × List Int)) (nm : Str) (r : List Int) : List (Str × List Int) := rs.map fun q => (q.1, if q.1 = nm then r else q.2)
theorem rd_putR {Q : Mu → Prop} {rs : List (Str × List Int)} {nm : Str} {r : List Int} (h : μ m1 = some (.dK (rs.map rwD))) (hm : nm ∈ rs.map (·.1)) (hl : rs.length ≤ 1000) (q : Q (put μ m1 (.dK ((setR rs nm r).map rwD)))) : PutD μ (.at m1) (.str nm) (.lst (r.map .int)) Q :=
  .inl ⟨_, .inr nm, h, rfl, by rw [List.length_map]; omega, by
    have e : putD (rs.map rwD) (.inr nm) (.lst (r.map .int)) = (setR rs nm r).map rwD := by
      have := put_old (κ := Key) (f := fun q : Str × List Int => Sum.inr q.1) (g := fun q => D.lst (q.2.map .int)) (k := .inr nm) (v := .lst (r.map .int)) (l := rs) (mem_inr.mpr hm)
      refine (show putD (rs.map rwD) (.inr nm) (.lst (r.map .int)) = _ from this).trans ?_
      unfold setR
      rw [List.map_map]
      refine List.map_congr_left fun q _ => ?_
      show ((Sum.inr q.1 : Key), if (Sum.inr q.1 : Key) = .inr nm then D.lst (r.map .int) else .lst (q.2.map .int)) = ((Sum.inr q.1 : Key), D.lst ((if q.1 = nm then r else q.2).map .int))
      by_cases c : q.1 = nm
      · rw [if_pos c, if_pos (by rw [c])]
      · rw [if_neg c, if_neg fun e => c (Sum.inr.inj e)]
    rw [e]
    exact q⟩
theorem rws_setRow {nm : Str} {f : List Int → List Int} (hn : (S.hs.map Hd.nm).Nodup) {g : Hd} (h : g ∈ S.hs) : (S.setRow g.nm f).rws = setR S.rws g.nm (f g.row) := by
  unfold SC.rws setR
  have e : (S.setRow g.nm f).hs = S.hs.map fun y => if y.nm = g.nm then { y with row := f y.row } else y := rfl
  rw [e, List.map_map, List.map_map]
  refine List.map_congr_left fun y hy => ?_
  show ((if y.nm = g.nm then { y with row := f y.row } else y).nm, (if y.nm = g.nm then { y with row := f y.row } else y).row) = (y.nm, if y.nm = g.nm then f g.row else y.row)
  by_cases c : y.nm = g.nm
  · rw [if_pos c, if_pos c, nd_eq hn hy h c]
  · rw [if_neg c, if_neg c]
theorem rws_have (hn : (S.hs.map Hd.nm).Nodup) {g : Hd} (h : g ∈ S.hs) {n : Int} : (S.have_ g.nm n).rws = setR S.rws g.nm (g.row ++ [n]) := rws_setRow (f := (· ++ [n])) (nm := g.nm) hn h
theorem rws_put {o : Int} {k : Str} {r : Rw} : (S.put_ o k r).rws = S.rws := by
  unfold SC.rws
  rw [hs_put]
theorem ws_of (e : S.wds = S.wds) : S.ts.map Th.w = S.wds.map (·.2) := by
  unfold SC.wds
  rw [List.map_map]
  rfl
theorem wn_of {S' : SC} (e : S'.wds = S.wds) : S'.ts.map Th.w = S.ts.map Th.w ∧ S'.ts.map Th.n = S.ts.map Th.n ∧ S'.ts.length = S.ts.length := by
  refine ⟨?_, ?_, ?_⟩
  · rw [ws_of (S := S') rfl, ws_of (S := S) rfl, e]
  · have a : ∀ S : SC, S.ts.map Th.n = S.wds.map (·.1) := fun S => by
      unfold SC.wds
      rw [List.map_map]
      rfl
    rw [a, a, e]
  · have := congrArg List.length e
    unfold SC.wds at this
    rw [List.length_map, List.length_map] at this
    exact this
/-- what a deed leaves, once the law's own rows have followed -/
theorem Mo.next (o : Mo C μ p m m1 w1 S B) {μ' : Mu} {S' : SC} {B' : Nat} (s : St C μ' S') (k : OkN S' B') (sm : Same (foot (S.cells C)) μ μ') (e : S'.wds = S.wds) (ef : foot (S'.cells C) = foot (S.cells C)) (efx : S'.fx = S.fx) (em : S'.many = S.many) : Mo C (put μ' m1 (.dK (S'.rws.map rwD))) p m m1 w1 S' B' := by
  obtain ⟨e1, e2, e3⟩ := wn_of e
  have pm : p ≠ m1 := fun z => by
    have h1 := o.pot
    have h2 := o.hr
    rw [← z, h1] at h2
    cases h2
  have wm : w1 ≠ m1 := fun z => by
    have h1 := o.hw
    have h2 := o.hr
    rw [← z, h1] at h2
    cases h2
  refine ⟨⟨s.sits.put (by rw [ef]; exact o.rF), s.hn, s.tn, s.mt⟩, k, by rw [efx]; exact o.fx, ?_, ?_, put_same, ?_, by rw [ef]; exact o.pF, by rw [ef]; exact o.mF, by rw [ef]; exact o.rF, by rw [ef]; exact o.wF, o.ne, by rw [e2, e3]; exact o.num, by rw [em, e3]; exact o.cnt⟩
  · rw [put_ne pm]
    exact sm.at o.pF o.pot
  · rw [put_ne o.ne]
    exact sm.at o.mF o.hm
  · rw [put_ne wm, e1]
    exact sm.at o.wF o.hw
end
end Dl
namespace Dl
open PySem PySem.Spec PyProof.Rows L2
/-- from one state of a store and a law's own rows to a later one -/
structure Nx (C : Addr) (μ μ' : Mu) (m1 w1 : Addr) (S S' : SC) : Prop where
  t : S'.t = S.t
  nm : S'.hs.map Hd.nm = S.hs.map Hd.nm
  kp : ∀ a o, μ a = some o → a ∉ foot (S.cells C) → a ≠ m1 → a ≠ w1 → μ' a = some o
  ft : ∀ a ∈ foot (S'.cells C), a ∈ foot (S.cells C) ∨ μ a = none
section
variable {C : Addr} {μ μ' : Mu} {p m m1 w1 : Addr} {S S' : SC} {B : Nat}
theorem Nx.refl : Nx C μ μ m1 w1 S S := ⟨rfl, rfl, fun _ _ h _ _ _ => h, fun _ h => .inl h⟩
theorem OkN.mono (o : OkN S B) {B' : Nat} (h : B ≤ B') : OkN S B' := ⟨o.ok, o.hn, fun x m => Nat.le_trans (o.kl x m) h, o.rl, o.sl, o.tl, o.hl, o.nm, o.m0, o.m1⟩
theorem Mo.mono (o : Mo C μ p m m1 w1 S B) {B' : Nat} (h : B ≤ B') : Mo C μ p m m1 w1 S B' := { o with ok := o.ok.mono h }
theorem Mo.pr (o : Mo C μ p m m1 w1 S B) : p ≠ m1 ∧ w1 ≠ m1 ∧ p ≠ w1 ∧ m ≠ w1 ∧ p ≠ m := by
  have h1 := o.pot
  have h2 := o.hr
  have h3 := o.hw
  have h4 := o.hm
  refine ⟨fun z => ?_, fun z => ?_, fun z => ?_, fun z => ?_, fun z => ?_⟩
  · rw [← z, h1] at h2; cases h2
  · rw [← z, h3] at h2; cases h2
  · rw [← z, h1] at h3; cases h3
  · rw [← z, h4] at h3; cases h3
  · rw [← z, h1] at h4; cases h4
/-- a deed that changes no foot -/
theorem Mo.nx (o : Mo C μ p m m1 w1 S B) (sm : Same (foot (S.cells C)) μ μ') (ef : foot (S'.cells C) = foot (S.cells C)) (et : S'.t = S.t) (en : S'.hs.map Hd.nm = S.hs.map Hd.nm) {x : O} : Nx C μ (put μ' m1 x) m1 w1 S S' :=
  ⟨et, en, fun a o' h n h1 _ => by rw [put_ne h1]; exact sm.at n h, fun a h => .inl (ef ▸ h)⟩
theorem nms_have {nm : Str} {n : Int} : (S.have_ nm n).hs.map Hd.nm = S.hs.map Hd.nm := nms_setRow (S := S) (f := (· ++ [n]))
theorem nms_lose {nm : Str} {n : Int} : (S.lose nm n).hs.map Hd.nm = S.hs.map Hd.nm := nms_setRow (S := S) (f := fun r => woLast r n)
/-- a thing made -/
theorem Mo.made (o : Mo C μ p m m1 w1 S B) {g : Hd} (hg : g ∈ S.hs) (h30 : g.row.length < 30) (h40 : S.ts.length < 40) {y : Th} {w : Str} (yn : y.n = S.many) (sl : y.sl = []) (yw : y.w = w) (ke : y.ke = []) (n1 : μ y.sa = none) (n2 : μ y.ka = none)
    (s : St C μ' ((S.addTh y).have_ g.nm S.many)) (sm : Same (foot ((S.addTh y).cells C)) μ μ') :
    Mo C (put (put μ' m1 (.dK ((setR S.rws g.nm (g.row ++ [S.many])).map rwD))) w1 (.lst ((S.ts.map Th.w).map .str ++ [.str w]))) p m m1 w1 ((S.addTh y).have_ g.nm S.many) (B + 1) ∧ Nx C μ (put (put μ' m1 (.dK ((setR S.rws g.nm (g.row ++ [S.many])).map rwD))) w1 (.lst ((S.ts.map Th.w).map .str ++ [.str w]))) m1 w1 S ((S.addTh y).have_ g.nm S.many) := by
  obtain ⟨pm, wm, pw, mw, _⟩ := o.pr
  have hm := o.cnt
  have o1 := o.ok.addTh yn sl ke h40 (by omega)
  have hin : S.many ∈ (S.addTh y).ts.map Th.n := List.mem_map.mpr ⟨y, List.mem_append.mpr (.inr (List.mem_singleton.mpr rfl)), yn⟩
  have o2 := OkN.have_ o1 (g := g) hg hin h30
  have ef : foot (((S.addTh y).have_ g.nm S.many).cells C) = foot ((S.addTh y).cells C) := foot_have
  have out : ∀ a o', μ a = some o' → a ∉ foot (S.cells C) → a ∉ foot ((S.addTh y).cells C) := fun a o' h n z => by
    rw [foot_eq] at z n
    simp only [SC.addTh, List.mem_cons, List.mem_append, List.map_append, List.map_cons, List.map_nil, List.not_mem_nil, or_false, not_or] at z n
    rcases z with z | z | z | z | z | z | (z | z) | (z | z) | z
    · exact n.1 z
    · exact n.2.1 z
    · exact n.2.2.1 z
    · exact n.2.2.2.1 z
    · exact n.2.2.2.2.1 z
    · exact n.2.2.2.2.2.1 z
    · exact n.2.2.2.2.2.2.1 z
    · rw [z, n1] at h; cases h
    · exact n.2.2.2.2.2.2.2.1 z
    · rw [z, n2] at h; cases h
    · exact n.2.2.2.2.2.2.2.2 z
  have pF := out p _ o.pot o.pF
  have mF := out m _ o.hm o.mF
  have rF := out m1 _ o.hr o.rF
  have wF := out w1 _ o.hw o.wF
  have er : ((S.addTh y).have_ g.nm S.many).rws = setR S.rws g.nm (g.row ++ [S.many]) := rws_have (S := S.addTh y) o.ok.hn hg
  have ew : ((S.addTh y).have_ g.nm S.many).ts.map Th.w = S.ts.map Th.w ++ [w] := by
    rw [(wn_of (S := S.addTh y) wds_have).1]
    show (S.ts ++ [y]).map Th.w = _
    rw [List.map_append, ← yw]
    rfl
  have en : ((S.addTh y).have_ g.nm S.many).ts.map Th.n = S.ts.map Th.n ++ [S.many] := by
    rw [(wn_of (S := S.addTh y) wds_have).2.1]
    show (S.ts ++ [y]).map Th.n = _
    rw [List.map_append, ← yn]
    rfl
  have el : ((S.addTh y).have_ g.nm S.many).ts.length = S.ts.length + 1 := by
    rw [(wn_of (S := S.addTh y) wds_have).2.2]
    show (S.ts ++ [y]).length = _
    simp
  refine ⟨⟨⟨(s.sits.put (by rw [ef]; exact rF)).put (by rw [ef]; exact wF), s.hn, s.tn, s.mt⟩, o2, o.fx, ?_, ?_, ?_, ?_, by rw [ef]; exact pF, by rw [ef]; exact mF, by rw [ef]; exact rF, by rw [ef]; exact wF, o.ne, ?_, ?_⟩, ⟨rfl, nms_have (S := S.addTh y), ?_, ?_⟩⟩
  · rw [put_ne pw, put_ne pm]
    exact sm.at pF o.pot
  · rw [put_ne mw, put_ne o.ne]
    exact sm.at mF o.hm
  · rw [put_ne (Ne.symm wm), put_same, er]
  · rw [put_same, ew, List.map_append]
    rfl
  · rw [en, el, List.range_succ, List.map_append, ← o.num, hm]
    rfl
  · show S.many + 1 = _
    rw [el, hm]
    rfl
  · intro a o' h n h1 h2
    rw [put_ne h2, put_ne h1]
    exact sm.at (out a o' h n) h
  · intro a h
    rw [ef] at h
    by_cases c : a ∈ foot (S.cells C)
    · exact .inl c
    · right
      cases e : μ a with
      | none => rfl
      | some o' => exact (out a o' e c h).elim
/-! the slots' names -/
def SlA (S : SC) (P : Str → Prop) : Prop := ∀ x ∈ S.ts, ∀ q ∈ x.sl, P q.1
theorem SlA.modT {P : Str → Prop} (h : SlA S P) {n : Int} {f : Th → Th} (hf : ∀ x ∈ S.ts, ∀ q ∈ (f x).sl, P q.1) : SlA (S.modT n f) P := fun x m q hq => by
  obtain ⟨y, hy, rfl⟩ := mem_modT m
  revert hq
  split
  · exact hf y hy q
  · exact h y hy q
theorem SlA.have_ {P : Str → Prop} (h : SlA S P) {nm : Str} {n : Int} : SlA (S.have_ nm n) P := SlA.modT (S := S.setRow nm (· ++ [n])) h fun x m q hq => h x m q hq
theorem SlA.lose {P : Str → Prop} (h : SlA S P) {nm : Str} {n : Int} : SlA (S.lose nm n) P := SlA.modT (S := S.setRow nm fun r => woLast r n) h fun x m q hq => h x m q hq
theorem SlA.addTh {P : Str → Prop} (h : SlA S P) {y : Th} (e : y.sl = []) : SlA (S.addTh y) P := fun x m q hq => by
  rcases List.mem_append.mp m with m | m
  · exact h x m q hq
  · cases List.mem_singleton.mp m
    rw [e] at hq
    cases hq
theorem SlA.fill {P : Str → Prop} (h : SlA S P) {o : Int} {k : Str} {r : Rw} (hk : P k) : SlA (S.fill o k r) P := by
  have h1 : SlA (S.setSl o fun sl => putA sl k r) P := SlA.modT h fun x m q hq => by
    have hq : q ∈ putA x.sl k r := hq
    unfold putA at hq
    split at hq
    · obtain ⟨z, hz, rfl⟩ := List.mem_map.mp hq
      split
      · exact h x m z hz
      · exact h x m z hz
    · rcases List.mem_append.mp hq with hq | hq
      · exact h x m q hq
      · cases List.mem_singleton.mp hq
        exact hk
  unfold SC.fill
  rcases holds_le (o := o) (r := r) with e | ⟨p, e⟩
  · rw [e]
    exact h1
  · rw [e]
    exact SlA.modT h1 fun x m q hq => h1 x m q hq
theorem SlA.clr {P : Str → Prop} (h : SlA S P) {o : Int} {k : Str} {r : Rw} : SlA (S.clr o k r) P := by
  have h1 : SlA (S.setSl o fun sl => dropA sl k) P := SlA.modT h fun x m q hq => h x m q (dropA_sub hq)
  unfold SC.clr
  rcases holds_le (o := o) (r := r) with e | ⟨p, e⟩
  · rw [e]
    exact h1
  · rw [e]
    exact SlA.modT h1 fun x m q hq => h1 x m q hq
theorem SlA.put_ {P : Str → Prop} (h : SlA S P) {o : Int} {k : Str} {r : Rw} (hk : P k) : SlA (S.put_ o k r) P := by
  unfold SC.put_
  cases getA (S.slOf o) k with
  | none => exact h.fill hk
  | some r0 => exact SlA.fill h.clr hk
theorem fx_clr {o : Int} {k : Str} {r : Rw} : (S.clr o k r).fx = S.fx := by
  unfold SC.clr
  rcases holds_le (o := o) (r := r) with e | ⟨p, e⟩ <;> rw [e] <;> rfl
theorem fx_fill {o : Int} {k : Str} {r : Rw} : (S.fill o k r).fx = S.fx ∧ (S.fill o k r).t = S.t := by
  unfold SC.fill
  rcases holds_le (o := o) (r := r) with e | ⟨p, e⟩ <;> rw [e] <;> exact ⟨rfl, rfl⟩
theorem fx_put {o : Int} {k : Str} {r : Rw} : (S.put_ o k r).fx = S.fx ∧ (S.put_ o k r).t = S.t := by
  unfold SC.put_
  cases getA (S.slOf o) k with
  | none => exact fx_fill
  | some r0 => exact ⟨fx_fill.1.trans fx_clr, fx_fill.2.trans t_clr.1⟩
end
end Dl
namespace Dl
open PySem PySem.Spec PyProof.Rows L2
section
variable {C : Addr} {μ μ' : Mu} {p m m1 w1 : Addr} {S S' : SC} {B : Nat}
theorem give_ok (o : OkN S B) {g g' : Hd} (mg : g ∈ S.hs) {n : Int} (hn : n ∈ g.row) (mg' : g' ∈ S.hs) (h : g'.nm ≠ g.nm → g'.row.length < 30) : ∃ u ∈ (S.lose g.nm n).hs, u.nm = g'.nm ∧ u.row.length < 30 := by
  by_cases c : g'.nm = g.nm
  · refine ⟨{ g with row := woLast g.row n }, List.mem_map.mpr ⟨g, mg, by rw [if_pos rfl]⟩, c.symm, ?_⟩
    have := woLast_len hn
    have := o.rl g mg
    show (woLast g.row n).length < 30
    omega
  · exact ⟨g', List.mem_map.mpr ⟨g', mg', by rw [if_neg c]⟩, rfl, h c⟩
theorem ns_lose {nm : Str} {n : Int} : (S.lose nm n).ts.map Th.n = S.ts.map Th.n := ns_delKe (S := S.setRow nm fun r => woLast r n)
theorem len_rws : S.rws.length = S.hs.length := by
  unfold SC.rws
  rw [List.length_map]
end
end Dl
namespace Dl
open PySem PySem.Spec PyProof.Rows L2
theorem Shw.str {x : Str} {n : Nat} (h : ∀ c ∈ x.cps.toList, c < 16 ^ 8) (hl : x.length ≤ n) : Shw (.str x) n 1 :=
  ⟨rfl, by simp only [PyData.leavesShort, List.all_eq_true]; exact fun c hc => decide_eq_true (h c hc), by simp only [PyData.weight]; exact hl, by simp [PyData.depth]⟩
theorem let_small : ∀ c ∈ letters.cps.toList, c < 16 ^ 8 := by decide +kernel
def okW (x : Str) : Prop := x = "" ∨ nameB x = true
theorem Shw.name {x : Str} (h : okW x) : Shw (.str x) 8 1 := by
  rcases h with rfl | h
  · exact Shw.str (fun c hc => by cases hc) (Nat.zero_le _)
  · have hl := nameB_len h
    refine Shw.str (fun c hc => ?_) hl.2
    unfold nameB at h
    simp only [Bool.and_eq_true] at h
    have := List.all_eq_true.mp h.2 c hc
    exact let_small c (of_decide_eq_true this)
theorem Shw.names {xs : List Str} (h : ∀ x ∈ xs, okW x) : Shw (.list (xs.map .str)) (9 * xs.length) 2 := by
  have := Shw.list (n := 8) (k := 1) (xs := xs.map PyData.str) (fun p hp => by
    obtain ⟨x, hx, rfl⟩ := List.mem_map.mp hp
    exact .name (h x hx))
  rw [List.length_map] at this
  exact this
section
variable {μ : Mu} {Q : DQ}
theorem rss_ints (xs : List Int) : Rss μ (xs.map .int) (xs.map .int) := Rss.map fun x _ => .int x
end
end Dl
namespace Dl
open PySem PySem.Spec PyProof.Rows L2
section
variable {C : Addr} {μ μ' : Mu} {p m m1 w1 : Addr} {S S' : SC} {B : Nat}
theorem St.off (s : St C μ S) {a : Addr} {o : O} (h : a ∉ foot (S.cells C)) : St C (put μ a o) S := ⟨s.sits.put h, s.hn, s.tn, s.mt⟩
theorem St.new (s : St C μ S) {a : Addr} {o : O} (h : μ a = none) : St C (put μ a o) S := s.off (s.sits.fresh h)
theorem St.less (s : St C μ S) (l : Less μ' μ) : St C μ' S := ⟨s.sits.less l, s.hn, s.tn, s.mt⟩
end
end Dl
namespace Dl
open PySem PySem.Spec PyProof.Rows L2
/-! ### lists of one's own, told and then spoilt -/
def Own (b : Nat) (μ0 μ : Mu) (d : D) : Prop := ∃ l xs, d = .at l ∧ μ0 l = none ∧ μ l = some (.lst xs) ∧ xs.length ≤ b
section
variable {μ0 μ μ' : Mu} {d : D} {b : Nat}
theorem Own.put_ (h : Own b μ0 μ d) {l : Addr} {xs : List D} (hl : xs.length ≤ b) : Own b μ0 (put μ l (.lst xs)) d := by
  obtain ⟨k, ys, rfl, h1, h2, h3⟩ := h
  by_cases c : k = l
  · subst c
    exact ⟨k, xs, rfl, h1, put_same, hl⟩
  · exact ⟨k, ys, rfl, h1, by rw [put_ne c]; exact h2, h3⟩
theorem Own.off (h : Own b μ0 μ d) {a : Addr} {o : O} (n : μ0 a ≠ none) : Own b μ0 (put μ a o) d := by
  obtain ⟨k, ys, rfl, h1, h2, h3⟩ := h
  exact ⟨k, ys, rfl, h1, by rw [put_ne fun (e : k = a) => n (e ▸ h1)]; exact h2, h3⟩
theorem Own.new (h : Own b μ0 μ d) {a : Addr} {o : O} (n : μ a = none) : Own b μ0 (put μ a o) d := by
  obtain ⟨k, ys, rfl, h1, h2, h3⟩ := h
  exact ⟨k, ys, rfl, h1, by rw [put_ne (ne_no h2 n)]; exact h2, h3⟩
theorem Own.mono (h : Own b μ0 μ d) {c : Nat} (n : b ≤ c) : Own c μ0 μ d := by
  obtain ⟨k, ys, rfl, h1, h2, h3⟩ := h
  exact ⟨k, ys, rfl, h1, h2, Nat.le_trans h3 n⟩
end
theorem lc_each {g : WG} {t : WT} {a : WE} {vs : List Nat} {ρ : Rho} {Q : DQ} {kp : Mu → Prop} {μ1 : Mu} {ds : List D} (h : D → D) (sz : ds.length ≤ 1000000) (hk : ∀ L acc, μ1 L = none → kp (put μ1 L (.lst acc)))
    (hs : ∀ d ∈ ds, ∀ L acc (K1 : DQ) (K2 : Mu → Prop), μ1 L = none → K1 (h d) (put μ1 L (.lst acc)) → g d (wipeD ρ vs) (put μ1 L (.lst acc)) fun ρ2 μ2 => t ρ2 μ2 fun b μ3 => Br b (a ρ2 μ3 K1) (K2 μ3))
    (hd : Q (.lst (ds.map h)) μ1) : LcB g t a vs ρ Q ds kp μ1 := by
  have := lc_map (f := id) (h := h) (xs := ds) sz hk hs hd
  rw [List.map_id] at this
  exact this
end Dl
namespace Dl
open PySem PySem.Spec PyProof.Rows L2
theorem merge_new : ∀ {kvs acc : List (Key × D)}, ((acc ++ kvs).map (·.1)).Nodup → mergeD acc kvs = acc ++ kvs
  | [], acc, _ => by simp [mergeD]
  | (k, v) :: kvs, acc, h => by
    have hk : k ∉ acc.map (·.1) := fun m => by
      rw [List.map_append, List.nodup_append] at h
      exact h.2.2 k m k (by simp) rfl
    have e : putD acc k v = acc ++ [(k, v)] := by
      have := put_new (f := fun q : Key × D => q.1) (g := fun q => q.2) (v := v) (l := acc) hk
      simpa using this
    show mergeD (putD acc k v) kvs = _
    rw [e, merge_new (by rw [List.append_assoc]; exact h), List.append_assoc]
    rfl
section
variable {C : Addr} {μ μ' μb : Mu} {p m m1 w1 : Addr} {S S' : SC} {B : Nat}
/-- what stood at the start stands -/
structure Fr (C : Addr) (μb μ : Mu) (m1 w1 : Addr) (S : SC) : Prop where
  kp : ∀ a o, μb a = some o → μ a = some o
  ft : ∀ a ∈ foot (S.cells C), μb a = none
  n1 : μb m1 = none
  n2 : μb w1 = none
theorem Fr.next (f : Fr C μb μ m1 w1 S) (x : Nx C μ μ' m1 w1 S S') : Fr C μb μ' m1 w1 S' := by
  refine ⟨fun a o h => x.kp a o (f.kp a o h) (fun z => ?_) (fun z => ?_) (fun z => ?_), fun a ha => ?_, f.n1, f.n2⟩
  · rw [f.ft a z] at h; cases h
  · rw [z, f.n1] at h; cases h
  · rw [z, f.n2] at h; cases h
  · rcases x.ft a ha with h | h
    · exact f.ft a h
    · cases e : μb a with
      | none => rfl
      | some o => rw [f.kp a o e] at h; cases h
theorem Fr.less (f : Fr C μb μ m1 w1 S) : Less μ μb := fun a => by
  cases e : μb a with
  | none => exact .inl rfl
  | some o => exact .inr (f.kp a o e).symm
theorem OkN.init {S : SC} (ht : S.ts = []) (hm : S.many = 0) (hr : ∀ g ∈ S.hs, g.row = []) (hn : (S.hs.map Hd.nm).Nodup) (hl : S.hs.length ≤ 6) (nm : ∀ g ∈ S.hs, nameB g.nm = true) : OkN S 0 where
  ok := {
    many := fun x h => by rw [ht] at h; cases h
    srt := by rw [ht]; exact .nil
    rows := fun g hg x hx => by rw [hr g hg] at hx; cases hx
    refs := fun x h => by rw [ht] at h; cases h
    sln := fun x h => by rw [ht] at h; cases h
    kept := fun x h => by rw [ht] at h; cases h }
  hn := hn
  kl := fun x h => by rw [ht] at h; cases h
  rl := fun g hg => by rw [hr g hg]; exact Nat.zero_le _
  sl := fun x h => by rw [ht] at h; cases h
  tl := by rw [ht]; exact Nat.zero_le _
  hl := hl
  nm := nm
  m0 := by rw [hm]; decide
  m1 := by rw [hm]; decide
end
end Dl
namespace Dl
open PySem PySem.Spec PyProof.Rows L2
/-! ### zip(text, tuple) walked: a short text of plain signs -/
end Dl
namespace Dl
open PySem PySem.Spec PyProof.Rows L2
/-! the data's own rule -/
section
variable {B : Bs} {X : Cx} {e : Expr} {a : WA}
def wZipS (a : WA) : WI := fun ρ μ Q => a ρ μ fun vs μ1 => ∃ (x : Str) (ys : List D), vs = [.str x, .tup ys] ∧ x.cps.all (· < 128) = true ∧ x.cps.size = ys.length ∧ Q (List.zipWith (fun c y => .tup [.str ⟨#[c]⟩, y]) x.cps.toList ys) (fun _ => True) μ1
end
end Dl
namespace Dl
open PySem PySem.Spec PyProof.Rows L2
/-! ### names in their order -/
/-! ### slots, whatever their order -/
theorem getA_mem {sl : List (Str × Rw)} (nd : (sl.map (·.1)).Nodup) {k : Str} {r : Rw} (h : (k, r) ∈ sl) : getA sl k = some r := by
  cases e : getA sl k with
  | none =>
    have := getA_is (sl := sl) (k := k)
    rw [e, decide_eq_true (List.mem_map.mpr ⟨_, h, rfl⟩)] at this
    cases this
  | some r2 =>
    have h2 := getA_some e
    have := nd_eq nd h h2 rfl
    cases this
    rfl
theorem getA_none {sl : List (Str × Rw)} {k : Str} : getA sl k = none ↔ k ∉ sl.map (·.1) := by
  have := getA_is (sl := sl) (k := k)
  cases e : getA sl k with
  | none =>
    rw [e] at this
    exact ⟨fun _ => of_decide_eq_false this.symm, fun _ => rfl⟩
  | some r =>
    rw [e] at this
    exact ⟨fun h => (by cases h), fun h => (h (of_decide_eq_true this.symm)).elim⟩
theorem getA_perm {a b : List (Str × Rw)} (nd : (a.map (·.1)).Nodup) (h : a.Perm b) (k : Str) : getA a k = getA b k := by
  have nb : (b.map (·.1)).Nodup := (h.map (·.1)).nodup_iff.mp nd
  cases e : getA a k with
  | none => exact (getA_none.mpr fun m => getA_none.mp e ((h.map (·.1)).mem_iff.mpr m)).symm
  | some r => exact (getA_mem nb (h.mem_iff.mp (getA_some e))).symm
theorem dropA_perm {a b : List (Str × Rw)} (h : a.Perm b) (k : Str) : (dropA a k).Perm (dropA b k) := h.filter _
theorem putA_perm1 {k : Str} {r : Rw} : ∀ {a : List (Str × Rw)}, (a.map (·.1)).Nodup → (putA a k r).Perm (dropA a k ++ [(k, r)])
  | [], _ => .refl _
  | q :: a, nd => by
    rw [List.map_cons, List.nodup_cons] at nd
    by_cases c : q.1 = k
    · have hk : k ∈ (q :: a).map (·.1) := by rw [List.map_cons, c]; exact List.mem_cons_self
      have e1 : putA (q :: a) k r = (k, r) :: a := by
        unfold putA
        rw [if_pos hk, List.map_cons, if_pos c, c]
        congr 1
        refine (List.map_congr_left fun p hp => ?_).trans (List.map_id a)
        rw [if_neg]
        · rfl
        · exact fun e => nd.1 (by rw [c, ← e]; exact List.mem_map.mpr ⟨p, hp, rfl⟩)
      have e2 : dropA (q :: a) k = a := by
        unfold dropA
        rw [List.filter_cons_of_neg (by simp [c])]
        refine List.filter_eq_self.mpr fun p hp => decide_eq_true fun z => nd.1 ?_
        rw [c, ← z]
        exact List.mem_map.mpr ⟨p, hp, rfl⟩
      rw [e1, e2]
      exact (List.perm_append_singleton (k, r) a).symm
    · have ih := putA_perm1 (k := k) (r := r) nd.2
      have e2 : dropA (q :: a) k = q :: dropA a k := by
        unfold dropA
        rw [List.filter_cons_of_pos (by simp [c])]
      have e1 : putA (q :: a) k r = q :: putA a k r := by
        unfold putA
        by_cases m : k ∈ a.map (·.1)
        · rw [if_pos m, if_pos (by rw [List.map_cons]; exact List.mem_cons_of_mem _ m), List.map_cons, if_neg c]
        · rw [if_neg m, if_neg (by
            rw [List.map_cons, List.mem_cons]
            rintro (e | e)
            · exact c e.symm
            · exact m e)]
          rfl
      rw [e1, e2]
      exact .cons q ih
end Dl
namespace Dl
open PySem PySem.Spec PyProof.Rows L2
/-! ### a law's own model of a store: rows, slots, last words, depths -/
structure MT where
  n : Int
  a : Addr
  sl : List (Str × Rw)
  w : Str
  dp : Int
structure MS where
  m : Addr
  mr : Addr
  ms : Addr
  ml : Addr
  md : Addr
  rs : List (Str × List Int)
  ts : List MT
  many : Int
  names : List Str
  fl : D
  sd : D
def MS.flds (M : MS) : List (Key × D) := [(.inr "rows", .at M.mr), (.inr "slots", .at M.ms), (.inr "last", .at M.ml), (.inr "made", .int M.many), (.inr "names", .lst (M.names.map .str)), (.inr "deep", .at M.md), (.inr "falls", M.fl), (.inr "said", M.sd)]
def MS.dS (M : MS) : List (Key × D) := M.ts.map fun x => (.inl x.n, .at x.a)
def MS.dL (M : MS) : List (Key × D) := M.ts.map fun x => (.inl x.n, .str x.w)
def MS.dD (M : MS) : List (Key × D) := M.ts.map fun x => (.inl x.n, .int x.dp)
def MS.cells (M : MS) : Cells := (M.m, .dK M.flds) :: (M.mr, .dK (M.rs.map rwD)) :: (M.ms, .dK M.dS) :: (M.ml, .dK M.dL) :: (M.md, .dK M.dD) :: M.ts.map fun x => (x.a, O.dK (slK x.sl))
theorem mfoot_eq {M : MS} : foot M.cells = M.m :: M.mr :: M.ms :: M.ml :: M.md :: M.ts.map MT.a := by
  simp only [foot, MS.cells, List.map_cons, List.map_map]
  rfl
section
variable {μ : Mu} {M : MS} {T : D → Prop} {R : Option D → Prop}
abbrev MSt (μ : Mu) (M : MS) : Prop := Sits μ M.cells
theorem MSt.m_ (s : MSt μ M) : μ M.m = some (.dK M.flds) := s.at_ (M.m, _) (by simp [MS.cells])
theorem MSt.mr_ (s : MSt μ M) : μ M.mr = some (.dK (M.rs.map rwD)) := s.at_ (M.mr, _) (by simp [MS.cells])
theorem MSt.ms_ (s : MSt μ M) : μ M.ms = some (.dK M.dS) := s.at_ (M.ms, _) (by simp [MS.cells])
theorem MSt.sl_ (s : MSt μ M) {x : MT} (h : x ∈ M.ts) : μ x.a = some (.dK (slK x.sl)) := s.at_ (x.a, _) (by
  simp only [MS.cells, List.mem_cons, List.mem_map]
  exact .inr (.inr (.inr (.inr (.inr ⟨x, h, rfl⟩)))))
theorem _root_.Dl.Sits.sits' {cs : Cells} (s : Sits μ cs) {a : Addr} (h : μ a = none) (o : O) : Sits (put μ a o) cs := s.put (s.fresh h)
/-! ### what changes in it -/
def updR (rs : List (Str × List Int)) (h : Str) (f : List Int → List Int) : List (Str × List Int) := rs.map fun q => (q.1, if q.1 = h then f q.2 else q.2)
theorem updR_names {rs : List (Str × List Int)} {h : Str} {f : List Int → List Int} : (updR rs h f).map (·.1) = rs.map (·.1) := by
  unfold updR
  rw [List.map_map]
  rfl
theorem updR_len {rs : List (Str × List Int)} {h : Str} {f : List Int → List Int} : (updR rs h f).length = rs.length := List.length_map ..
theorem updR_set {rs : List (Str × List Int)} (hn : (rs.map (·.1)).Nodup) {h : Str} {row : List Int} (m : (h, row) ∈ rs) {f : List Int → List Int} : updR rs h f = setR rs h (f row) := by
  unfold updR setR
  refine List.map_congr_left fun q hq => ?_
  by_cases c : q.1 = h
  · have e : q = (h, row) := nd_eq hn hq m c
    rw [if_pos c, if_pos c, e]
  · rw [if_neg c, if_neg c]
theorem updR_in {rs : List (Str × List Int)} {h : Str} {f : List Int → List Int} {q : Str × List Int} (m : q ∈ updR rs h f) : ∃ q0 ∈ rs, q.1 = q0.1 ∧ (q.1 = h ∧ q.2 = f q0.2 ∨ q.1 ≠ h ∧ q.2 = q0.2) := by
  obtain ⟨q0, h0, rfl⟩ := List.mem_map.mp m
  refine ⟨q0, h0, rfl, ?_⟩
  by_cases c : q0.1 = h
  · exact .inl ⟨c, by rw [if_pos c]⟩
  · exact .inr ⟨c, by rw [if_neg c]⟩
def MS.updRow (M : MS) (h : Str) (f : List Int → List Int) : MS := { M with rs := updR M.rs h f }
def MS.modT (M : MS) (n : Int) (f : MT → MT) : MS := { M with ts := M.ts.map fun x => if x.n = n then f x else x }
theorem MSt.nd_ (s : MSt μ M) : (M.m :: M.mr :: M.ms :: M.ml :: M.md :: M.ts.map MT.a).Nodup := by
  have := s.nd
  rw [show M.cells.map (·.1) = foot M.cells from rfl, mfoot_eq] at this
  exact this
theorem MSt.updRow (s : MSt μ M) {h : Str} {f : List Int → List Int} : MSt (put μ M.mr (.dK ((updR M.rs h f).map rwD))) (M.updRow h f) := by
  have nd := s.nd_
  simp only [List.nodup_cons, List.mem_cons, not_or] at nd
  refine s.upd (by show foot _ = foot _; rw [mfoot_eq, mfoot_eq]; rfl) fun q hq => ?_
  simp only [MS.cells, List.mem_cons, List.mem_map] at hq
  rcases hq with rfl | rfl | rfl | rfl | rfl | ⟨x, hx, rfl⟩
  · exact .inr ⟨by simp [MS.cells, MS.updRow, MS.flds], nd.1.1⟩
  · exact .inl rfl
  · exact .inr ⟨by simp [MS.cells, MS.updRow, MS.dS], fun e => nd.2.1.1 e.symm⟩
  · exact .inr ⟨by simp [MS.cells, MS.updRow, MS.dL], fun e => nd.2.1.2.1 e.symm⟩
  · exact .inr ⟨by simp [MS.cells, MS.updRow, MS.dD], fun e => nd.2.1.2.2.1 e.symm⟩
  · refine .inr ⟨?_, fun e => nd.2.1.2.2.2 (by rw [← e]; exact List.mem_map.mpr ⟨x, hx, rfl⟩)⟩
    simp only [MS.cells, List.mem_cons, List.mem_map]
    exact .inr (.inr (.inr (.inr (.inr ⟨x, hx, rfl⟩))))
theorem modT_mapM {β : Type} {g : MT → β} {n : Int} {f : MT → MT} (h : ∀ x, g (f x) = g x) : (M.modT n f).ts.map g = M.ts.map g := by
  unfold MS.modT
  rw [List.map_map]
  refine List.map_congr_left fun x _ => ?_
  show g (if x.n = n then f x else x) = g x
  split
  · exact h x
  · rfl
/-- a thing more -/
def MS.addT (M : MS) (x : MT) : MS := { M with ts := M.ts ++ [x], many := M.many + 1 }
theorem MSt.addT {μ1 : Mu} (s : MSt μ M) {x : MT} (hx : μ x.a = none) (oth : ∀ b, b ≠ M.m → b ≠ M.ms → b ≠ M.ml → b ≠ M.md → b ≠ x.a → μ1 b = μ b) (e1 : μ1 M.m = some (.dK (M.addT x).flds)) (e2 : μ1 M.ms = some (.dK (M.addT x).dS)) (e3 : μ1 M.ml = some (.dK (M.addT x).dL)) (e4 : μ1 M.md = some (.dK (M.addT x).dD)) (e5 : μ1 x.a = some (.dK (slK x.sl))) : MSt μ1 (M.addT x) := by
  have nd := s.nd_
  have f1 := s.fresh hx
  rw [mfoot_eq] at f1
  have p : (foot (M.addT x).cells).Perm (x.a :: foot M.cells) := by
    rw [mfoot_eq, mfoot_eq]
    simp only [MS.addT, List.map_append, List.map_cons, List.map_nil]
    refine List.perm_iff_count.mpr fun a => ?_
    simp only [List.count_cons, List.count_append, List.count_nil]
    omega
  refine ⟨fun q hq => ?_, ?_⟩
  · simp only [MS.cells, List.mem_cons, List.mem_map] at hq
    simp only [List.nodup_cons, List.mem_cons, not_or] at nd f1
    rcases hq with rfl | rfl | rfl | rfl | rfl | ⟨y, hy, rfl⟩
    · exact e1
    · show μ1 M.mr = _
      rw [oth M.mr (Ne.symm nd.1.1) nd.2.1.1 nd.2.1.2.1 nd.2.1.2.2.1 (Ne.symm f1.2.1)]
      exact s.mr_
    · exact e2
    · exact e3
    · exact e4
    · rcases List.mem_append.mp (show y ∈ M.ts ++ [x] from hy) with hy | hy
      · have iy : y.a ∈ M.ts.map MT.a := List.mem_map.mpr ⟨y, hy, rfl⟩
        show μ1 y.a = _
        rw [oth y.a (fun e => nd.1.2.2.2.2 (e ▸ iy)) (fun e => nd.2.2.1.2.2 (e ▸ iy)) (fun e => nd.2.2.2.1.2 (e ▸ iy)) (fun e => nd.2.2.2.2.1 (e ▸ iy)) fun e => f1.2.2.2.2.2 (e ▸ iy)]
        exact s.sl_ hy
      · cases List.mem_singleton.mp hy
        exact e5
  · show (foot (M.addT x).cells).Nodup
    rw [p.nodup_iff, List.nodup_cons, mfoot_eq]
    exact ⟨f1, nd⟩
end
end Dl
namespace Dl
open PySem PySem.Spec PyProof.Rows L2
/-! ### deeds of hands -/
inductive Dd where
  | make (h w : Str) | fill (h : Str) (o : Int) (k : Str) (r : Rw) | empty (h : Str) (o : Int) (k : Str) | take (h : Str) (o : Int) (k : Str) | give (h : Str) (x : Int) (t : Str) | drop (h : Str) (x : Int)
def Rw.deed (h : Str) (o : Int) (k : Str) : Rw → Dl.D
  | .plain x => .tup [.str "put", .str h, .int o, .str k, .int x]
  | .weak x => .tup [.str "show", .str h, .int o, .str k, .int x]
  | .keyed j x => .tup [.str "tie", .str h, .int o, .str k, .int j, .int x]
def Dd.D : Dd → Dl.D
  | .make h w => .tup [.str "make", .str h, .str w]
  | .fill h o k r => r.deed h o k
  | .empty h o k => .tup [.str "empty", .str h, .int o, .str k]
  | .take h o k => .tup [.str "take", .str h, .int o, .str k]
  | .give h x t => .tup [.str "give", .str h, .int x, .str t]
  | .drop h x => .tup [.str "drop", .str h, .int x]
def valOf (sl : List (Str × Rw)) (k : Str) : Int := match getA sl k with
  | some r => r.val
  | none => 0
/-- right kinds, and had -/
def Dd.Ok (rs : List (Str × List Int)) : Dd → Prop
  | .make h w => ∃ row, (h, row) ∈ rs ∧ okW w
  | .fill h o k r => ∃ row, (h, row) ∈ rs ∧ o ∈ row ∧ nameB k = true ∧ r.val ∈ row ∧ ∀ j, r.key = some j → j ∈ row
  | .empty h o k => ∃ row, (h, row) ∈ rs ∧ o ∈ row ∧ nameB k = true
  | .take h o k => ∃ row, (h, row) ∈ rs ∧ o ∈ row ∧ nameB k = true
  | .give h x t => ∃ row, (h, row) ∈ rs ∧ x ∈ row ∧ t ∈ rs.map (·.1)
  | .drop h x => ∃ row, (h, row) ∈ rs ∧ x ∈ row
/-- room, and what is to be there -/
def Dd.Rm (rs : List (Str × List Int)) (sf : Int → List (Str × Rw)) (nt : Nat) : Dd → Prop
  | .make h _ => nt < 40 ∧ ∀ row, (h, row) ∈ rs → row.length < 30
  | .fill _ o k _ => getA (sf o) k = none → (sf o).length < 8
  | .empty _ o k => getA (sf o) k ≠ none
  | .take h o k => ∃ r, getA (sf o) k = some r ∧ ∀ row, (h, row) ∈ rs → row.length < 30 ∧ ∀ j, r.key = some j → j ∈ row
  | .give h _ t => t ≠ h → ∀ row, (t, row) ∈ rs → row.length < 30
  | .drop _ _ => True
/-! slots by number -/
theorem find_mod {α : Type} {key : α → Int} {f : α → α} (hk : ∀ x, key (f x) = key x) (n u : Int) : ∀ l : List α, (l.map fun y => if key y = n then f y else y).find? (fun x => decide (key x = u)) = (l.find? fun x => decide (key x = u)).map fun y => if key y = n then f y else y
  | [] => rfl
  | x :: l => by
    rw [List.map_cons, List.find?_cons, List.find?_cons]
    have e : key (if key x = n then f x else x) = key x := by split <;> simp [hk]
    rw [e]
    by_cases c : key x = u
    · rw [decide_eq_true c]
      rfl
    · rw [decide_eq_false c]
      exact find_mod hk n u l
def MS.slOf (M : MS) (o : Int) : List (Str × Rw) := match M.ts.find? fun x => decide (x.n = o) with
  | some x => x.sl
  | none => []
section
variable {S : SC} {M : MS}
theorem slOf_mod {n u : Int} {f : Th → Th} {g : List (Str × Rw) → List (Str × Rw)} (hk : ∀ x, (f x).n = x.n) (hs : ∀ x, (f x).sl = g x.sl) (h0 : n ∈ S.ts.map Th.n) : (S.modT n f).slOf u = if u = n then g (S.slOf u) else S.slOf u := by
  unfold SC.slOf SC.modT
  simp only
  rw [find_mod (key := Th.n) (f := f) hk n u]
  cases e : S.ts.find? fun x => decide (x.n = u) with
  | none =>
    rw [if_neg]
    · rfl
    · rintro rfl
      obtain ⟨x, hx, e2⟩ := th_of h0
      have := List.find?_eq_none.mp e x hx
      simp [e2] at this
  | some x =>
    have h2 : x.n = u := by simpa using List.find?_some e
    show (if x.n = n then f x else x).sl = _
    by_cases c : u = n
    · rw [if_pos c, if_pos (h2.trans c)]
      exact hs x
    · rw [if_neg c, if_neg fun e => c (h2.symm.trans e)]
theorem slOf_same {n u : Int} {f : Th → Th} (hk : ∀ x, (f x).n = x.n) (hs : ∀ x, (f x).sl = x.sl) : (S.modT n f).slOf u = S.slOf u := by
  unfold SC.slOf SC.modT
  simp only
  rw [find_mod (key := Th.n) (f := f) hk n u]
  cases e : S.ts.find? fun x => decide (x.n = u) with
  | none => rfl
  | some x =>
    show (if x.n = n then f x else x).sl = _
    split
    · exact hs x
    · rfl
theorem slOf_addKes : ∀ (ps : List (Int × List Int)) (S : SC) (u : Int), (S.addKes ps).slOf u = S.slOf u
  | [], _, _ => rfl
  | p :: ps, S, u => (slOf_addKes ps (S.addKe p.1 p.2) u).trans (slOf_same (fun _ => rfl) fun _ => rfl)
theorem slOf_delKes : ∀ (ps : List (Int × List Int)) (S : SC) (u : Int), (S.delKes ps).slOf u = S.slOf u
  | [], _, _ => rfl
  | p :: ps, S, u => (slOf_delKes ps (S.delKe p.1 p.2) u).trans (slOf_same (fun _ => rfl) fun _ => rfl)
theorem slOf_have {nm : Str} {n u : Int} : (S.have_ nm n).slOf u = S.slOf u := slOf_same (S := S.setRow nm (· ++ [n])) (fun _ => rfl) fun _ => rfl
theorem slOf_lose {nm : Str} {n u : Int} : (S.lose nm n).slOf u = S.slOf u := slOf_same (S := S.setRow nm fun r => woLast r n) (fun _ => rfl) fun _ => rfl
theorem slOf_clr {o u : Int} {k : Str} {r : Rw} (h0 : o ∈ S.ts.map Th.n) : (S.clr o k r).slOf u = if u = o then dropA (S.slOf u) k else S.slOf u :=
  (slOf_delKes _ _ _).trans (slOf_mod (g := fun sl => dropA sl k) (fun _ => rfl) (fun _ => rfl) h0)
theorem slOf_fill {o u : Int} {k : Str} {r : Rw} (h0 : o ∈ S.ts.map Th.n) : (S.fill o k r).slOf u = if u = o then putA (S.slOf u) k r else S.slOf u :=
  (slOf_addKes _ _ _).trans (slOf_mod (g := fun sl => putA sl k r) (fun _ => rfl) (fun _ => rfl) h0)
theorem dropA_none {sl : List (Str × Rw)} {k : Str} (h : getA sl k = none) : dropA sl k = sl := by
  unfold dropA
  refine List.filter_eq_self.mpr fun q hq => decide_eq_true fun z => getA_none.mp h (z ▸ List.mem_map.mpr ⟨q, hq, rfl⟩)
theorem slOf_clrO {o u : Int} {k : Str} (h0 : o ∈ S.ts.map Th.n) : (S.clrO o k).slOf u = if u = o then dropA (S.slOf u) k else S.slOf u := by
  unfold SC.clrO
  cases e : getA (S.slOf o) k with
  | none =>
    by_cases c : u = o
    · subst c
      rw [if_pos rfl, dropA_none e]
    · rw [if_neg c]
  | some r => exact slOf_clr h0
theorem slOf_put {o u : Int} {k : Str} {r : Rw} (h0 : o ∈ S.ts.map Th.n) : (S.put_ o k r).slOf u = if u = o then dropA (S.slOf u) k ++ [(k, r)] else S.slOf u := by
  have key : ∀ S1 : SC, o ∈ S1.ts.map Th.n → (∀ v, S1.slOf v = if v = o then dropA (S.slOf v) k else S.slOf v) → (S1.fill o k r).slOf u = if u = o then dropA (S.slOf u) k ++ [(k, r)] else S.slOf u := fun S1 h1 e => by
    rw [slOf_fill h1, e]
    by_cases c : u = o
    · rw [if_pos c, if_pos c, if_pos c]
      unfold putA
      rw [if_neg dropA_no]
    · rw [if_neg c, if_neg c, if_neg c]
  unfold SC.put_
  cases e : getA (S.slOf o) k with
  | none =>
    refine key S h0 fun v => ?_
    by_cases c : v = o
    · subst c
      rw [if_pos rfl, dropA_none e]
    · rw [if_neg c]
  | some r0 => exact key _ (by rw [ns_clr]; exact h0) fun v => slOf_clr h0
theorem slOf_addTh {x : Th} {u : Int} (sl : x.sl = []) : (S.addTh x).slOf u = S.slOf u := by
  unfold SC.slOf SC.addTh
  simp only
  rw [List.find?_append]
  cases e : S.ts.find? fun x => decide (x.n = u) with
  | some y => rfl
  | none =>
    by_cases c : x.n = u
    · have e2 : List.find? (fun x => decide (x.n = u)) [x] = some x := by simp [c]
      rw [e2]
      exact sl
    · have e2 : List.find? (fun x => decide (x.n = u)) [x] = none := by simp [c]
      rw [e2]
      rfl
theorem mslOf_at (tn : (M.ts.map MT.n).Nodup) {y : MT} (m : y ∈ M.ts) : M.slOf y.n = y.sl := by
  unfold MS.slOf
  cases e : M.ts.find? fun x => decide (x.n = y.n) with
  | none =>
    have := List.find?_eq_none.mp e y m
    simp at this
  | some x =>
    have h1 := List.mem_of_find?_eq_some e
    have h3 : x.n = y.n := by simpa using List.find?_some e
    rw [nd_eq tn h1 m h3]
theorem mslOf_mod {n u : Int} {f : List (Str × Rw) → List (Str × Rw)} (h0 : n ∈ M.ts.map MT.n) : (M.modT n fun y => { y with sl := f y.sl }).slOf u = if u = n then f (M.slOf u) else M.slOf u := by
  unfold MS.slOf MS.modT
  simp only
  rw [find_mod (key := MT.n) (f := fun y => { y with sl := f y.sl }) (fun _ => rfl) n u]
  cases e : M.ts.find? fun x => decide (x.n = u) with
  | none =>
    rw [if_neg]
    · rfl
    · rintro rfl
      obtain ⟨x, hx, e2⟩ := List.mem_map.mp h0
      have := List.find?_eq_none.mp e x hx
      simp [e2] at this
  | some x =>
    have h2 : x.n = u := by simpa using List.find?_some e
    show (if x.n = n then { x with sl := f x.sl } else x).sl = _
    by_cases c : u = n
    · rw [if_pos c, if_pos (h2.trans c)]
    · rw [if_neg c, if_neg fun e => c (h2.symm.trans e)]
theorem mslOf_add {x : MT} {u : Int} (sl : x.sl = []) : (M.addT x).slOf u = M.slOf u := by
  unfold MS.slOf MS.addT
  simp only
  rw [List.find?_append]
  cases e : M.ts.find? fun x => decide (x.n = u) with
  | some y => rfl
  | none =>
    by_cases c : x.n = u
    · have e2 : List.find? (fun x => decide (x.n = u)) [x] = some x := by simp [c]
      rw [e2]
      exact sl
    · have e2 : List.find? (fun x => decide (x.n = u)) [x] = none := by simp [c]
      rw [e2]
      rfl
end
/-! ### what a deed does to the model, to the store -/
def MS.note (M : MS) (a : Addr) : Dd → MS
  | .make h w => (M.addT ⟨M.many, a, [], w, 1⟩).updRow h (· ++ [M.many])
  | .fill _ o k r => M.modT o fun y => { y with sl := putA y.sl k r }
  | .empty _ o k => M.modT o fun y => { y with sl := dropA y.sl k }
  | .take h o k => M.updRow h (· ++ [valOf (M.slOf o) k])
  | .give h x t => (M.updRow h (woLast · x)).updRow t (· ++ [x])
  | .drop h x => M.updRow h (woLast · x)
def toldBy (many : Int) (sf : Int → List (Str × Rw)) : Dd → D
  | .make _ _ => .int many
  | .take _ o k => .int (valOf (sf o) k)
  | _ => .non
def SC.did (S : SC) (y : Th) : Dd → SC
  | .make h _ => (S.addTh y).have_ h S.many
  | .fill _ o k r => S.put_ o k r
  | .empty _ o k => S.clrO o k
  | .take h o k => S.have_ h (valOf (S.slOf o) k)
  | .give h x t => (S.lose h x).have_ t x
  | .drop h x => S.lose h x
def NewTh (many : Int) (y : Th) : Dd → Prop
  | .make _ w => y.n = many ∧ y.sl = [] ∧ y.w = w ∧ y.ke = []
  | _ => True
/-- what is in slots: names, and things that there are -/
def SlQ (S : SC) : Prop := ∀ o, ∀ q ∈ S.slOf o, nameB q.1 = true ∧ q.2.val ∈ S.ts.map Th.n ∧ ∀ j, q.2.key = some j → j ∈ S.ts.map Th.n
structure Rl (M : MS) (S : SC) : Prop where
  rs : M.rs = S.rws
  many : M.many = S.many
  ths : (M.ts.map fun x => (x.n, x.w)) = S.wds
  sl : ∀ o, (M.slOf o).Perm (S.slOf o)
section
variable {S : SC} {M : MS} {B : Nat}
theorem rws_upd {nm : Str} {f : List Int → List Int} : (S.setRow nm f).rws = updR S.rws nm f := by
  unfold SC.rws updR SC.setRow SC.modH
  simp only [List.map_map]
  refine List.map_congr_left fun y _ => ?_
  show ((if y.nm = nm then { y with row := f y.row } else y).nm, (if y.nm = nm then { y with row := f y.row } else y).row) = (y.nm, if y.nm = nm then f y.row else y.row)
  split <;> rfl
theorem rws_have' {nm : Str} {n : Int} : (S.have_ nm n).rws = updR S.rws nm (· ++ [n]) := rws_upd (f := (· ++ [n]))
theorem rws_lose' {nm : Str} {n : Int} : (S.lose nm n).rws = updR S.rws nm (woLast · n) := rws_upd (f := fun r => woLast r n)
theorem rws_in {h : Str} {row : List Int} (m : (h, row) ∈ S.rws) : ∃ g ∈ S.hs, g.nm = h ∧ g.row = row := by
  obtain ⟨g, hg, e⟩ := List.mem_map.mp m
  cases e
  exact ⟨g, hg, rfl, rfl⟩
theorem slOf_nodup (o : OkN S B) (u : Int) : ((S.slOf u).map (·.1)).Nodup := by
  unfold SC.slOf
  cases e : S.ts.find? fun x => decide (x.n = u) with
  | none => exact List.nodup_nil
  | some x => exact o.ok.sln x (List.mem_of_find?_eq_some e)
theorem slOf_len (o : OkN S B) (u : Int) : (S.slOf u).length ≤ 8 := by
  unfold SC.slOf
  cases e : S.ts.find? fun x => decide (x.n = u) with
  | none => exact Nat.zero_le _
  | some x => exact o.sl x (List.mem_of_find?_eq_some e)
theorem wds_ns : S.wds.map (·.1) = S.ts.map Th.n := by
  unfold SC.wds
  rw [List.map_map]
  rfl
theorem Rl.ns (R : Rl M S) : M.ts.map MT.n = S.ts.map Th.n := by
  rw [← wds_ns, ← R.ths, List.map_map]
  rfl
theorem Rl.get (R : Rl M S) (o : OkN S B) (u : Int) (k : Str) : getA (M.slOf u) k = getA (S.slOf u) k := (getA_perm (slOf_nodup o u) (R.sl u).symm k).symm
theorem Rl.val (R : Rl M S) (o : OkN S B) (u : Int) (k : Str) : valOf (M.slOf u) k = valOf (S.slOf u) k := by
  unfold valOf
  rw [R.get o]
theorem holds_val {r : Rw} {o : Int} {p : Int × List Int} (h : p ∈ r.holds o) : p.1 = r.val := by
  cases r with
  | plain x => cases List.mem_singleton.mp h; rfl
  | weak x => cases h
  | keyed k v => cases List.mem_singleton.mp h; rfl
theorem wds_addTh {y : Th} : (S.addTh y).wds = S.wds ++ [(y.n, y.w)] := by
  unfold SC.wds SC.addTh
  rw [List.map_append]
  rfl
theorem wds_clrO {o : Int} {k : Str} : (S.clrO o k).wds = S.wds := by
  unfold SC.clrO
  cases getA (S.slOf o) k with
  | none => rfl
  | some r => exact wds_clr
theorem many_clrO {o : Int} {k : Str} : (S.clrO o k).many = S.many := by
  unfold SC.clrO
  cases getA (S.slOf o) k with
  | none => rfl
  | some r => exact many_clr
theorem SlQ.of {S' : SC} (q : SlQ S) (h : ∀ u, S'.slOf u = S.slOf u) (n : ∀ x ∈ S.ts.map Th.n, x ∈ S'.ts.map Th.n) : SlQ S' := fun o p hp => by
  rw [h] at hp
  exact ⟨(q o p hp).1, n _ (q o p hp).2.1, fun j e => n _ ((q o p hp).2.2 j e)⟩
theorem slOf_of {o : Int} (m : o ∈ S.ts.map Th.n) (tn : (S.ts.map Th.n).Nodup) : ∃ y ∈ S.ts, y.n = o ∧ S.slOf o = y.sl := by
  obtain ⟨y, hy, rfl⟩ := th_of m
  exact ⟨y, hy, rfl, slOf_at tn hy⟩
/-- the model follows the store -/
theorem Rl.next (R : Rl M S) (o : OkN S B) (q : SlQ S) {dd : Dd} (ok : dd.Ok S.rws) (rm : dd.Rm S.rws S.slOf S.ts.length) {a : Addr} {y : Th} (ny : NewTh S.many y dd) (hm : S.many < 100000) :
    Rl (M.note a dd) (S.did y dd) ∧ OkN (S.did y dd) (B + 1) ∧ SlQ (S.did y dd) ∧ toldBy M.many M.slOf dd = toldBy S.many S.slOf dd ∧ (S.did y dd).many ≤ S.many + 1 := by
  have hin : ∀ {h row x}, (h, row) ∈ S.rws → x ∈ row → x ∈ S.ts.map Th.n := fun {h row x} m hx => by
    obtain ⟨g, hg, _, rfl⟩ := rws_in m
    exact o.ok.rows g hg x hx
  cases dd with
  | make h w =>
    obtain ⟨row, hr, hw⟩ := ok
    obtain ⟨h40, h30⟩ := rm
    obtain ⟨n1, n2, n3, n4⟩ := ny
    obtain ⟨g, hg, rfl, rfl⟩ := rws_in hr
    have o1 := o.addTh n1 n2 n4 h40 hm
    have hin2 : S.many ∈ (S.addTh y).ts.map Th.n := List.mem_map.mpr ⟨y, List.mem_append.mpr (.inr (List.mem_singleton.mpr rfl)), n1⟩
    refine ⟨⟨?_, ?_, ?_, fun u => ?_⟩, OkN.have_ o1 hg hin2 (h30 _ hr), ?_, ?_, Int.le_refl _⟩
    · show updR M.rs g.nm (· ++ [M.many]) = _
      rw [R.rs, R.many]
      exact (rws_have' (S := S.addTh y)).symm
    · show M.many + 1 = S.many + 1
      rw [R.many]
    · show ((M.ts ++ [_]).map fun x : MT => (x.n, x.w)) = _
      rw [show (S.did y (.make g.nm w)).wds = (S.addTh y).wds from wds_have (S := S.addTh y), wds_addTh, List.map_append, R.ths, n1, n3, ← R.many]
      rfl
    · rw [show (S.did y (.make g.nm w)).slOf u = (S.addTh y).slOf u from slOf_have, slOf_addTh n2]
      exact (show ((M.addT ⟨M.many, a, [], w, 1⟩).slOf u).Perm _ from by rw [mslOf_add rfl]; exact R.sl u)
    · refine SlQ.of q (fun u => (slOf_have (S := S.addTh y)).trans (slOf_addTh n2)) fun x hx => ?_
      have e : (S.did y (.make g.nm w)).ts.map Th.n = (S.addTh y).ts.map Th.n := ns_addKe (S := (S.addTh y).setRow g.nm (· ++ [S.many]))
      rw [e]
      obtain ⟨z, hz, e⟩ := th_of hx
      exact List.mem_map.mpr ⟨z, List.mem_append.mpr (.inl hz), e⟩
    · show D.int M.many = .int S.many
      rw [R.many]
  | fill h u k r =>
    obtain ⟨row, hr, hu, hk, hv, hj⟩ := ok
    have rm' : getA (S.slOf u) k = none → (S.slOf u).length < 8 := rm
    obtain ⟨g, hg, rfl, rfl⟩ := rws_in hr
    have hun := hin hr hu
    have hvn := hin hr hv
    obtain ⟨z, hz, rfl, ez⟩ := slOf_of hun o.tn
    rw [ez] at rm'
    have mn : z.n ∈ M.ts.map MT.n := by rw [R.ns]; exact hun
    refine ⟨⟨?_, ?_, ?_, fun v => ?_⟩, o.put_ hz (fun p hp => by rw [holds_val hp]; exact hvn) rm', ?_, rfl, ?_⟩
    · exact R.rs.trans rws_put.symm
    · exact R.many.trans many_put.symm
    · refine Eq.trans ?_ wds_put.symm
      rw [← R.ths]
      exact modT_mapM (g := fun x : MT => (x.n, x.w)) fun _ => rfl
    · show (((M.modT z.n fun y => { y with sl := putA y.sl k r })).slOf v).Perm ((S.put_ z.n k r).slOf v)
      rw [slOf_put hun, mslOf_mod (f := fun sl => putA sl k r) mn]
      by_cases c : v = z.n
      · rw [if_pos c, if_pos c]
        have nm : ((M.slOf v).map (·.1)).Nodup := (((R.sl v).map (·.1)).nodup_iff).mpr (slOf_nodup o v)
        exact (putA_perm1 nm).trans ((dropA_perm (R.sl v) k).append (.refl _))
      · rw [if_neg c, if_neg c]
        exact R.sl v
    · intro v p hp
      rw [show (S.did y (.fill g.nm z.n k r)).slOf v = _ from slOf_put hun] at hp
      rw [show (S.did y (.fill g.nm z.n k r)).ts.map Th.n = _ from ns_put]
      by_cases c : v = z.n
      · rw [if_pos c] at hp
        rcases List.mem_append.mp hp with hp | hp
        · exact q v p (dropA_sub hp)
        · cases List.mem_singleton.mp hp
          exact ⟨hk, hvn, fun j e => hin hr (hj j e)⟩
      · rw [if_neg c] at hp
        exact q v p hp
    · rw [show (S.did y (.fill g.nm z.n k r)).many = S.many from many_put]
      omega
  | empty h u k =>
    obtain ⟨row, hr, hu, hk⟩ := ok
    have hun := hin hr hu
    obtain ⟨z, hz, rfl, ez⟩ := slOf_of hun o.tn
    have mn : z.n ∈ M.ts.map MT.n := by rw [R.ns]; exact hun
    refine ⟨⟨?_, ?_, ?_, fun v => ?_⟩, (o.clrO hz k).mono (Nat.le_succ _), ?_, rfl, ?_⟩
    · refine R.rs.trans ?_
      unfold SC.rws
      rw [show (S.did y (.empty h z.n k)).hs = S.hs from hs_clrO]
    · exact R.many.trans many_clrO.symm
    · refine Eq.trans ?_ wds_clrO.symm
      rw [← R.ths]
      exact modT_mapM (g := fun x : MT => (x.n, x.w)) fun _ => rfl
    · show (((M.modT z.n fun y => { y with sl := dropA y.sl k })).slOf v).Perm ((S.clrO z.n k).slOf v)
      rw [slOf_clrO hun, mslOf_mod (f := fun sl => dropA sl k) mn]
      by_cases c : v = z.n
      · rw [if_pos c, if_pos c]
        exact dropA_perm (R.sl v) k
      · rw [if_neg c, if_neg c]
        exact R.sl v
    · intro v p hp
      rw [show (S.did y (.empty h z.n k)).slOf v = _ from slOf_clrO hun] at hp
      rw [show (S.did y (.empty h z.n k)).ts.map Th.n = _ from ns_clrO]
      by_cases c : v = z.n
      · rw [if_pos c] at hp
        exact q v p (dropA_sub hp)
      · rw [if_neg c] at hp
        exact q v p hp
    · rw [show (S.did y (.empty h z.n k)).many = S.many from many_clrO]
      omega
  | take h u k =>
    obtain ⟨row, hr, hu, hk⟩ := ok
    obtain ⟨r, er, h30⟩ := rm
    obtain ⟨g, hg, rfl, rfl⟩ := rws_in hr
    have ev : valOf (S.slOf u) k = r.val := by unfold valOf; rw [er]
    have hvn : r.val ∈ S.ts.map Th.n := (q u _ (getA_some er)).2.1
    refine ⟨⟨?_, R.many, ?_, fun v => ?_⟩, ?_, ?_, ?_, ?_⟩
    · show updR M.rs g.nm (· ++ [valOf (M.slOf u) k]) = _
      rw [R.rs, R.val o]
      exact rws_have'.symm
    · exact R.ths.trans wds_have.symm
    · rw [show (S.did y (.take g.nm u k)).slOf v = S.slOf v from slOf_have]
      exact R.sl v
    · show OkN (S.have_ g.nm (valOf (S.slOf u) k)) (B + 1)
      rw [ev]
      exact o.have_ hg hvn (h30 _ hr).1
    · exact SlQ.of q (fun u => slOf_have) fun x hx => by
        rw [show (S.did y (.take g.nm u k)).ts.map Th.n = S.ts.map Th.n from ns_addKe (S := S.setRow g.nm (· ++ [valOf (S.slOf u) k]))]
        exact hx
    · show D.int _ = .int _
      rw [R.val o]
    · show S.many ≤ S.many + 1
      omega
  | give h x t =>
    obtain ⟨row, hr, hx, ht⟩ := ok
    have rm' : t ≠ h → ∀ row, (t, row) ∈ S.rws → row.length < 30 := rm
    obtain ⟨g, hg, rfl, rfl⟩ := rws_in hr
    obtain ⟨⟨t', row'⟩, ht', rfl⟩ := List.mem_map.mp ht
    obtain ⟨g', hg', rfl, rfl⟩ := rws_in ht'
    obtain ⟨u, hu, eu, lu⟩ := give_ok o hg hx hg' fun c => rm' c _ ht'
    have o1 := o.lose hg hx
    have hxn : x ∈ (S.lose g.nm x).ts.map Th.n := by rw [ns_lose]; exact hin hr hx
    have o2 := OkN.have_ o1 hu hxn lu
    rw [eu] at o2
    refine ⟨⟨?_, R.many, ?_, fun v => ?_⟩, o2, ?_, rfl, ?_⟩
    · show updR (updR M.rs g.nm (woLast · x)) g'.nm (· ++ [x]) = _
      rw [R.rs, ← rws_lose', ← rws_have']
      rfl
    · exact R.ths.trans ((wds_have (S := S.lose g.nm x)).trans wds_lose).symm
    · rw [show (S.did y (.give g.nm x g'.nm)).slOf v = S.slOf v from (slOf_have (S := S.lose g.nm x)).trans slOf_lose]
      exact R.sl v
    · exact SlQ.of q (fun u => (slOf_have (S := S.lose g.nm x)).trans slOf_lose) fun z hz => by
        rw [show (S.did y (.give g.nm x g'.nm)).ts.map Th.n = (S.lose g.nm x).ts.map Th.n from ns_addKe (S := (S.lose g.nm x).setRow g'.nm (· ++ [x])), ns_lose]
        exact hz
    · show S.many ≤ S.many + 1
      omega
  | drop h x =>
    obtain ⟨row, hr, hx⟩ := ok
    obtain ⟨g, hg, rfl, rfl⟩ := rws_in hr
    refine ⟨⟨?_, R.many, ?_, fun v => ?_⟩, (o.lose hg hx).mono (Nat.le_succ _), ?_, rfl, ?_⟩
    · show updR M.rs g.nm (woLast · x) = _
      rw [R.rs, ← rws_lose']
      rfl
    · exact R.ths.trans wds_lose.symm
    · rw [show (S.did y (.drop g.nm x)).slOf v = S.slOf v from slOf_lose]
      exact R.sl v
    · exact SlQ.of q (fun u => slOf_lose) fun z hz => by
        rw [show (S.did y (.drop g.nm x)).ts.map Th.n = S.ts.map Th.n from ns_lose]
        exact hz
    · show S.many ≤ S.many + 1
      omega
end
end Dl
namespace Dl
open PySem PySem.Spec PyProof.Rows L2
/-! ### from one state to a later one: what isn't in F stands, what is in F' is of F or new -/
structure Stp (F F' : List Addr) (μ μ' : Mu) : Prop where
  kp : ∀ b o, μ b = some o → b ∉ F → μ' b = some o
  ft : ∀ b ∈ F', b ∈ F ∨ μ b = none
theorem Same.stp {F : List Addr} {μ μ' : Mu} (h : Same F μ μ') : Stp F F μ μ' := ⟨fun b o e n => h.at n e, fun b h => .inl h⟩
theorem Stp.refl (F : List Addr) (μ : Mu) : Stp F F μ μ := ⟨fun _ _ e _ => e, fun _ h => .inl h⟩
theorem Stp.trans {F G H : List Addr} {a b c : Mu} (h : Stp F G a b) (g : Stp G H b c) : Stp F H a c := by
  refine ⟨fun x o e n => g.kp x o (h.kp x o e n) fun m => ?_, fun x m => ?_⟩
  · rcases h.ft x m with z | z
    · exact n z
    · rw [z] at e; cases e
  · rcases g.ft x m with z | z
    · exact h.ft x z
    · by_cases c : x ∈ F
      · exact .inl c
      · right
        cases e : a x with
        | none => rfl
        | some o =>
          rw [h.kp x o e c] at z
          cases z
theorem Stp.out {F F' : List Addr} {μ μ' : Mu} (h : Stp F F' μ μ') {b : Addr} {o : O} (e : μ b = some o) (n : b ∉ F) : b ∉ F' := fun m => by
  rcases h.ft b m with z | z
  · exact n z
  · rw [e] at z; cases z
theorem Sits.stp {F F' : List Addr} {μ μ' : Mu} {cs : Cells} (s : Sits μ cs) (h : Stp F F' μ μ') (d : ∀ a ∈ foot cs, a ∉ F) : Sits μ' cs := s.out fun a ha => by
  obtain ⟨o, e⟩ := s.there ha
  rw [e]
  exact h.kp a o e (d a ha)
section
variable {C : Addr} {S : SC} {M : MS} {μ μ' : Mu} {B : Nat}
theorem St.stp {F F' : List Addr} (s : St C μ S) (h : Stp F F' μ μ') (d : ∀ a ∈ foot (S.cells C), a ∉ F) : St C μ' S := ⟨s.sits.stp h d, s.hn, s.tn, s.mt⟩
theorem foot_addTh {y : Th} {b : Addr} (m : b ∈ foot ((S.addTh y).cells C)) : b ∈ foot (S.cells C) ∨ b = y.sa ∨ b = y.ka := by
  rw [foot_eq] at m ⊢
  simp only [SC.addTh, List.mem_cons, List.mem_append, List.map_append, List.map_cons, List.map_nil, List.not_mem_nil, or_false] at m ⊢
  rcases m with z | z | z | z | z | z | (z | z) | (z | z) | z
  · exact .inl (.inl z)
  · exact .inl (.inr (.inl z))
  · exact .inl (.inr (.inr (.inl z)))
  · exact .inl (.inr (.inr (.inr (.inl z))))
  · exact .inl (.inr (.inr (.inr (.inr (.inl z)))))
  · exact .inl (.inr (.inr (.inr (.inr (.inr (.inl z))))))
  · exact .inl (.inr (.inr (.inr (.inr (.inr (.inr (.inl z)))))))
  · exact .inr (.inl z)
  · exact .inl (.inr (.inr (.inr (.inr (.inr (.inr (.inr (.inl z))))))))
  · exact .inr (.inr z)
  · exact .inl (.inr (.inr (.inr (.inr (.inr (.inr (.inr (.inr z))))))))
theorem stp_make {y : Th} {nm : Str} {n : Int} (h1 : μ y.sa = none) (h2 : μ y.ka = none) (h : Same (foot ((S.addTh y).cells C)) μ μ') : Stp (foot (S.cells C)) (foot (((S.addTh y).have_ nm n).cells C)) μ μ' := by
  rw [foot_have]
  refine ⟨fun b o e n => h.at (fun m => ?_) e, fun b m => ?_⟩
  · rcases foot_addTh m with z | z | z
    · exact n z
    · rw [z, h1] at e; cases e
    · rw [z, h2] at e; cases e
  · rcases foot_addTh m with z | z | z
    · exact .inl z
    · exact .inr (z ▸ h1)
    · exact .inr (z ▸ h2)
/-- a model as deeds leave it -/
structure MOk (M : MS) : Prop where
  hn : (M.rs.map (·.1)).Nodup
  srt : (M.ts.map MT.n).Pairwise (· < ·)
  rows : ∀ q ∈ M.rs, ∀ x ∈ q.2, x ∈ M.ts.map MT.n
  rl : ∀ q ∈ M.rs, q.2.length ≤ 30
  hl : M.rs.length ≤ 6
  h0 : M.rs ≠ []
  tl : M.ts.length ≤ 40
  sl : ∀ x ∈ M.ts, x.sl.length ≤ 8
  sn : ∀ x ∈ M.ts, (x.sl.map (·.1)).Nodup
  sk : ∀ x ∈ M.ts, ∀ q ∈ x.sl, nameB q.1 = true ∧ q.2.val ∈ M.ts.map MT.n ∧ ∀ j, q.2.key = some j → j ∈ M.ts.map MT.n
  nm : ∀ q ∈ M.rs, nameB q.1 = true
  ns : ∀ x ∈ M.names, nameB x = true
  n0 : M.names ≠ []
  nl : M.names.length ≤ 100
  ws : ∀ x ∈ M.ts, okW x.w
  big : ∀ x ∈ M.ts, 0 ≤ x.n ∧ x.n < 100000
  m0 : 0 ≤ M.many
  m1 : M.many ≤ 100000
  lt : ∀ x ∈ M.ts, x.n < M.many
theorem MOk.tn (o : MOk M) : (M.ts.map MT.n).Nodup := o.srt.imp fun a => Int.ne_of_lt a
theorem MOk.row1 (o : MOk M) {h : Str} {a b : List Int} (ha : (h, a) ∈ M.rs) (hb : (h, b) ∈ M.rs) : a = b := congrArg Prod.snd (nd_eq o.hn ha hb rfl)
theorem mth_of {o : Int} (h : o ∈ M.ts.map MT.n) : ∃ x ∈ M.ts, x.n = o := List.mem_map.mp h
theorem MS.slOf_of (tn : (M.ts.map MT.n).Nodup) {o : Int} (h : o ∈ M.ts.map MT.n) : ∃ x ∈ M.ts, x.n = o ∧ M.slOf o = x.sl := by
  obtain ⟨x, hx, rfl⟩ := mth_of h
  exact ⟨x, hx, rfl, mslOf_at tn hx⟩
/-- what a model and its store have in common, apart from where they stand -/
structure Pr (M : MS) (S : SC) (B : Nat) : Prop where
  rl : Rl M S
  ok : OkN S B
  q : SlQ S
  ws : ∀ x ∈ S.ts, okW x.w
  fx : S.fx.length ≤ 100
  h0 : S.hs ≠ []
  ns : ∀ x ∈ M.names, nameB x = true
  n0 : M.names ≠ []
  nl : M.names.length ≤ 100
theorem Pr.mok (p : Pr M S B) : MOk M := by
  have ns := p.rl.ns
  have tn : (M.ts.map MT.n).Nodup := by rw [ns]; exact p.ok.tn
  have pm : ∀ x ∈ M.ts, x.sl.Perm (S.slOf x.n) := fun x hx => by
    rw [← mslOf_at tn hx]
    exact p.rl.sl x.n
  have hrs : ∀ q ∈ M.rs, ∃ g ∈ S.hs, q = (g.nm, g.row) := fun q hq => by
    rw [p.rl.rs] at hq
    obtain ⟨g, hg, e⟩ := List.mem_map.mp hq
    exact ⟨g, hg, e.symm⟩
  have hth : ∀ x ∈ M.ts, ∃ y ∈ S.ts, y.n = x.n ∧ y.w = x.w := fun x hx => by
    have : (x.n, x.w) ∈ S.wds := by rw [← p.rl.ths]; exact List.mem_map.mpr ⟨x, hx, rfl⟩
    obtain ⟨y, hy, e⟩ := List.mem_map.mp this
    exact ⟨y, hy, congrArg Prod.fst e, congrArg Prod.snd e⟩
  refine ⟨?_, by rw [ns]; exact p.ok.ok.srt, ?_, ?_, ?_, ?_, ?_, ?_, ?_, ?_, ?_, p.ns, p.n0, p.nl, ?_, ?_, by rw [p.rl.many]; exact p.ok.m0, by rw [p.rl.many]; exact p.ok.m1, ?_⟩
  · rw [p.rl.rs]
    unfold SC.rws
    rw [List.map_map]
    exact p.ok.hn
  · intro q hq x hx
    obtain ⟨g, hg, rfl⟩ := hrs q hq
    rw [ns]
    exact p.ok.ok.rows g hg x hx
  · intro q hq
    obtain ⟨g, hg, rfl⟩ := hrs q hq
    exact p.ok.rl g hg
  · rw [p.rl.rs, len_rws]
    exact p.ok.hl
  · intro e
    rw [p.rl.rs] at e
    exact p.h0 (List.map_eq_nil_iff.mp e)
  · have := congrArg List.length ns
    rw [List.length_map, List.length_map] at this
    rw [this]
    exact p.ok.tl
  · intro x hx
    rw [(pm x hx).length_eq]
    exact slOf_len p.ok _
  · intro x hx
    exact (((pm x hx).map (·.1)).nodup_iff).mpr (slOf_nodup p.ok _)
  · intro x hx q hq
    rw [ns]
    exact p.q x.n q ((pm x hx).mem_iff.mp hq)
  · intro q hq
    obtain ⟨g, hg, rfl⟩ := hrs q hq
    exact p.ok.nm g hg
  · intro x hx
    obtain ⟨y, hy, _, e⟩ := hth x hx
    rw [← e]
    exact p.ws y hy
  · intro x hx
    obtain ⟨y, hy, e, _⟩ := hth x hx
    rw [← e]
    have h1 := p.ok.ok.many y hy
    have h2 := p.ok.m1
    omega
  · intro x hx
    obtain ⟨y, hy, e, _⟩ := hth x hx
    rw [← e, p.rl.many]
    exact (p.ok.ok.many y hy).2
theorem Rm_rl (R : Rl M S) (o : OkN S B) {dd : Dd} (h : dd.Rm M.rs M.slOf M.ts.length) : dd.Rm S.rws S.slOf S.ts.length := by
  have el : M.ts.length = S.ts.length := by
    have := congrArg List.length R.ns
    rwa [List.length_map, List.length_map] at this
  have ll : ∀ u, (M.slOf u).length = (S.slOf u).length := fun u => (R.sl u).length_eq
  rw [R.rs] at h
  cases dd with
  | make h w => exact ⟨el ▸ h.1, h.2⟩
  | fill h u k r =>
    intro e
    rw [← R.get o] at e
    have := h e
    rw [ll] at this
    exact this
  | empty h u k =>
    intro e
    rw [← R.get o] at e
    exact h e
  | take h u k =>
    obtain ⟨r, e, g⟩ := h
    rw [R.get o] at e
    exact ⟨r, e, g⟩
  | give h x t => exact h
  | drop h x => exact h
theorem ws_did {y : Th} {dd : Dd} (w : ∀ x ∈ S.ts, okW x.w) (ny : NewTh S.many y dd) (ok : dd.Ok S.rws) : ∀ x ∈ (S.did y dd).ts, okW x.w := by
  have key : ∀ {S' : SC}, S'.wds = S.wds → ∀ x ∈ S'.ts, okW x.w := fun {S'} e x hx => by
    have : (x.n, x.w) ∈ S'.wds := List.mem_map.mpr ⟨x, hx, rfl⟩
    rw [e] at this
    obtain ⟨z, hz, e2⟩ := List.mem_map.mp this
    have := w z hz
    rwa [show z.w = x.w from congrArg Prod.snd e2] at this
  cases dd with
  | make h v =>
    obtain ⟨n1, n2, n3, n4⟩ := ny
    obtain ⟨_, _, hv⟩ := ok
    intro x hx
    have : (x.n, x.w) ∈ (S.did y (.make h v)).wds := List.mem_map.mpr ⟨x, hx, rfl⟩
    rw [show (S.did y (.make h v)).wds = (S.addTh y).wds from wds_have (S := S.addTh y), wds_addTh] at this
    rcases List.mem_append.mp this with m | m
    · obtain ⟨z, hz, e2⟩ := List.mem_map.mp m
      have := w z hz
      rwa [show z.w = x.w from congrArg Prod.snd e2] at this
    · rw [show x.w = y.w from congrArg Prod.snd (List.mem_singleton.mp m), n3]
      exact hv
  | fill h u k r => exact key wds_put
  | empty h u k => exact key wds_clrO
  | take h u k => exact key wds_have
  | give h x t => exact key ((wds_have (S := S.lose h x)).trans wds_lose)
  | drop h x => exact key wds_lose
theorem hs_did {y : Th} {dd : Dd} : (S.did y dd).hs.map Hd.nm = S.hs.map Hd.nm := by
  cases dd with
  | make h v => exact nms_have (S := S.addTh y)
  | fill h u k r => exact congrArg _ hs_put
  | empty h u k => exact congrArg _ hs_clrO
  | take h u k => exact nms_have
  | give h x t => exact (nms_have (S := S.lose h x)).trans nms_lose
  | drop h x => exact nms_lose
theorem fx_clrO {o : Int} {k : Str} : (S.clrO o k).fx = S.fx ∧ (S.clrO o k).t = S.t := by
  unfold SC.clrO
  cases getA (S.slOf o) k with
  | none => exact ⟨rfl, rfl⟩
  | some r => exact ⟨fx_clr, t_clr.1⟩
theorem fx_did {y : Th} {dd : Dd} : (S.did y dd).fx = S.fx ∧ (S.did y dd).t = S.t := by
  cases dd with
  | make h v => exact ⟨rfl, rfl⟩
  | fill h u k r => exact fx_put
  | empty h u k => exact fx_clrO
  | take h u k => exact ⟨rfl, rfl⟩
  | give h x t => exact ⟨rfl, rfl⟩
  | drop h x => exact ⟨rfl, rfl⟩
theorem note_names {a : Addr} {dd : Dd} : (M.note a dd).names = M.names ∧ (M.note a dd).m = M.m ∧ (M.note a dd).fl = M.fl ∧ (M.note a dd).sd = M.sd := by
  cases dd <;> exact ⟨rfl, rfl, rfl, rfl⟩
theorem Pr.next (p : Pr M S B) {dd : Dd} (ok : dd.Ok M.rs) (rm : dd.Rm M.rs M.slOf M.ts.length) {a : Addr} {y : Th} (ny : NewTh S.many y dd) (hm : S.many < 100000) :
    Pr (M.note a dd) (S.did y dd) (B + 1) ∧ toldBy M.many M.slOf dd = toldBy S.many S.slOf dd ∧ (S.did y dd).many ≤ S.many + 1 := by
  have ok' : dd.Ok S.rws := by rw [← p.rl.rs]; exact ok
  obtain ⟨h1, h2, h3, h4, h5⟩ := p.rl.next p.ok p.q ok' (Rm_rl p.rl p.ok rm) (a := a) ny hm
  refine ⟨⟨h1, h2, h3, ws_did p.ws ny ok', by rw [fx_did.1]; exact p.fx, fun e => ?_, by rw [note_names.1]; exact p.ns, by rw [note_names.1]; exact p.n0, by rw [note_names.1]; exact p.nl⟩, h4, h5⟩
  have := hs_did (S := S) (y := y) (dd := dd)
  rw [e] at this
  exact p.h0 (List.map_eq_nil_iff.mp this.symm)
end
end Dl
namespace Dl
open PySem PySem.Spec PyProof.Rows L2
/-! ### deeds as tuples: a word, a hand, and what else -/
def Dd.hand : Dd → Str
  | .make h _ => h
  | .fill h _ _ _ => h
  | .empty h _ _ => h
  | .take h _ _ => h
  | .give h _ _ => h
  | .drop h _ => h
theorem Dd.Ok.row {rs : List (Str × List Int)} {dd : Dd} (h : dd.Ok rs) : ∃ row, (dd.hand, row) ∈ rs := by
  cases dd <;> exact ⟨_, h.choose_spec.1⟩
def sL : Nat := 115
def hL : Nat := 104
theorem mrow_of {M : MS} {h : Str} (m : h ∈ M.rs.map (·.1)) : ∃ row, (h, row) ∈ M.rs := by
  obtain ⟨⟨h2, row⟩, hq, rfl⟩ := List.mem_map.mp m
  exact ⟨row, hq⟩
end Dl
namespace Dl
open PySem PySem.Spec PyProof.Rows L2
end Dl
namespace Dl
open PySem PySem.Spec PyProof.Rows L2
theorem rd_inT {μ : Mu} {xs : List Str} {x : Str} {Q : DQ} {n : Bool} (q : Q (.bl (if n then !decide (x ∈ xs) else decide (x ∈ xs))) μ) : fIn n (.str x) (.tup (xs.map .str)) μ Q := by
  have h := rd_inStrs (μ := μ) (e := .lst (xs.map .str)) (xs := xs) (x := x) (Q := Q) (n := n) rfl q
  obtain ⟨p, qs, r1, r2, r3, r4⟩ := h
  refine ⟨p, qs, r1, .inr ?_, r3, r4⟩
  rcases r2 with r2 | r2
  · cases r2 with
    | lst rs => exact .tup rs
  · cases r2
end Dl
namespace Dl
open PySem PySem.Spec PyProof.Rows L2
section
variable {F F' G : List Addr} {μ μ' : Mu}
theorem Stp.put (h : Stp F F' μ μ') {a : Addr} {o : O} (ha : a ∈ F ∨ μ a = none) : Stp F F' μ (put μ' a o) := ⟨fun b o' e n => (by
  rw [put_ne]
  · exact h.kp b o' e n
  · rintro rfl
    rcases ha with z | z
    · exact n z
    · rw [z] at e
      cases e), h.ft⟩
theorem Stp.to (h : Stp F F' μ μ') (g : ∀ b ∈ G, b ∈ F ∨ μ b = none) : Stp F G μ μ' := ⟨h.kp, g⟩
theorem Stp.eq (h : Stp F F μ μ') (e : G = F) : Stp F G μ μ' := e ▸ h
theorem Sits.nf {cs : Cells} (s : Sits μ cs) {a : Addr} (h : μ a = none) : a ∉ foot cs := s.fresh h
variable {M : MS} {T : D → Prop}
theorem rd_mPutRow {Q : Mu → Prop} {rs : List (Str × List Int)} {a : Addr} {h : Str} {row : List Int} {d : D} (f : List Int → List Int) (s : μ a = some (.dK (rs.map rwD))) (hn : (rs.map (·.1)).Nodup) (hl : rs.length ≤ 1000) (m : (h, row) ∈ rs) (e : d = .lst ((f row).map .int)) (q : Q (put μ a (.dK ((updR rs h f).map rwD)))) : PutD μ (.at a) (.str h) d Q := by
  subst e
  refine rd_putR s (List.mem_map.mpr ⟨_, m, rfl⟩) hl ?_
  rw [← updR_set hn m]
  exact q
theorem rd_ixLast {r : Rw} {Q : DQ} (q : Q (.int r.val) μ) : fIx r.D (.int (-1)) μ Q := by
  cases r with
  | plain x => exact rd_ixt (xs := [.str "plain", .int x]) (by rfl) q
  | weak x => exact rd_ixt (xs := [.str "weak", .int x]) (by rfl) q
  | keyed j x => exact rd_ixt (xs := [.str "keyed", .int j, .int x]) (by rfl) q
theorem addr_row {xs : List Int} {x : Int} : D.lst (xs.map .int ++ [.int x]) = .lst ((xs ++ [x]).map .int) := by rw [List.map_append]; rfl
end
/-! a, b, c = x, y, z -/
section
variable {B : Bs} {X : Cx}
def wPar3 (i j l : Nat) (a : WA) : WS := fun DD ρ μ => a ρ μ fun ds μ1 => ∃ d e g, ds = [d, e, g] ∧ DD.nx (((ρ.set i (some d)).set j (some e)).set l (some g)) μ1
end
end Dl
namespace Dl
open PySem PySem.Spec PyProof.Rows L2
/-! ### what is told of a thing -/
def Rw.P : Rw → PyData
  | .plain x => .tuple [.str "plain", .int x]
  | .weak x => .tuple [.str "weak", .int x]
  | .keyed k v => .tuple [.str "keyed", .int k, .int v]
/-! ### a store and a law's model of it, one beside the other -/
structure Wd (C : Addr) (μb μ : Mu) (M : MS) (S : SC) (B : Nat) : Prop where
  st : St C μ S
  ms : MSt μ M
  pr : Pr M S B
  sep : ∀ a ∈ foot M.cells, a ∉ foot (S.cells C)
  kp : ∀ a o, μb a = some o → μ a = some o
  fs : ∀ a ∈ foot (S.cells C), μb a = none
  fm : ∀ a ∈ foot M.cells, μb a = none
section
variable {C : Addr} {μb μ μ1 μ2 : Mu} {M M1 : MS} {S S' : SC} {B B' : Nat}
theorem Wd.next (w : Wd C μb μ M S B) (h1 : MSt μ1 M1) (s1 : Stp (foot M.cells) (foot M1.cells) μ μ1) (h2 : St C μ2 S') (s2 : Stp (foot (S.cells C)) (foot (S'.cells C)) μ1 μ2) (p : Pr M1 S' B') : Wd C μb μ2 M1 S' B' := by
  have no : ∀ a ∈ foot M1.cells, a ∉ foot (S.cells C) := fun a ha hs => by
    rcases s1.ft a ha with z | z
    · exact w.sep a z hs
    · obtain ⟨o, e⟩ := w.st.sits.there hs
      rw [z] at e
      cases e
  have k1 : ∀ a o, μb a = some o → μ1 a = some o := fun a o e => s1.kp a o (w.kp a o e) fun m => by
    rw [w.fm a m] at e
    cases e
  refine ⟨h2, h1.stp s2 no, p, fun a ha hs => ?_, fun a o e => ?_, fun a ha => ?_, fun a ha => ?_⟩
  · rcases s2.ft a hs with z | z
    · exact no a ha z
    · obtain ⟨o, e⟩ := h1.there ha
      rw [z] at e
      cases e
  · exact s2.kp a o (k1 a o e) fun m => by
      rw [w.fs a m] at e
      cases e
  · rcases s2.ft a ha with z | z
    · exact w.fs a z
    · cases e : μb a with
      | none => rfl
      | some o => rw [k1 a o e] at z; cases z
  · rcases s1.ft a ha with z | z
    · exact w.fm a z
    · cases e : μb a with
      | none => rfl
      | some o => rw [w.kp a o e] at z; cases z
theorem Wd.less (w : Wd C μb μ M S B) : Less μ μb := fun a => by
  cases e : μb a with
  | none => exact .inl rfl
  | some o => exact .inr (w.kp a o e).symm
end
end Dl
namespace Dl
open PySem PySem.Spec PyProof.Rows L2
/-! ### lists told ahead of a deed -/
theorem Rss.app {μ : Mu} : ∀ {a : List D} {p : List PyData} {b : List D} {q : List PyData}, Rss μ a p → Rss μ b q → Rss μ (a ++ b) (p ++ q)
  | _, _, _, _, .nil, h => h
  | _, _, _, _, .cons r rs, h => .cons r (Rss.app rs h)
section
variable {C : Addr} {S : SC} {M : MS} {B : Nat} {μ : Mu}
theorem Pr.init {xs : List Str} (e1 : M.rs = xs.map fun x => (x, [])) (l1 : 1 ≤ xs.length) (l6 : xs.length ≤ 6) (hx : ∀ x ∈ xs, nameB x = true) (nd : xs.Nodup) (e2 : M.ts = []) (e3 : M.many = 0) (n0 : M.names ≠ []) (nl : M.names.length ≤ 100) (ns : ∀ x ∈ M.names, nameB x = true)
    (f1 : S.ts = []) (f2 : S.many = 0) (f3 : S.fx = []) (f4 : S.hs.map Hd.nm = xs) (f5 : ∀ g ∈ S.hs, g.row = []) : Pr M S 0 := by
  have hlen : S.hs.length = xs.length := by rw [← f4, List.length_map]
  have sl0 : ∀ o, S.slOf o = [] := fun o => by unfold SC.slOf; rw [f1]; rfl
  have ml0 : ∀ o, M.slOf o = [] := fun o => by unfold MS.slOf; rw [e2]; rfl
  refine ⟨⟨?_, by rw [e3, f2], by rw [e2, SC.wds, f1]; rfl, fun o => by rw [sl0, ml0]⟩, OkN.init f1 f2 f5 (by rw [f4]; exact nd) (by omega) (fun g hg => hx g.nm (by rw [← f4]; exact List.mem_map.mpr ⟨g, hg, rfl⟩)), fun o q hq => ?_, fun x hx => ?_, by rw [f3]; exact Nat.zero_le _, fun e => ?_, ns, n0, nl⟩
  · rw [e1, ← f4, List.map_map]
    unfold SC.rws
    refine List.map_congr_left fun g hg => ?_
    show (g.nm, ([] : List Int)) = (g.nm, g.row)
    rw [f5 g hg]
  · rw [sl0] at hq
    cases hq
  · rw [f1] at hx
    cases hx
  · rw [e] at hlen
    simp at hlen
    omega
/-- where both begin -/
theorem Wd.init {μb μ1 μ2 : Mu} {l : Addr} {x0 x1 : O} (sM : MSt μ1 M) (fM : ∀ a ∈ foot M.cells, μb a = none) (smM : Same (foot M.cells) μb μ1) (hl : μ1 l = none) (ht : put μ1 l x0 S.t = none) (s2 : St C μ2 S) (fr : ∀ a ∈ foot (S.cells C), a ≠ S.t → put (put μ1 l x0) S.t x1 a = none) (sm : Same (foot (S.cells C)) (put (put μ1 l x0) S.t x1) μ2) (p : Pr M S 0) (o : O) : Wd C μb (put μ2 l o) M S 0 ∧ μ2 l = some x0 := by
  have ⟨tl, ht1⟩ := no_put ht
  have lF : l ∉ foot (S.cells C) := fun m => by
    have h := fr l m (Ne.symm tl)
    rw [put_ne (Ne.symm tl), put_same] at h
    cases h
  have up : ∀ a o, μ1 a = some o → a ∉ foot (S.cells C) ∧ put μ2 l o a = put μ2 l o a ∧ μ2 a = some o ∧ a ≠ l := fun a o e => by
    have h1 : a ≠ l := ne_no e hl
    have h2 : a ≠ S.t := ne_no e ht1
    have h3 : put (put μ1 l x0) S.t x1 a = some o := by rw [put_ne h2, put_ne h1]; exact e
    have h4 : a ∉ foot (S.cells C) := fun m => by
      have h := fr a m h2
      rw [h3] at h
      cases h
    exact ⟨h4, rfl, sm.at h4 h3, h1⟩
  have k1 : ∀ a o, μb a = some o → μ1 a = some o := fun a o e => smM.at (fun m => by rw [fM a m] at e; cases e) e
  refine ⟨⟨s2.off lF, ?_, p, ?_, ?_, ?_, fM⟩, ?_⟩
  · refine ⟨fun q hq => ?_, sM.nd⟩
    obtain ⟨_, _, h3, h4⟩ := up q.1 q.2 (sM.at_ q hq)
    rw [put_ne h4]
    exact h3
  · intro a ha
    obtain ⟨o, e⟩ := sM.there ha
    exact (up a o e).1
  · intro a o' e
    obtain ⟨_, _, h3, h4⟩ := up a o' (k1 a o' e)
    rw [put_ne h4]
    exact h3
  · intro a ha
    cases e : μb a with
    | none => rfl
    | some o' => exact ((up a o' (k1 a o' e)).1 ha).elim
  · refine sm.at lF ?_
    rw [put_ne (Ne.symm tl), put_same]
end
end Dl
namespace Dl
open PySem PySem.Spec PyProof.Rows L2
/-! ### signs in texts, texts cut, dicts shown -/
section
variable {B : Bs} {X : Cx} {o : Expr} {wo : WE}
def wSlS (o : WE) (lo hi : WO) : WE := fun ρ μ Q => o ρ μ fun d μ1 => lo ρ μ1 fun l μ2 => hi ρ μ2 fun h μ3 => ∃ z, d = .str z ∧ z.length ≤ sizeLine ∧ Q (.str (cutS z l h)) μ3
end
/-- a text of few signs, none of them too far -/
def Tx (n : Nat) (x : Str) : Prop := x.length ≤ n ∧ ∀ c ∈ x.cps.toList, c < 16 ^ 8
theorem Tx.cut {n : Nat} {x : Str} (h : Tx n x) (lo hi : Option Int) : Tx n (cutS x lo hi) := by
  refine ⟨Nat.le_trans (cutS_length x lo hi) h.1, fun c hc => h.2 c ?_⟩
  unfold cutS at hc
  simp only at hc
  exact List.mem_of_mem_drop (List.mem_of_mem_take hc)
theorem Tx.mono {n m : Nat} {x : Str} (h : Tx n x) (l : n ≤ m) : Tx m x := ⟨Nat.le_trans h.1 l, h.2⟩
theorem Tx.shw {n : Nat} {x : Str} (h : Tx n x) : Shw (.str x) n 1 := Shw.str h.2 h.1
theorem Tx.one {z : Str} {n c : Nat} (h : Tx n z) (hc : c ∈ z.cps.toList) : Tx 1 ⟨#[c]⟩ := ⟨Nat.le_refl _, fun d hd => by
  have e : d = c := by simpa using hd
  rw [e]
  exact h.2 c hc⟩
/-! a dict of whole numbers, shown -/
def keyP : Key → PyData
  | .inl i => .int i
  | .inr x => .str x
def kvP (kvs : List (Key × Int)) : PyData := .dict (kvs.map fun q => (keyP q.1, .int q.2))
theorem reads_key {h : Heap} {k : Key} {v : Value} (e : keyIs k v = true) : Reads h v (keyP k) [] := by
  rcases keyIs_shape e with ⟨i, t, rfl, rfl⟩ | ⟨x, t, rfl, rfl⟩
  · exact .int i t
  · exact .str x t
theorem reads_kvs {P : Program} {w : World} {h : Heap} : ∀ {es : List DictEntry} {vs : List (Key × Value)} {ks : List (Key × Int)}, Pairs (mixKind P w) es vs → Paired (fun (q : Key × Value) (r : Key × Int) => q.1 = r.1 ∧ ∃ t, q.2 = .int r.2 t) vs ks →
    ReadsAll h (es.map (·.key)) ((ks.map fun q => (keyP q.1, PyData.int q.2)).map (·.1)) [] ∧ ReadsAll h (es.map (·.val)) ((ks.map fun q => (keyP q.1, PyData.int q.2)).map (·.2)) []
  | _, _, _, .nil, .nil => ⟨.nil, .nil⟩
  | _, _, _, .cons h1 h2 h3, .cons ⟨e1, t, e2⟩ hp => by
    obtain ⟨a, b⟩ := reads_kvs h3 hp
    rename_i e kv es vs r ks
    refine ⟨ReadsAll.cons (as := []) (bs := []) (by show Reads h e.key (keyP r.1) []; rw [← e1]; exact reads_key h1) a, ReadsAll.cons (as := []) (bs := []) ?_ b⟩
    show Reads h e.val (.int r.2) []
    rw [h2, e2]
    exact .int _ _
theorem kv_ints {M : Ms} {H : Hp} : ∀ {ks : List (Key × Int)} {xs : List (Key × V)} {vs : List (Key × Value)}, KD M H (ks.map fun q => (q.1, D.int q.2)) xs → KV xs vs → Paired (fun (q : Key × Value) (r : Key × Int) => q.1 = r.1 ∧ ∃ t, q.2 = .int r.2 t) vs ks
  | [], _, _, .nil, .nil => .nil
  | k :: ks, _, _, .cons r rs, .cons g gs => by
    refine .cons ⟨g.1.symm.trans r.1.symm, ?_⟩ (kv_ints rs gs)
    obtain ⟨g1, g2⟩ := g
    obtain ⟨r1, r2⟩ := r
    rw [show _ = V.int k.2 from r2] at g2
    exact g2
def fReprX : FN := fun ds μ Q => fRepr ds μ Q ∨ ∃ a kvs, ds = [.at a] ∧ μ a = some (.dK (kvs.map fun q : Key × Int => (q.1, .int q.2))) ∧ (kvP kvs).showable = true ∧ (kvP kvs).depth ≤ 60 ∧ (kvP kvs).shown.length ≤ sizeLine ∧ Q (.str (kvP kvs).shown) μ
theorem cd_reprX {X : Cx} (hg : X.A.guards = some []) (hu : X.A.units + 65 < cLine) : CallR X (.builtin "repr") (upFN fReprX) := fun pins s σ H xs us Q I rx ⟨ds, μ, QD, v, m, h, k⟩ => by
  rcases h with h | ⟨a, kvs, e, hm, sh, dp, sz, hq⟩
  · exact cd_repr hg hu pins s σ H xs us Q I rx ⟨ds, μ, QD, v, m, h, k⟩
  · subst e
    obtain ⟨v1, vs, rfl, r1, e⟩ := v
    rw [show vs = [] from e, show v1 = V.ref a from r1] at rx
    obtain ⟨u, rfl, ru⟩ := vals1 rx
    rw [show u = Value.ref a from ru]
    obtain ⟨ks, e1, kd⟩ := m a _ hm
    obtain ⟨_, hsys, ws, hkv, od, es, ep, o1, o2, o3, _, o4, _⟩ := dk_of I.hok e1
    obtain ⟨ra, rb⟩ := reads_kvs (h := s.heap) o4 (kv_ints kd hkv)
    have r : Reads s.heap (.ref a) (kvP kvs) (a :: [] ++ []) := .dict o1 o2.1 o3 ra rb
    refine repr_of_reads' r sh (fun _ z => ?_) hg (by omega) (fun _ _ q => q) (fun h' t tk hk => ⟨.str (kvP kvs).shown, H, I.kept (t' := tk) hk, ⟨t, rfl⟩, k _ _ (lft_mk (d := .str _) m rfl hq)⟩) sz
    have e2 : sysModules = a := by simpa using z
    rw [← e2] at hsys
    simp at hsys
end Dl
namespace Dl
open PySem PySem.Spec PyProof.Rows L2
/-! ### x in [y] by the text's own __eq__ -/
end Dl
namespace Dl
open PySem PySem.Spec PyProof.Rows L2
end Dl
namespace Dl
open PySem PySem.Spec PyProof.Rows L2
/-! ### lists of pairs alike, tables with what they hold -/
end Dl
namespace Dl
open PySem PySem.Spec PyProof.Rows L2
/-! ### own == and != within a comprehension: the written part named by hand -/
end Dl
namespace Dl
open PySem PySem.Spec PyProof.Rows L2
/-! ### Base.__init__(self, ..): a base class's __init__, read off the class -/
end Dl
namespace Dl
open PySem PySem.Spec PyProof.Rows L2
variable {B : Bs}
/-! ### sorted(set(xs)), xs a list of ints -/
/-- an empty set just laid -/
abbrev eSet (w : World) : Obj := { cls := .type "set", dict := none, data := .set #[] 0 (.fresh 0 0 (!w.params.followText "set-order")) }
section
variable {P : Program} {w : World} {A : Around} {E : Value → Shared → Prop} {s : Shared}
set_option maxHeartbeats 8000000 in
theorem set_of_list {l : Addr} {its : Array Value} (ns : List Int) {Q : Value → Shared → Prop} (hh : A.handled = none) (hl : s.heap.IsList l its) (hit : IntsAre its.toList ns) (hb : ns.length + 1 < scanBound)
    (h : ∀ (h' : Heap) (tk c : Nat), SetR w h' s.heap.objs.size (fun j => decide (j ∈ ns)) c → c ≤ ns.length → (∀ b o, s.heap.get? b = some o → h'.get? b = some o) → Q (.ref s.heap.objs.size) { s with heap := h', toks := tk }) :
    wpAny (model P w) A (call (.type "set") [.ref l]) Q E s := by
  have sz : its.size = ns.length := by
    have := IntsAre.length hit
    rwa [Array.length_toList] at this
  obtain ⟨c, tl, hmro⟩ := F.called_set.mro
  have hmade := F.called_set.made
  have hsub := F.called_set.sub
  refine wpAny_call (codeAny_of_tree ?_)
  show wpAny _ _ (callAny (.type "set") _) _ _ _
  refine wpAny_pure ⟨Code.quiet_builtin _ (by decide +kernel), codeAny_builtin F.entry_type_call ?_⟩
  rw [Around.under_plain (weight_type_call_type "set" [.ref l] []) rfl]
  have h1 := F.called_set.notType
  have h2 := F.called_set.canCreate
  have hct := F.typeCall_set_1 (.ref l)
  repeat (any_goals (first | assumption | wp_step))
  refine codeAny_mono (code_set_led1 (.ref l) (E := E) (Q₁ := fun obj s₁ => obj = .ref s.heap.objs.size ∧ s₁ = { s with heap := s.heap.push (eSet w) }) ⟨rfl, rfl⟩) fun r s₁ hr => ?_
  cases r with
  | error e => exact hr
  | ok fl =>
    cases fl with
    | ret obj =>
      obtain ⟨rfl, rfl⟩ := hr
      have gS : (s.heap.push (eSet w)).get? s.heap.objs.size = some (eSet w) := Heap.get?_push_size _ rfl
      have hT : Shared.TypeIs { s with heap := s.heap.push (eSet w) } (.ref s.heap.objs.size) "set" := ⟨_, gS, rfl⟩
      have hli := F.called_set.init.lookup
      have hbi := F.called_set.init.bind (.ref s.heap.objs.size)
      repeat (any_goals (first | assumption | wp_step))
      refine codeAny_mono (codeAny_call_builtin (R := wants (fun r s₂ => r = .none ∧ ∃ h' tk c, s₂ = { s with heap := h', toks := tk } ∧ SetR w h' s.heap.objs.size (fun j => decide (j ∈ ns)) c ∧ c ≤ ns.length ∧
          (∀ b o, s.heap.get? b = some o → h'.get? b = some o)) E) F.called_set.init.plain F.entry_set_init (check_set_init_1 hT ?_)) fun r₂ s₂ hr₂ => ?_
      · obtain ⟨⟨oc, od, oda, osl⟩, ho, hc, nl, hd⟩ := hl
        simp only at hc hd
        subst hc hd
        have ho' : (s.heap.push (eSet w)).get? l = some { cls := .type "list", dict := od, data := .seq its nl, slots := osl } := Heap.get?_push_of_some _ ho
        have hs1 := F.sub_list_set
        have hs2 := F.sub_list_frozenset
        have hne : (Value.type "list" == Value.type "dict") = false := by decide
        have hl1 : (s.heap.push (eSet w)).IsList l its := ⟨_, ho', rfl, nl, rfl⟩
        unfold Builtin.«set.__init__» noKeywords Builtin.Frozenset.updateFrom
        generalize hPI : pyIter = PI
        wp_walk
        subst hPI
        refine wpAny_pyIter_list hl1 ?_
        refine wpAny_bind (wpAny_runValue ?_)
        have hlt : l < s.heap.objs.size := Heap.lt_size ho
        have z1 : (s.heap.push (eSet w)).objs.size = s.heap.objs.size + 1 := Heap.size_push ..
        have neI : l ≠ (s.heap.push (eSet w)).objs.size := by
          rw [z1]
          exact Nat.ne_of_lt (Nat.lt_succ_of_lt hlt)
        have hSf : s.heap.objs.size ∉ [(s.heap.push (eSet w)).objs.size, l] := by
          rw [z1]
          simp only [List.mem_cons, List.not_mem_nil, or_false, not_or]
          exact ⟨Nat.ne_of_lt (Nat.lt_succ_self _), Nat.ne_of_gt hlt⟩
        refine set_update_ints ((Walks.list (A := A.in1.in1.in1) (by simp [hh]) _ l neI its).toS) s.heap.objs.size hSf ns sz hb (fun i v hv => ?_) (its.size - 0) 0 _ (by omega) (Nat.zero_le _)
          ⟨⟨_, Heap.get?_push_size _ rfl, rfl, rfl⟩, hl1.push _⟩ ⟨0, Nat.le_refl 0, setR_new_at (Heap.get?_push_of_some _ gS)⟩ fun s' c' hm hc' hS' => ?_
        · have hi : i < ns.length := by
            rw [← sz]
            exact (Array.getElem?_eq_some_iff.mp hv).1
          obtain ⟨t, e⟩ := PyProof.Rows.IntsAre.int_at hit i v (by rw [Array.getElem?_toList]; exact hv)
          refine ⟨ns[i], t, List.getElem?_eq_getElem hi, ?_⟩
          rw [e, List.getD_eq_getElem?_getD, List.getElem?_eq_getElem hi] <;> rfl
        · obtain ⟨h', g2, d', tk', os'⟩ := s'
          have eg : g2 = s.gens := hm.gens
          have ed : d' = s.drawn := hm.drawn
          have eo : os' = s.os := hm.os
          subst eg ed eo
          show wpAny _ _ _ _ _ _
          refine wpAny_pure ?_
          show wpAny _ _ (ret Value.none) _ _ _
          rw [sz] at hc'
          refine wpAny_pure ⟨rfl, h', tk', c', rfl, hS', hc', fun b o e => ?_⟩
          have b0 : b < s.heap.objs.size := Heap.lt_size e
          refine hm.heap b o ?_ (Heap.get?_push_of_some _ (Heap.get?_push_of_some _ e))
          rw [z1]
          simp only [List.mem_cons, List.not_mem_nil, or_false, not_or]
          exact ⟨Nat.ne_of_lt b0, Nat.ne_of_lt (Nat.lt_succ_of_lt b0)⟩
      · cases r₂ with
        | error e => exact hr₂
        | ok f2 =>
          cases f2 with
          | ret v =>
            obtain ⟨rfl, h', tk, c', rfl, hS', hc', k⟩ := hr₂
            repeat (any_goals (first | assumption | wp_step))
            exact h h' tk c' hS' hc' k
          | next => exact hr₂.elim
          | brk => exact hr₂.elim
          | cont => exact hr₂.elim
    | next => exact hr.elim
    | brk => exact hr.elim
    | cont => exact hr.elim
end
end Dl
namespace Dl
open PySem PySem.Spec PyProof.Rows L2
variable {B : Bs}
theorem vds_intsE {M : Ms} {H : Hp} : ∀ {ns : List Int} {xs : List V}, VDs M H (ns.map .int) xs → xs = ns.map V.int
  | [], xs, h => h
  | n :: ns, xs, ⟨v, vs, e, r, t⟩ => by
    rw [e, show v = V.int n from r, vds_intsE t]
    rfl
/-- sorted(set(xs)) -/
def wSortSet (m : Bool) (we : WE) : WE := fun ρ μ Q => we ρ μ fun d μ1 => ∃ ns : List Int, Ls μ1 d (ns.map .int) ∧ ns.length < 60 ∧ ∀ out : List Int, out.Pairwise (· < ·) → (∀ k, k ∈ out ↔ k ∈ ns) → New m (out.map .int) μ1 Q
theorem je_sortSet {X : Cx} (m : Bool) {e : Expr} {we : WE} {p p2 q pos : Pos} (hm : X.mg "sorted" = none) (hm2 : X.mg "set" = none) (he : JE B X e we) (hc : X.calm = true := by rfl) (hg : Gl X "sorted" := by rfl) (hg2 : Gl X "set" := by rfl)
    (na : starEach [e] X.env = (false, eval e X.env) :: starEach [] X.env := by rfl) : JE B X (.Call (.Name "sorted" p) [.Call (.Name "set" p2) [e] [] q] [] pos) (wSortSet m we) := ⟨fun pins s σ H Q I ⟨ρ, μ, QD, rs, mh, h, kk⟩ => by
  refine PyProof.Rows.Call_ (ld_blt I hg hm PyProof.Rows.boot_sorted ?_)
  refine PyProof.Rows.callWith_builtin1 (PyProof.Rows.args_cons ?_ rfl) rfl rfl
  refine PyProof.Rows.Call_ (ld_blt I hg2 hm2 PyProof.Rows.boot_set ?_)
  have h1 := he.run pins s σ H (fun v H1 => ∃ d μ1, Step (MD μ) H (MD μ1) H1 ∧ MH μ1 H1 ∧ VD (MD μ1) H1 d v ∧ ∃ ns : List Int, Ls μ1 d (ns.map .int) ∧ ns.length < 60 ∧ ∀ out : List Int, out.Pairwise (· < ·) → (∀ k, k ∈ out ↔ k ∈ ns) → New m (out.map .int) μ1 QD) I
    (up_mk rs mh h fun v H' d μ' a b c e => ⟨d, μ', a, b, c, e⟩)
  refine PyProof.Rows.callWith_type1 (PyProof.Rows.args_cons (thn h1 fun v s1 ⟨x, H1, I1, r1, d, μ1, st, m1, v1, ns, hl, h60, q⟩ => PyProof.Rows.args_nil ?_) na) na rfl
  obtain ⟨a, xs, rfl, e1, g1⟩ := hl.to m1 v1
  obtain rfl : v = Value.ref a := r1
  have exs : xs = ns.map V.int := vds_intsE g1
  subst exs
  obtain ⟨its, rv, pl, hz⟩ := I1.list (.inl (.inl e1))
  have hsz : its.toArray.size = ns.length := by rw [List.size_toArray, ← rv.length, List.length_map]
  refine set_of_list ns (I1.ok.hd hc) pl.isList (by simpa using ints_of_vals rv) (by unfold scanBound; omega) fun h' tk c R hcl k => ?_
  refine PyProof.Rows.args_nil ?_
  have I2 : Inv X pins σ H1 { s1 with heap := h', toks := tk } := I1.kept k
  refine sorted_set (s := { s1 with heap := h', toks := tk }) R (I2.ok.hd hc) (by omega) fun s' p out c2 n2 k2 g o hp hgp hi2 hs2 hm3 hl2 => ?_
  have hlen : (n2.map V.int).length ≤ sizeLine := by rw [List.length_map, hl2, sizeLine_eq]; omega
  have hn : H1 p = none := I2.hok.fresh hp
  have J : Inv X pins σ (upd H1 p (.lst (n2.map V.int))) { ({ s1 with heap := h', toks := tk } : Shared) with heap := s'.heap, gens := s'.gens, drawn := s'.drawn, toks := s'.toks } :=
    I2.call (ch := []) (Un.laid k2 hp hn) (I2.hok.laid k2 hp (show ObjOk X.prog X.w _ _ p (.lst (n2.map V.int)) from ⟨hlen, out.toList, c2, vals_of_ints hi2, hgp⟩)) (by rw [g]; exact I2.bare) (fun _ z => nomatch z)
  have e : s' = { s1 with heap := s'.heap, gens := s'.gens, drawn := s'.drawn, toks := s'.toks } := by
    cases s'
    cases s1
    cases o
    rfl
  rw [e]
  exact ⟨.ref p, _, J, rfl, kk _ _ ((lft_new m1 (vds_ints n2) hn (q n2 hs2 fun j => by rw [hm3 j, decide_eq_true_eq])).trans st)⟩⟩
end Dl
namespace Dl
open PySem PySem.Spec PyProof.Rows L2
/-! ### max(xs, default=c), xs a list of ints -/
end Dl
namespace Dl
open PySem PySem.Spec PyProof.Rows L2
variable {B : Bs}
def wMaxDf (we wc : WE) : WE := fun ρ μ Q => we ρ μ fun d μ1 => wc ρ μ1 fun c μ2 => ∃ (ns : List Int) (j : Int), Lr μ2 d (ns.map .int) ∧ c = .int j ∧ (ns = [] → Q (.int j) μ2) ∧ ∀ m, m ∈ ns → (∀ y, y ∈ ns → y ≤ m) → Q (.int m) μ2
end Dl
namespace Dl
open PySem PySem.Spec PyProof.Rows L2
/-! ### a sea: a store that has depths, too -/
def SC.setX (S : SC) (xc : Cells) : SC := { S with xc := xc }
/-- what a sea has beyond a store: its depths at da -/
structure SeaS (S : SC) (da : Addr) (dps : Tb Int) : Prop where
  fx : S.fx = [(("deep" : Str), D.at da)]
  xc : S.xc = [(da, O.dK (enc kI dps))]
  ns : dps.map (·.1) = S.ts.map Th.n
def SC.pre (C : Addr) (S : SC) : Cells := (S.t, .ins C S.flds) :: (S.r, .dK S.dr) :: (S.f, .dK S.df) :: (S.l, .dK S.dl) :: (S.k, .dK S.dk) ::
  (S.hs.map (fun h => (h.ra, O.lst (h.row.map .int))) ++ (S.ts.map (fun x => (x.sa, O.dK (slK x.sl))) ++ S.ts.map (fun x => (x.ka, O.lst (x.ke.map hoD)))))
section
variable {C : Addr} {μ : Mu} {S : SC} {da : Addr} {dps : Tb Int}
theorem cells_pre : S.cells C = S.pre C ++ S.xc := by
  unfold SC.cells SC.pre
  simp only [List.cons_append, List.append_assoc]
theorem sits_last {pre : Cells} {a : Addr} {o : O} (s : Sits μ (pre ++ [(a, o)])) (o' : O) : Sits (put μ a o') (pre ++ [(a, o')]) := by
  have nd := s.nd
  rw [List.map_append, List.nodup_append] at nd
  refine ⟨fun q hq => ?_, by rw [List.map_append]; exact List.nodup_append.mpr nd⟩
  rcases List.mem_append.mp hq with m | m
  · rw [put_ne (nd.2.2 q.1 (List.mem_map.mpr ⟨q, m, rfl⟩) a (by simp))]
    exact s.at_ q (List.mem_append.mpr (.inl m))
  · cases List.mem_singleton.mp m
    exact put_same
theorem St.setX (s : St C μ S) {o : O} (e : S.xc = [(da, o)]) (o' : O) : St C (put μ da o') (S.setX [(da, o')]) := by
  have h := s.sits
  rw [cells_pre, e] at h
  exact ⟨by rw [cells_pre]; exact sits_last h o', s.hn, s.tn, s.mt⟩
theorem SeaS.in_ (e : SeaS S da dps) : da ∈ foot (S.cells C) := by
  unfold foot
  rw [cells_pre, e.xc, List.map_append]
  exact List.mem_append.mpr (.inr (by simp))
theorem SeaS.nd (e : SeaS S da dps) (tn : (S.ts.map Th.n).Nodup) : Nd dps := by
  unfold Nd
  rw [e.ns]
  exact tn
end
/-! ### the deepest of a hold -/
end Dl
namespace Dl
open PySem PySem.Spec PySem.Calls PyProof.Rows L2
/-! ### sorted(xs), xs a list of tuples, empty ones among them -/
section
variable {prog : Program} {w : World} {A : Around} {E : Value → Shared → Prop} {s : Shared}
theorem call_tup_lt {Q : Value → Shared → Prop} {l b : Addr} {items items2 : Array Value} {e r : Nat → Bool} (hl : s.heap.IsTuple l items) (hb : s.heap.IsTuple b items2)
    (he : ∀ j (h1 : j < items.size) (h2 : j < items2.size), SeqAt.EqAt A.in1 s items[j] items2[j] (e j)) (hr : ∀ j (h1 : j < items.size) (h2 : j < items2.size), e j = false → SeqAt.RcLt A.in1 s items[j] items2[j] (r j))
    (h : Q (.bool (SeqAt.firstLt e r (decide (items.size < items2.size)) (List.range (min items.size items2.size)))) s) : wpAny (model prog w) A (call (.builtin "tuple.__lt__") [.ref l, .ref b]) Q E s := by
  obtain ⟨⟨c1, dd, o1, sl⟩, ho, h1, n, h2⟩ := id hl
  obtain ⟨⟨c2, dd2, o2, sl2⟩, ho2, h3, n2, h4⟩ := id hb
  simp only at h1 h2 h3 h4
  subst h1 h2 h3 h4
  exact call_meets F.slot_tuple_lt ⟨_, ho, rfl⟩ F.entry_tuple_lt (F.args_tuple_lt_2 _ _) (SeqAt.tuple_ltAt l b items items2 n n2 dd dd2 sl sl2 e r) ⟨ho, ho2, he, hr, h⟩
open PySem.W PySem.SeqAt in
theorem oneLt_tup {xs ys : List PyData} {a b : Value} {as bs : List Addr} {Q : Bool → Shared → Prop} (ra : Reads s.heap a (.tuple xs) as) (rb : Reads s.heap b (.tuple ys) bs) (h : alike (.tuple xs) (.tuple ys) = true)
    (hu : A.units + min (PyData.tuple xs).depth (PyData.tuple ys).depth < cLine) (hq : Q (dataLt (.tuple xs) (.tuple ys)) s) : wpAny (model prog w) A (oneLt' true a b) Q E s := by
  have hal : alikeAll xs ys = true := by simpa [alike] using h
  cases ra with
  | @tuple l o vs n _ as₁ h1 h2 h3 h4 =>
    cases rb with
    | @tuple l' o' vs' n' _ bs₁ k1 k2 k3 k4 =>
      have n1 : vs.size = xs.length := by simpa using ReadsAll.length _ _ _ h4
      have n2 : vs'.size = ys.length := by simpa using ReadsAll.length _ _ _ k4
      rw [dataLt_tuple, ← firstLt_toks xs ys hal, ← n1, ← n2] at hq
      rw [oneLt'_eq]
      simp only [if_true]
      refine wpAny_bind (wpAny_cRoomFor (room_here hu) ?_)
      refine wpAny_bind (wpAny_callSpecialIfBound?_slot (T := "tuple") ⟨_, h1, h2⟩ F.slot_tuple_lt (call_tup_lt (e := pairEq xs ys) (r := fun j => dataLt (xs.getD j .none) (ys.getD j .none)) ⟨_, h1, h2, _, h3⟩ ⟨_, k1, k2, _, k3⟩ (fun j j1 j2 => ?_) (fun j j1 j2 hj => ?_) ?_))
      · have := eqAt_alikeAll xs ys A.in1 s vs.toList vs'.toList _ _ h4 k4 hal (SeqAt.room_in hu) j (by simpa using j1) (by simpa using j2)
        simpa using this
      · have := rcLt_alikeAll xs ys A.in1 s vs.toList vs'.toList _ _ h4 k4 hal (SeqAt.room_in hu) j (by simpa using j1) (by simpa using j2) hj
        simpa using this
      · exact wpAny_truthy_bool hq
end
/-- a tuple with an item at least -/
def fullT : PyData → Bool
  | .tuple (_ :: _) => true
  | _ => false
section
variable {prog : Program} {w : World} {A : Around} {E : Value → Shared → Prop} {s : Shared}
open PySem.W in
theorem firsts_tup : ∀ {vs : List Value} {ds : List PyData}, EachIs (fun v d => ∃ as, Reads s.heap v d as) vs ds → (∀ d ∈ ds, ∃ xs, d = .tuple xs) →
    ∃ fs : List (Option Value), fs.map (·.isSome) = ds.map fullT ∧ ∀ {Q : List (Option Value) → Shared → Prop}, Q fs s → wpAny (model prog w) A (vs.mapM firstOfTuple') Q E s
  | _, _, .nil, _ => ⟨[], rfl, fun h => by rw [List.mapM_nil]; exact wpAny_pure h⟩
  | v :: vs, d :: ds, .cons ⟨as, r⟩ t, ht => by
    obtain ⟨fs, e, k⟩ := firsts_tup t fun d hd => ht d (List.mem_cons_of_mem _ hd)
    obtain ⟨xs, rfl⟩ := ht _ List.mem_cons_self
    cases r with
    | @tuple l o its n _ as₁ h1 h2 h3 h4 =>
      have n1 : its.size = xs.length := by simpa using SeqAt.ReadsAll.length _ _ _ h4
      refine ⟨its[0]? :: fs, ?_, fun {Q} h => ?_⟩
      · rw [List.map_cons, List.map_cons, e]
        congr 1
        cases xs with
        | nil => rw [Array.getElem?_eq_none (by simpa using Nat.le_of_eq n1)]; rfl
        | cons x xs => rw [Array.getElem?_eq_getElem (by rw [n1]; exact Nat.succ_pos _)]; rfl
      · rw [List.mapM_cons]
        refine wpAny_bind ?_
        rw [kas_first_eq]
        refine wpAny_bind (Looks.here (show Looks (model prog w) s.heap (typeOf (.ref l)) o.cls from (Looks.ld h1).andThen .now) ?_)
        rw [h2, if_neg (by first | decide | simp)]
        refine wpAny_bind (listItems_at h1 h3 (wpAny_pure ?_))
        exact wpAny_bind (k (Q := fun bs s' => wpAny (model prog w) A (pure (its[0]? :: bs)) Q E s') (wpAny_pure h))
open PySem.W in
theorem sortsAt_tup {vs : List Value} {ds : List PyData} (e : EachIs (fun v d => ∃ as, Reads s.heap v d as) vs ds) (hal : AllAlike ds) (ht : ∀ d ∈ ds, ∃ xs, d = .tuple xs) (hu : ∀ d, d ∈ ds → A.units + d.depth < cLine) : SortsAt prog w A s (dataKind s.heap ds) vs := by
  by_cases hf : ∀ d ∈ ds, fullT d = true
  · refine SortsAt.data e hal (.inl fun d hd => ?_) hu
    obtain ⟨xs, rfl⟩ := ht d hd
    cases xs with
    | nil => exact absurd (hf _ hd) (by simp [fullT])
    | cons x xs => exact ⟨x, xs, rfl⟩
  · have room : ∀ {d d' : PyData}, d ∈ ds → A.units + min d.depth d'.depth < cLine := fun {d d'} hd => Nat.lt_of_le_of_lt (Nat.add_le_add_left (Nat.min_le_left _ _) _) (hu d hd)
    refine ⟨fun v hv => ?_, ?_⟩
    · obtain ⟨d, hd, as, r⟩ := e.left v hv
      exact ⟨_, dataKind_some hal hd r⟩
    have lt1 : H.LtAt prog w A s (dataKind s.heap ds) oneType' := by
      intro E x y a b Q ha hb hq
      obtain ⟨d, as, hd, ra, rfl⟩ := dataKind_inv ha
      obtain ⟨d', as', hd', rb, rfl⟩ := dataKind_inv hb
      rw [keyLt'_oneType]
      obtain ⟨xs, rfl⟩ := ht d hd
      obtain ⟨ys, rfl⟩ := ht d' hd'
      exact oneLt_tup ra rb (hal _ hd _ hd') (room hd) hq
    have lt2 : H.LtAt prog w A s (dataKind s.heap ds) general' := by
      intro E x y a b Q ha hb hq
      obtain ⟨d, as, hd, ra, rfl⟩ := dataKind_inv ha
      obtain ⟨d', as', hd', rb, rfl⟩ := dataKind_inv hb
      show wpAny _ _ (oneLt' false x y) _ _ _
      exact oneLt_alike (fun h => by cases h) ra rb (hal d hd d' hd') (by obtain ⟨xs, rfl⟩ := ht d hd; exact fun z => by cases z) (room hd) hq
    have looks : ∀ v ∈ vs, Looks (model prog w) s.heap (typeOf v) (.type "tuple") := fun v hv => by
      obtain ⟨d, hd, as, r⟩ := e.left v hv
      have := looks_reads (M := model prog w) r
      obtain ⟨xs, rfl⟩ := ht d hd
      exact this
    have firsts := fun E => firsts_tup (prog := prog) (w := w) (A := A) (E := E) e ht
    cases hd0 : ds with
    | nil => exact absurd (fun d hd => by rw [hd0] at hd; cases hd) hf
    | cons d0 ds0 =>
      rw [← hd0]
      have kk : ∀ (b : Bool), fullT d0 = b → ∀ (E : Value → Shared → Prop) {Q : SortKind → Shared → Prop}, Q (if b = true then general' else oneType') s → 2 ≤ vs.length → wpAny (model prog w) A (keyKind' vs.toArray) Q E s := fun b hb E Q q h2 => by
        obtain ⟨fs, e1, k⟩ := firsts E
        rw [keyKind'_eq, List.mapM_toArray, map_eq_pure_bind]
        refine wpAny_bind (wpAny_bind (k (wpAny_pure ?_)))
        have ha : (fs.toArray.all fun x => x.isSome) = false := by
          refine Bool.eq_false_iff.mpr fun h => hf fun d hd => ?_
          rw [List.all_toArray, List.all_eq_true] at h
          have m : fullT d ∈ fs.map (·.isSome) := by rw [e1]; exact List.mem_map.mpr ⟨d, hd, rfl⟩
          obtain ⟨o, ho, eo⟩ := List.mem_map.mp m
          rw [← eo]
          exact h o ho
        rw [if_neg (by rw [ha]; decide)]
        cases fs with
        | nil => rw [hd0] at e1; cases e1
        | cons f0 fr =>
          rw [hd0, List.map_cons, List.map_cons] at e1
          have e0 : f0.isSome = b := (List.cons.inj e1).1.trans hb
          have ef : (((f0 :: fr).toArray[0]?.bind id).isSome) = b := by
            rw [← e0]
            rfl
          rw [ef]
          cases b with
          | true =>
            rw [if_pos rfl]
            exact wpAny_pure q
          | false =>
            rw [if_neg (by decide)]
            rw [oneTypeOnly'_eq, List.mapM_toArray, map_eq_pure_bind]
            refine wpAny_bind (wpAny_bind (wpAny_bind (kas_mapM (r := Value.type "tuple") _ (fun v hv Q' hq => (looks v hv).here hq) (wpAny_pure ?_))))
            cases vs with
            | nil => simp at h2
            | cons v0 vr =>
              have hall : ((List.map (fun _ => Value.type "tuple") (v0 :: vr)).toArray.all fun x => x == Value.type "tuple") = true := by
                simp only [List.all_toArray, List.all_map, List.all_eq_true]
                intro _ _
                exact beq_self_eq_true _
              have h0 : (List.map (fun _ => Value.type "tuple") (v0 :: vr)).toArray[0]? = some (Value.type "tuple") := by simp
              rw [h0]
              simp only [hall, if_true]
              exact wpAny_pure (wpAny_pure q)
      cases hb : fullT d0 with
      | true => exact ⟨general', lt2, fun h2 E Q q => kk true hb E q h2⟩
      | false => exact ⟨oneType', lt1, fun h2 E Q q => kk false hb E q h2⟩
end
section
variable {prog : Program} {w : World} {A : Around} {E : Value → Shared → Prop} {s : Shared} {β : Type} {vs : List Value} {bs : List β} {enc : β → PyData} {R : Value → β → Prop}
open PySem.W in
theorem sorted_tups {l : Addr} {Q : Value → Shared → Prop} (hl : s.heap.IsList l vs.toArray) (e : EachIs R vs bs) (er : EachIs (fun v b => ∃ as, Reads s.heap v (enc b) as) vs bs) (hal : AllAlike (bs.map enc)) (ht : ∀ d ∈ bs.map enc, ∃ xs, d = .tuple xs) (hL : bs.length ≤ sizeLine)
    (hu : ∀ b, b ∈ bs → A.units + 2 + (enc b).depth < cLine) (h : ∀ out, out.length = bs.length → EachIs R out (bs.mergeSort (dataLe false enc)) → Q (.ref (s.heap.objs.size + 1)) { s with heap := sortedAll s.heap vs (List.toArray out) }) :
    wpAny (model prog w) A (call (.builtin "sorted") [.ref l]) Q E s := by
  have er' : EachIs (fun v b => ∃ as, Reads (sortingHeap (copyHeap s.heap vs) (s.heap.objs.size + 1) vs) v (enc b) as) vs bs := er.mono fun _ _ ⟨as, r⟩ => ⟨as, PyProof.Rows.Reads.keeps (fun _ _ => sorting_copy_old) r⟩
  exact sorted_vals hl (sortsAt_tup (s := { s with heap := sortingHeap (copyHeap s.heap vs) (s.heap.objs.size + 1) vs }) (each_map (R := fun v d => ∃ as, Reads (sortingHeap (copyHeap s.heap vs) (s.heap.objs.size + 1) vs) v d as) enc er') hal ht (bound_map hu)) (by rw [e.length]; exact hL)
    (h _ (by rw [sortVals_length false rfl]; exact e.length) (sortVals_data false e er' hal))
end
def fSortedU (mm : Bool) : FN := fun ds μ Q => ∃ d xs, ds = [d] ∧ Lr μ d xs ∧ (∀ x ∈ xs, Rs μ x (pyD x) ∧ (pyD x).depth ≤ 50 ∧ ∃ ps, pyD x = .tuple ps) ∧ PySem.W.AllAlike (xs.map pyD) ∧ xs.length ≤ 1000000 ∧ New mm (xs.mergeSort (PySem.W.dataLe false pyD)) μ Q
theorem cd_sortedU {X : Cx} (mm : Bool) (hu : X.A.units + 65 < cLine) : CallR X (.builtin "sorted") (upFN (fSortedU mm)) := fun pins s σ H xs us Q I rx ⟨ds, μ, QD, v, m, ⟨d, ys, e, h1, h2, h3, h5, h6⟩, k⟩ => by
  subst e
  obtain ⟨v1, vs, rfl, r1, e⟩ := v
  rw [show vs = [] from e] at rx
  obtain ⟨u, rfl, ru⟩ := vals1 rx
  obtain ⟨a, zs, rfl, e1, g⟩ := h1.to m r1
  rw [show u = Value.ref a from ru]
  obtain ⟨its, rv, pl, _⟩ := I.list (Or.inl e1)
  refine sorted_tups pl.isList (vals_each g rv) (each_reads I m (fun x hx => (h2 x hx).1) g rv) h3 (fun d hd => ?_) (by rw [sizeLine_eq]; omega) (fun b hb => by have := (h2 b hb).2.1; omega) fun out hl he => ?_
  · obtain ⟨x, hx, rfl⟩ := List.mem_map.mp hd
    exact (h2 x hx).2.2
  obtain ⟨ws, r2, g2⟩ := each_vals he
  obtain ⟨ep, he'⟩ := PyProof.Rows.sortedAll_at s.heap its out.toArray
  have hf := I.hok.fresh (Nat.le_succ s.heap.objs.size)
  refine ⟨.ref _, upd H (s.heap.objs.size + 1) (.lst ws), I.laid (t' := s.toks) (fun _ _ => PyProof.Rows.sortedAll_old) (Nat.le_succ _) ⟨?_, out, ep, r2, he'⟩, rfl, k _ _ (lft_new m g2 hf h6)⟩
  rw [← g2.length, List.length_mergeSort, sizeLine_eq]
  omega
/-- holds in order -/
theorem pyD_ho (h : List Int) : pyD (hoD h) = hoP h := by
  unfold hoD hoP
  rw [pyD]
  congr 1
  induction h with
  | nil => rfl
  | cons x xs ih =>
    rw [List.map_cons, pyDs, ih]
    rfl
end Dl
namespace Dl
open PySem PySem.Spec PyProof.Rows L2
section
variable {C : Addr} {μ : Mu} {S : SC} {da : Addr} {dps : Tb Int}
theorem sum_pos {α : Type} {f : α → Nat} : ∀ {l : List α}, 0 < (l.map f).sum → ∃ x ∈ l, 0 < f x
  | [], h => by cases h
  | x :: l, h => by
    rw [List.map_cons, List.sum_cons] at h
    rcases Nat.eq_zero_or_pos (f x) with c | c
    · obtain ⟨y, hy, hf⟩ := sum_pos (l := l) (f := f) (by omega)
      exact ⟨y, List.mem_cons_of_mem _ hy, hf⟩
    · exact ⟨x, List.mem_cons_self, c⟩
theorem joint_mem {o k n : Int} (h : n ∈ joint o k) : n = o ∨ n = k := by
  unfold joint at h
  split at h
  · exact .inl (List.mem_singleton.mp h)
  · split at h <;> simp only [List.mem_cons, List.not_mem_nil, or_false] at h <;> omega
theorem joint_len {o k : Int} : (joint o k).length ≤ 2 := by
  unfold joint
  split
  · exact Nat.le_succ 1
  · split <;> exact Nat.le_refl _
/-- who holds there is -/
theorem hold_ok (o : OkS S) (q : SlQ S) {x : Th} (m : x ∈ S.ts) {h : List Int} (hh : h ∈ x.ke) : h.length ≤ 2 ∧ ∀ n ∈ h, n ∈ S.ts.map Th.n := by
  have c : 0 < S.cnt x.n h := by
    rw [← o.kept x m h]
    exact List.count_pos_iff.mpr hh
  unfold SC.cnt rowCnt at c
  by_cases hr : 0 < (S.ts.map fun o => slCnt o.n o.sl x.n h).sum
  · obtain ⟨y, hy, hc⟩ := sum_pos hr
    unfold slCnt at hc
    obtain ⟨p, hp, hc2⟩ := sum_pos hc
    have hm := List.count_pos_iff.mp hc2
    have yn : y.n ∈ S.ts.map Th.n := List.mem_map.mpr ⟨y, hy, rfl⟩
    have qk := (q y.n p (by rw [slOf_at o.b.nd hy]; exact hp)).2.2
    obtain ⟨k, r⟩ := p
    cases r with
    | plain v =>
      have e : (x.n, h) = (v, [y.n]) := List.mem_singleton.mp hm
      rw [(Prod.mk.inj e).2]
      exact ⟨Nat.le_succ 1, fun n hn => by rw [List.mem_singleton.mp hn]; exact yn⟩
    | weak v => cases hm
    | keyed j v =>
      have e : (x.n, h) = (v, joint y.n j) := List.mem_singleton.mp hm
      rw [(Prod.mk.inj e).2]
      refine ⟨joint_len, fun n hn => ?_⟩
      rcases joint_mem hn with rfl | rfl
      · exact yn
      · exact qk _ rfl
  · have : h = [] := by
      by_cases e : h = []
      · exact e
      · rw [if_neg e] at c
        omega
    subst this
    exact ⟨by decide, fun n hn => by cases hn⟩
end
end Dl
namespace Dl
open PySem PySem.Spec PyProof.Rows L2
/-! ### holds gathered by thing: a dict of lists that grow -/
structure Hx where
  n : Int
  a : Addr
  hs : List (List Int)
def hxC (d : Addr) (hx : List Hx) : Cells := (d, .dK (hx.map fun x => (.inl x.n, .at x.a))) :: hx.map fun x => (x.a, O.lst (x.hs.map hoD))
def hxAdd (hx : List Hx) (p : Int × List Int) : List Hx := hx.map fun x => if x.n = p.1 then { x with hs := x.hs ++ [p.2] } else x
def hxAdds (hx : List Hx) (ps : List (Int × List Int)) : List Hx := ps.foldl hxAdd hx
def holdsFor (ps : List (Int × List Int)) (n : Int) : List (List Int) := (ps.filter fun p => decide (p.1 = n)).map (·.2)
section
variable {hx : List Hx} {μ : Mu} {d : Addr}
theorem hxAdd_map {β : Type} {g : Hx → β} (h : ∀ x l, g { x with hs := l } = g x) (p : Int × List Int) : (hxAdd hx p).map g = hx.map g := by
  unfold hxAdd
  rw [List.map_map]
  refine List.map_congr_left fun x _ => ?_
  show g (if x.n = p.1 then _ else x) = g x
  split
  · exact h _ _
  · rfl
theorem hxAdds_map {β : Type} {g : Hx → β} (h : ∀ x l, g { x with hs := l } = g x) : ∀ (ps : List (Int × List Int)) (hx : List Hx), (hxAdds hx ps).map g = hx.map g
  | [], _ => rfl
  | p :: ps, hx => (hxAdds_map h ps (hxAdd hx p)).trans (hxAdd_map h p)
theorem hxAdds_app (ps qs : List (Int × List Int)) : hxAdds hx (ps ++ qs) = hxAdds (hxAdds hx ps) qs := List.foldl_append
theorem hxAdds_eq : ∀ (ps : List (Int × List Int)) (hx : List Hx), hxAdds hx ps = hx.map fun x => { x with hs := x.hs ++ holdsFor ps x.n }
  | [], hx => by
    show hx = _
    conv => lhs; rw [← List.map_id hx]
    refine List.map_congr_left fun x _ => ?_
    show x = _
    unfold holdsFor
    simp
  | p :: ps, hx => by
    show hxAdds (hxAdd hx p) ps = _
    rw [hxAdds_eq ps]
    unfold hxAdd
    rw [List.map_map]
    refine List.map_congr_left fun x _ => ?_
    by_cases c : x.n = p.1
    · have e : holdsFor (p :: ps) x.n = p.2 :: holdsFor ps x.n := by
        unfold holdsFor
        rw [List.filter_cons, if_pos (by simpa using c.symm)]
        rfl
      rw [e]
      show ({ (if x.n = p.1 then { x with hs := x.hs ++ [p.2] } else x : Hx) with hs := (if x.n = p.1 then { x with hs := x.hs ++ [p.2] } else x : Hx).hs ++ holdsFor ps (if x.n = p.1 then { x with hs := x.hs ++ [p.2] } else x : Hx).n } : Hx) = _
      rw [if_pos c]
      simp
    · have e : holdsFor (p :: ps) x.n = holdsFor ps x.n := by
        unfold holdsFor
        rw [List.filter_cons, if_neg (by simpa using fun z => c z.symm)]
      rw [e]
      show ({ (if x.n = p.1 then { x with hs := x.hs ++ [p.2] } else x : Hx) with hs := (if x.n = p.1 then { x with hs := x.hs ++ [p.2] } else x : Hx).hs ++ holdsFor ps (if x.n = p.1 then { x with hs := x.hs ++ [p.2] } else x : Hx).n } : Hx) = _
      rw [if_neg c]
theorem hx_foot (hx : List Hx) : foot (hxC d hx) = d :: hx.map Hx.a := by
  unfold foot hxC
  rw [List.map_cons, List.map_map]
  rfl
theorem hx_step (s : Sits μ (hxC d hx)) (nd : (hx.map Hx.n).Nodup) {x : Hx} (m : x ∈ hx) (h : List Int) : Sits (put μ x.a (.lst ((x.hs ++ [h]).map hoD))) (hxC d (hxAdd hx (x.n, h))) := by
  have nda := s.nd
  have e : (hxC d hx).map (·.1) = d :: hx.map Hx.a := hx_foot hx
  rw [e, List.nodup_cons] at nda
  refine s.upd ?_ fun q hq => ?_
  · rw [e, show (hxC d (hxAdd hx (x.n, h))).map (·.1) = d :: (hxAdd hx (x.n, h)).map Hx.a from hx_foot _, hxAdd_map fun _ _ => rfl]
  · unfold hxC at hq
    rcases List.mem_cons.mp hq with rfl | hq
    · right
      refine ⟨?_, fun z => nda.1 (List.mem_map.mpr ⟨x, m, z.symm⟩)⟩
      rw [hxAdd_map (g := fun x : Hx => ((.inl x.n : Key), D.at x.a)) fun _ _ => rfl]
      exact List.mem_cons_self
    · obtain ⟨y, hy, rfl⟩ := List.mem_map.mp hq
      obtain ⟨z, hz, e2⟩ := List.mem_map.mp hy
      by_cases c : z.n = x.n
      · have : z = x := nd_eq nd hz m c
        subst this
        rw [if_pos rfl] at e2
        subst e2
        exact .inl rfl
      · rw [if_neg c] at e2
        subst e2
        refine .inr ⟨List.mem_cons_of_mem _ (List.mem_map.mpr ⟨z, hz, rfl⟩), fun (e3 : z.a = x.a) => c ?_⟩
        rw [nd_eq nda.2 hz m e3]
theorem hx_at {n : Int} (h : n ∈ hx.map Hx.n) : ∃ x ∈ hx, x.n = n := List.mem_map.mp h
end
theorem holdsFor_count (ps : List (Int × List Int)) (n : Int) (h : List Int) : (holdsFor ps n).count h = ps.count (n, h) := by
  unfold holdsFor
  induction ps with
  | nil => rfl
  | cons p ps ih =>
    obtain ⟨m, g⟩ := p
    rw [List.filter_cons, List.count_cons]
    by_cases c : m = n
    · subst c
      rw [if_pos (by simp), List.map_cons, List.count_cons, ih]
      by_cases e : g = h
      · simp [e]
      · simp [e]
    · rw [if_neg (by simpa using c), ih]
      have : ((m, g) == (n, h)) = false := by simp [c]
      rw [this]
      simp
/-! ### a law's own holds -/
def MS.hps (M : MS) : List (Int × List Int) := (M.rs.flatMap fun q => q.2.map fun n => (n, [])) ++ (M.ts.flatMap fun o => o.sl.flatMap fun q => q.2.holds o.n)
theorem sum_perm {α : Type} {f : α → Nat} {l k : List α} (h : l.Perm k) : (l.map f).sum = (k.map f).sum := (h.map f).sum_nat
theorem row_count (n : Int) (h : List Int) : ∀ row : List Int, (row.map fun m => (m, ([] : List Int))).count (n, h) = if h = [] then row.count n else 0
  | [] => by split <;> rfl
  | m :: row => by
    rw [List.map_cons, List.count_cons, row_count n h row]
    by_cases c : h = []
    · subst c
      rw [if_pos rfl, if_pos rfl, List.count_cons]
      by_cases e : m = n
      · simp [e]
      · simp [e]
    · rw [if_neg c, if_neg c]
      have : ((m, ([] : List Int)) == (n, h)) = false := by
        simp only [beq_eq_false_iff_ne, ne_eq, Prod.mk.injEq, not_and]
        exact fun _ z => c z.symm
      rw [this]
      simp
section
variable {M : MS} {S : SC} {B : Nat}
theorem hps_cnt (R : Rl M S) (tm : (M.ts.map MT.n).Nodup) (o : OkS S) (n : Int) (h : List Int) : M.hps.count (n, h) = S.cnt n h := by
  unfold MS.hps SC.cnt rowCnt
  rw [List.count_append, List.count_flatMap, List.count_flatMap]
  congr 1
  · rw [R.rs]
    unfold SC.rws
    rw [List.map_map]
    have e : (List.count (n, h) ∘ fun q : Str × List Int => q.2.map fun m => (m, ([] : List Int))) = fun q => if h = [] then q.2.count n else 0 := by
      funext q
      exact row_count n h q.2
    rw [e]
    split
    · rfl
    · exact sum_zero fun _ _ => rfl
  · have e1 : (M.ts.map (List.count (n, h) ∘ fun o => o.sl.flatMap fun q => q.2.holds o.n)) = M.ts.map fun o => slCnt o.n (S.slOf o.n) n h := by
      refine List.map_congr_left fun x hx => ?_
      show List.count (n, h) _ = _
      rw [List.count_flatMap]
      unfold slCnt
      have p := R.sl x.n
      rw [mslOf_at tm hx] at p
      exact sum_perm (f := fun q : Str × Rw => (q.2.holds x.n).count (n, h)) p
    have e2 : (S.ts.map fun o => slCnt o.n o.sl n h) = S.ts.map fun o => slCnt o.n (S.slOf o.n) n h := by
      refine List.map_congr_left fun x hx => ?_
      rw [slOf_at o.b.nd hx]
    rw [e1, e2]
    have e3 := R.ns
    have e4 : M.ts.map (fun o => slCnt o.n (S.slOf o.n) n h) = (M.ts.map MT.n).map fun i => slCnt i (S.slOf i) n h := by rw [List.map_map]; rfl
    rw [e4, e3, List.map_map]
    rfl
/-- a law's own holds of a thing are those that are kept -/
theorem hps_perm (p : Pr M S B) {x : Th} (m : x ∈ S.ts) : (holdsFor M.hps x.n).Perm x.ke := List.perm_iff_count.mpr fun h => by
  rw [holdsFor_count, hps_cnt p.rl p.mok.tn p.ok.ok, p.ok.ok.kept x m h]
end
/-! ### a list of pairs of a number and a fresh list, while it grows -/
structure Laying (μ μ' : Mu) (L : Addr) (hx : List Hx) (ns : List Int) : Prop where
  nm : hx.map Hx.n = ns
  hs : ∀ g ∈ hx, g.hs = []
  nd : (hx.map Hx.a).Nodup
  new : ∀ g ∈ hx, μ g.a = none ∧ g.a ≠ L
  at_ : ∀ g ∈ hx, μ' g.a = some (.lst [])
  lst : μ' L = some (.lst (hx.map fun x => .tup [.int x.n, .at x.a]))
  oth : ∀ a, a ≠ L → a ∉ hx.map Hx.a → μ' a = μ a
theorem Laying.zero {μ : Mu} {L : Addr} : Laying μ (put μ L (.lst [])) L [] [] := ⟨rfl, (fun _ h => by cases h), List.nodup_nil, (fun _ h => by cases h), (fun _ h => by cases h), put_same, fun a h _ => put_ne h⟩
section
variable {μ μ' : Mu} {L : Addr} {hx : List Hx} {ns : List Int}
theorem Laying.step (w : Laying μ μ' L hx ns) (x : Int) {p : Addr} (hp : μ' p = none) :
    put μ' p (.lst []) L = some (.lst (hx.map fun x => .tup [.int x.n, .at x.a])) ∧ Laying μ (put (put μ' p (.lst [])) L (.lst ((hx.map fun x => .tup [.int x.n, .at x.a]) ++ [.tup [.int x, .at p]]))) L (hx ++ [⟨x, p, []⟩]) (ns ++ [x]) := by
  have pL : p ≠ L := fun e => by
    rw [e, w.lst] at hp
    cases hp
  have pn : p ∉ hx.map Hx.a := fun m => by
    obtain ⟨g, mg, e⟩ := List.mem_map.mp m
    rw [← e, w.at_ g mg] at hp
    cases hp
  have pm : μ p = none := by rw [← w.oth p pL pn]; exact hp
  refine ⟨by rw [put_ne (Ne.symm pL)]; exact w.lst, ?_, ?_, ?_, ?_, ?_, ?_, ?_⟩
  · rw [List.map_append, w.nm]
    rfl
  · intro g mg
    rcases List.mem_append.mp mg with m | m
    · exact w.hs g m
    · cases List.mem_singleton.mp m
      rfl
  · rw [List.map_append, List.nodup_append]
    refine ⟨w.nd, by simp, fun a ha b hb => ?_⟩
    cases List.mem_singleton.mp hb
    exact fun e => pn ((show a = p from e) ▸ ha)
  · intro g mg
    rcases List.mem_append.mp mg with m | m
    · exact w.new g m
    · cases List.mem_singleton.mp m
      exact ⟨pm, pL⟩
  · intro g mg
    rcases List.mem_append.mp mg with m | m
    · rw [put_ne (w.new g m).2, put_ne fun (e : g.a = p) => pn (e ▸ List.mem_map.mpr ⟨g, m, rfl⟩)]
      exact w.at_ g m
    · cases List.mem_singleton.mp m
      rw [put_ne pL, put_same]
  · rw [put_same, List.map_append]
    rfl
  · intro a h1 h2
    rw [List.map_append, List.mem_append, not_or] at h2
    rw [put_ne h1, put_ne fun (e : a = p) => h2.2 (List.mem_singleton.mpr e)]
    exact w.oth a h1 h2.1
theorem Laying.keep (w : Laying μ μ' L hx ns) (hL : μ L = none) : ∀ a o, μ a = some o → μ' a = some o := fun a o h => by
  rw [w.oth a (ne_no h hL) fun m => ?_]
  · exact h
  · obtain ⟨g, mg, rfl⟩ := List.mem_map.mp m
    rw [(w.new g mg).1] at h
    cases h
end
/-! ### holds sorted -/
def sortHo (hs : List (List Int)) : List (List Int) := hs.mergeSort fun a b => PySem.W.dataLe false pyD (hoD a) (hoD b)
theorem sortHo_perm (hs : List (List Int)) : (sortHo hs).Perm hs := List.mergeSort_perm _ _
theorem rd_sortedHoS {μ : Mu} {Q : DQ} {m : Bool} {d : D} {hs : List (List Int)} (h : Lr μ d (hs.map hoD)) (hl : hs.length ≤ 1000000) (q : New m ((sortHo hs).map hoD) μ Q) : fSortedU m [d] μ Q := by
  refine ⟨d, hs.map hoD, rfl, h, fun x hx => ?_, ?_, by rw [List.length_map]; exact hl, ?_⟩
  · obtain ⟨g, _, rfl⟩ := List.mem_map.mp hx
    rw [pyD_ho]
    exact ⟨rs_ho g, by rw [depth_ho]; decide, _, rfl⟩
  · intro d1 h1 d2 h2
    simp only [List.map_map, List.mem_map, Function.comp] at h1 h2
    obtain ⟨g1, _, rfl⟩ := h1
    obtain ⟨g2, _, rfl⟩ := h2
    rw [pyD_ho, pyD_ho]
    unfold hoP
    rw [PySem.W.alike]
    exact PySem.W.alike_ints g1 g2
  · rw [← List.map_mergeSort (r := fun a b => PySem.W.dataLe false pyD (hoD a) (hoD b)) (s := PySem.W.dataLe false pyD) (f := hoD) fun a _ b _ => rfl]
    exact q
end Dl
namespace Dl
open PySem PySem.Spec PyProof.Rows L2
variable {B : Bs}
/-! ### a dict walked by a statement, locked meanwhile -/
def shutL (p : Addr) (o : Obj) (ks : List (Key × V)) (kvs : List (Key × D)) (DD : Ed) : Ed where
  nx := fun ρ μ => μ p = some (.fz o ks kvs) ∧ DD.nx ρ (put μ p (.dK kvs))
  rt := fun d μ => μ p = some (.fz o ks kvs) ∧ DD.rt d (put μ p (.dK kvs))
  bk := fun ρ μ => μ p = some (.fz o ks kvs) ∧ DD.bk ρ (put μ p (.dK kvs))
  ct := fun ρ μ => μ p = some (.fz o ks kvs) ∧ DD.ct ρ (put μ p (.dK kvs))
def wLockS (w : WS) : WS := fun DD ρ μ => ∃ p kvs, μ p = some (.dK kvs) ∧ ∀ o ks, w (shutL p o ks kvs DD) ρ (put μ p (.fz o ks kvs))
theorem js_lock {X : Cx} {st : Stmt} {w : WS} (h : JS B X st w) : JS B X st (wLockS w) := PS.of (ps_lock h) fun E σ H ⟨ρ, μ, DD, rs, m, ⟨p, kvs, hp, h⟩, l⟩ => by
  obtain ⟨ks, e1, kd⟩ := m p _ hp
  refine ⟨p, .dK ks, e1, True.intro, fun od => ?_⟩
  have st : Step (MD μ) H (MD (put μ p (.fz od ks kvs))) (upd H p (.frz od (.dK ks))) := .write ⟨_, hp⟩
  have back : ∀ (μ1 : Mu) (H1 : Hp), Step (MD (put μ p (.fz od ks kvs))) (upd H p (.frz od (.dK ks))) (MD μ1) H1 → MH μ1 H1 → μ1 p = some (.fz od ks kvs) → H1 p = some (.frz od (.dK ks)) ∧ Step (MD μ) H (MD (put μ1 p (.dK kvs))) (upd H1 p (.dK ks)) ∧ MH (put μ1 p (.dK kvs)) (upd H1 p (.dK ks)) ∧ Step (MD μ1) H1 (MD (put μ1 p (.dK kvs))) (upd H1 p (.dK ks)) := fun μ1 H1 s1 m1 h1 => by
    obtain ⟨e2, kd2⟩ := m1 p _ h1
    have st2 : Step (MD μ1) H1 (MD (put μ1 p (.dK kvs))) (upd H1 p (.dK ks)) := .write ⟨_, h1⟩
    exact ⟨e2, (st.trans s1).trans st2, m1.write ⟨_, h1⟩ ⟨_, upd_same, KD.step st2 kd2⟩, st2⟩
  refine ⟨ρ, _, _, rs.step st, m.write ⟨_, hp⟩ ⟨upd_same, KD.step st kd⟩, h od ks, ⟨?_, ?_, ?_, ?_⟩⟩
  · rintro σ1 H1 ρ1 μ1 s1 r1 m1 ⟨h1, q1⟩
    obtain ⟨a1, a2, a3, a4⟩ := back μ1 H1 s1 m1 h1
    exact ⟨a1, l.nx _ _ _ _ a2 (r1.step a4) a3 q1⟩
  · rintro v H1 d μ1 s1 m1 v1 ⟨h1, q1⟩
    obtain ⟨a1, a2, a3, a4⟩ := back μ1 H1 s1 m1 h1
    exact ⟨a1, l.rt _ _ _ _ a2 a3 (VD.step a4 _ _ v1) q1⟩
  · rintro σ1 H1 ρ1 μ1 s1 r1 m1 ⟨h1, q1⟩
    obtain ⟨a1, a2, a3, a4⟩ := back μ1 H1 s1 m1 h1
    exact ⟨a1, l.bk _ _ _ _ a2 (r1.step a4) a3 q1⟩
  · rintro σ1 H1 ρ1 μ1 s1 r1 m1 ⟨h1, q1⟩
    obtain ⟨a1, a2, a3, a4⟩ := back μ1 H1 s1 m1 h1
    exact ⟨a1, l.ct _ _ _ _ a2 (r1.step a4) a3 q1⟩
/-! ### holds gathered -/
structure Gath (d : Addr) (hx : List Hx) (μ : Mu) (ps : List (Int × List Int)) (μ' : Mu) : Prop where
  s : Sits μ' (hxC d (hxAdds hx ps))
  sm : Same (foot (hxC d hx)) μ μ'
section
variable {d : Addr} {hx : List Hx} {μ μ' : Mu} {ps : List (Int × List Int)}
theorem gath_foot : foot (hxC d (hxAdds hx ps)) = foot (hxC d hx) := by
  rw [hx_foot, hx_foot, hxAdds_map fun _ _ => rfl]
theorem gath_ns : (hxAdds hx ps).map Hx.n = hx.map Hx.n := hxAdds_map (fun _ _ => rfl) _ _
theorem Gath.zero (s : Sits μ (hxC d hx)) : Gath d hx μ [] μ := ⟨s, Same.refl _ _⟩
theorem Gath.step (g : Gath d hx μ ps μ') (nd : (hx.map Hx.n).Nodup) {n : Int} (hn : n ∈ hx.map Hx.n) (h : List Int) : ∃ x ∈ hxAdds hx ps, x.n = n ∧ Gath d hx μ (ps ++ [(n, h)]) (put μ' x.a (.lst ((x.hs ++ [h]).map hoD))) := by
  have hn' : n ∈ (hxAdds hx ps).map Hx.n := by rw [gath_ns]; exact hn
  obtain ⟨x, hx', rfl⟩ := hx_at hn'
  refine ⟨x, hx', rfl, ?_, g.sm.trans (.put ?_)⟩
  · rw [hxAdds_app]
    exact hx_step g.s (by rw [gath_ns]; exact nd) hx' h
  · rw [← gath_foot (ps := ps), hx_foot]
    exact List.mem_cons_of_mem _ (List.mem_map.mpr ⟨x, hx', rfl⟩)
/-- with something else put otherwise -/
theorem Gath.off (g : Gath d hx μ ps μ') {a : Addr} {o : O} (h : a ∉ foot (hxC d hx)) : Gath d hx (put μ a o) ps (put μ' a o) :=
  ⟨g.s.put (by rw [gath_foot]; exact h), fun b hb => by
    by_cases c : b = a
    · rw [c, put_same, put_same]
    · rw [put_ne c, put_ne c]
      exact g.sm b hb⟩
theorem Gath.len (g : Gath d hx μ ps μ') {x : Hx} (m : x ∈ hxAdds hx ps) (h0 : ∀ x ∈ hx, x.hs = []) : x.hs.length ≤ ps.length := by
  rw [hxAdds_eq] at m
  obtain ⟨y, hy, rfl⟩ := List.mem_map.mp m
  show (y.hs ++ holdsFor ps y.n).length ≤ _
  rw [h0 y hy, List.nil_append]
  unfold holdsFor
  rw [List.length_map]
  exact List.length_filter_le _ _
end
/-! ### depths -/
def MS.dps (M : MS) : Tb Int := M.ts.map fun x => (x.n, x.dp)
section
variable {M : MS} {S : SC} {b : Nat} {C : Addr} {μ : Mu}
theorem dps_ns : M.dps.map (·.1) = M.ts.map MT.n := by
  unfold MS.dps
  rw [List.map_map]
  rfl
theorem dps_add {x : MT} (h : x.n ∉ M.ts.map MT.n) : putI M.dps x.n x.dp = (M.addT x).dps := by
  unfold putI
  rw [if_neg]
  · unfold MS.addT MS.dps
    rw [List.map_append]
    rfl
  · intro e
    obtain ⟨q, hq, e⟩ := List.any_eq_true.mp e
    refine h ?_
    rw [← dps_ns]
    exact List.mem_map.mpr ⟨q, hq, by simpa using e⟩
theorem OkS.setX (o : OkS S) {xc : Cells} : OkS (S.setX xc) := ⟨o.many, o.srt, o.rows, o.refs, o.sln, o.kept⟩
theorem OkN.setX (o : OkN S b) {xc : Cells} : OkN (S.setX xc) b := ⟨o.ok.setX, o.hn, o.kl, o.rl, o.sl, o.tl, o.hl, o.nm, o.m0, o.m1⟩
theorem Pr.setX (p : Pr M S b) {xc : Cells} : Pr M (S.setX xc) b := ⟨⟨p.rl.rs, p.rl.many, p.rl.ths, p.rl.sl⟩, p.ok.setX, p.q, p.ws, p.fx, p.h0, p.ns, p.n0, p.nl⟩
def dpsAfter (dps : Tb Int) (many : Int) : Dd → Tb Int
  | .make _ _ => putI dps many 1
  | _ => dps
/-- a deed in a sea -/
def SC.didS (S : SC) (y : Th) (dd : Dd) (da : Addr) (dps : Tb Int) : SC := (S.did y dd).setX [(da, .dK (enc kI (dpsAfter dps S.many dd)))]
end
/-! ### a sea and a law's model of it -/
structure WdS (C : Addr) (μb μ : Mu) (M : MS) (S : SC) (da : Addr) (b : Nat) (e : Int) : Prop where
  w : Wd C μb μ M S b
  sea : SeaS S da M.dps
  d1 : ∀ x ∈ M.ts, 1 ≤ x.dp
  d2 : ∀ x ∈ M.ts, x.dp ≤ e
section
variable {C : Addr} {μb μ μ1 μ2 : Mu} {M M1 : MS} {S S' : SC} {da : Addr} {b b' : Nat} {e : Int}
theorem WdS.mono (w : WdS C μb μ M S da b e) {e' : Int} (h : e ≤ e') : WdS C μb μ M S da b e' := ⟨w.w, w.sea, w.d1, fun x m => Int.le_trans (w.d2 x m) h⟩
theorem WdS.tn (w : WdS C μb μ M S da b e) : (M.ts.map MT.n).Nodup := w.w.pr.mok.tn
theorem dps_note {a : Addr} {dd : Dd} (hm : M.many ∉ M.ts.map MT.n) : (M.note a dd).dps = dpsAfter M.dps M.many dd := by
  cases dd with
  | make h w => exact (dps_add (x := ⟨M.many, a, [], w, 1⟩) hm).symm
  | fill h o k r => exact modT_mapM (g := fun x : MT => (x.n, x.dp)) fun _ => rfl
  | empty h o k => exact modT_mapM (g := fun x : MT => (x.n, x.dp)) fun _ => rfl
  | take h o k => rfl
  | give h x t => rfl
  | drop h x => rfl
theorem dp_note {a : Addr} {dd : Dd} {x : MT} (m : x ∈ (M.note a dd).ts) : x.dp = 1 ∨ ∃ y ∈ M.ts, y.dp = x.dp := by
  cases dd with
  | make h w =>
    rcases List.mem_append.mp (show x ∈ M.ts ++ [⟨M.many, a, [], w, 1⟩] from m) with z | z
    · exact .inr ⟨x, z, rfl⟩
    · cases List.mem_singleton.mp z
      exact .inl rfl
  | fill h o k r =>
    obtain ⟨y, hy, rfl⟩ := List.mem_map.mp m
    exact .inr ⟨y, hy, by split <;> rfl⟩
  | empty h o k =>
    obtain ⟨y, hy, rfl⟩ := List.mem_map.mp m
    exact .inr ⟨y, hy, by split <;> rfl⟩
  | take h o k => exact .inr ⟨x, m, rfl⟩
  | give h y t => exact .inr ⟨x, m, rfl⟩
  | drop h y => exact .inr ⟨x, m, rfl⟩
/-- a deed is done in both -/
theorem WdS.did (w : WdS C μb μ M S da b e) (he : 1 ≤ e) {dd : Dd} (ok : dd.Ok M.rs) (rm : dd.Rm M.rs M.slOf M.ts.length) {a : Addr} {y : Th} (ny : NewTh S.many y dd) (hm : S.many < 100000)
    (s1 : MSt μ1 (M.note a dd)) (t1 : Stp (foot M.cells) (foot (M.note a dd).cells) μ μ1) (s2 : St C μ2 (S.didS y dd da M.dps)) (t2 : Stp (foot (S.cells C)) (foot ((S.didS y dd da M.dps).cells C)) μ1 μ2) :
    WdS C μb μ2 (M.note a dd) (S.didS y dd da M.dps) da (b + 1) e ∧ toldBy M.many M.slOf dd = toldBy S.many S.slOf dd ∧ (S.didS y dd da M.dps).many ≤ S.many + 1 ∧ (S.didS y dd da M.dps).t = S.t := by
  obtain ⟨p2, et, em⟩ := w.w.pr.next ok rm (a := a) ny hm
  have mno : M.many ∉ M.ts.map MT.n := fun m => by
    obtain ⟨x, hx, z⟩ := mth_of m
    have := w.w.pr.mok.lt x hx
    omega
  refine ⟨⟨w.w.next s1 t1 s2 t2 p2.setX, ⟨fx_did.1.trans w.sea.fx, ?_, ?_⟩, fun x m => ?_, fun x m => ?_⟩, et, em, fx_did.2⟩
  · rw [dps_note mno, w.w.pr.rl.many]
    rfl
  · rw [dps_ns, p2.rl.ns]
    rfl
  · rcases dp_note m with z | ⟨y, hy, z⟩
    · omega
    · have := w.d1 y hy
      omega
  · rcases dp_note m with z | ⟨y, hy, z⟩
    · omega
    · have := w.d2 y hy
      omega
end
end Dl
namespace Dl
open PySem PySem.Spec PyProof.Rows L2
/-- an owner and a key, each once, rising -/
theorem joint_of {o k : Int} {out : List Int} (h : out.Pairwise (· < ·)) (m : ∀ x, x ∈ out ↔ x ∈ [o, k]) : out = joint o k := by
  have h1 : (joint o k).Pairwise (· < ·) := by
    unfold joint
    split
    · simp
    · split
      · simp; omega
      · simp; omega
  have m1 : ∀ x, x ∈ joint o k ↔ x ∈ [o, k] := fun x => by
    unfold joint
    split
    · rename_i e
      subst e
      simp
    · split
      · simp
      · simp
        exact or_comm
  have p : out.Perm (joint o k) := (List.perm_ext_iff_of_nodup (h.imp fun z => Int.ne_of_lt z) (h1.imp fun z => Int.ne_of_lt z)).mpr fun x => (m x).trans (m1 x).symm
  exact List.Perm.eq_of_pairwise (le := (· < ·)) (fun a b _ _ x y => absurd (Int.lt_trans x y) (Int.lt_irrefl _)) h h1 p
/-- a comprehension whose list may be changed later -/
theorem lc_mapA {α : Type} {g : WG} {t : WT} {a : WE} {vs : List Nat} {ρ : Rho} {Q : DQ} {kp : Mu → Prop} {μ1 : Mu} {f h : α → D} {xs : List α} (sz : xs.length ≤ 1000000) (hk : ∀ L acc, μ1 L = none → kp (put μ1 L (.lst acc)))
    (hs : ∀ x ∈ xs, ∀ L acc (K1 : DQ) (K2 : Mu → Prop), μ1 L = none → K1 (h x) (put μ1 L (.lst acc)) → g (f x) (wipeD ρ vs) (put μ1 L (.lst acc)) fun ρ2 μ2 => t ρ2 μ2 fun b μ3 => Br b (a ρ2 μ3 K1) (K2 μ3))
    (hd : ∀ L, μ1 L = none → Q (.at L) (put μ1 L (.lst (xs.map h)))) : LcB g t a vs ρ Q (xs.map f) kp μ1 := by
  refine ⟨by rw [List.length_map]; exact sz, fun L hL => ⟨fun i μ => μ = put μ1 L (.lst ((xs.take i).map h)), rfl, ?_, ?_, ?_⟩⟩
  · rintro i μ hi rfl
    exact hk L _ hL
  · rintro i d μ hd rfl
    obtain ⟨x, hx, ex, rfl⟩ := map_get hd
    refine hs x hx L _ _ _ hL ⟨_, put_same, ?_, ?_⟩
    · rw [List.length_map, List.length_take]
      omega
    · show put (put μ1 L _) L _ = put μ1 L _
      rw [put_put, List.take_succ, ex, List.map_append]
      rfl
  · rintro μ rfl
    rw [List.length_map, List.take_length]
    exact wkR.same (hd L hL)
/-! ### a law's own holds, told -/
def MS.hs (M : MS) (n : Int) : List (List Int) := sortHo (holdsFor M.hps n)
section
variable {M : MS} {S : SC} {b : Nat}
theorem hs_perm (p : Pr M S b) {x : Th} (m : x ∈ S.ts) : (M.hs x.n).Perm x.ke := (sortHo_perm _).trans (hps_perm p m)
theorem hs_ok (p : Pr M S b) {n : Int} (m : n ∈ M.ts.map MT.n) {h : List Int} (hh : h ∈ M.hs n) : h.length ≤ 2 ∧ ∀ n ∈ h, n ∈ M.ts.map MT.n := by
  rw [p.rl.ns] at m ⊢
  obtain ⟨x, hx, rfl⟩ := th_of m
  exact hold_ok p.ok.ok p.q hx ((hs_perm p hx).mem_iff.mp hh)
end
end Dl
namespace Dl
open PySem PySem.Spec PyProof.Rows L2
theorem rows_len : ∀ {l : List (Str × List Int)}, (∀ q ∈ l, q.2.length ≤ 30) → (l.flatMap fun q => q.2.map fun n => (n, ([] : List Int))).length ≤ 30 * l.length
  | [], _ => Nat.le_refl _
  | q :: l, h => by
    rw [List.flatMap_cons, List.length_append, List.length_map, List.length_cons]
    have h1 := h q List.mem_cons_self
    have h2 := rows_len (l := l) fun x hx => h x (List.mem_cons_of_mem _ hx)
    omega
theorem slot_len {o : Int} : ∀ l : List (Str × Rw), (l.flatMap fun q => q.2.holds o).length ≤ l.length
  | [] => Nat.le_refl _
  | q :: l => by
    rw [List.flatMap_cons, List.length_append, List.length_cons]
    have h2 := slot_len (o := o) l
    have h1 : (q.2.holds o).length ≤ 1 := by
      rcases holds_le (o := o) (r := q.2) with e | ⟨p, e⟩
      · rw [e]; decide
      · rw [e]; exact Nat.le_refl _
    omega
theorem slots_len : ∀ {l : List MT}, (∀ x ∈ l, x.sl.length ≤ 8) → (l.flatMap fun o => o.sl.flatMap fun q => q.2.holds o.n).length ≤ 8 * l.length
  | [], _ => Nat.le_refl _
  | x :: l, h => by
    rw [List.flatMap_cons, List.length_append, List.length_cons]
    have h1 := h x List.mem_cons_self
    have h2 := slots_len (l := l) fun x hx => h x (List.mem_cons_of_mem _ hx)
    have h3 := slot_len (o := x.n) x.sl
    omega
end Dl
namespace Dl
open PySem PySem.Spec PyProof.Rows L2
/-! ### deeds of the right kinds, had or not -/
end Dl
namespace Dl
open PySem PySem.Spec PyProof.Rows L2
section
variable {C : Addr} {μb μb' μ μ1 μ2 : Mu} {M M1 : MS} {S S' : SC} {da : Addr} {b b' : Nat} {e : Int}
theorem Pr.mono (p : Pr M S b) (h : b ≤ b') : Pr M S b' := ⟨p.rl, p.ok.mono h, p.q, p.ws, p.fx, p.h0, p.ns, p.n0, p.nl⟩
theorem Wd.mono (w : Wd C μb μ M S b) (h : b ≤ b') : Wd C μb μ M S b' := ⟨w.st, w.ms, w.pr.mono h, w.sep, w.kp, w.fs, w.fm⟩
/-- told from an earlier start -/
theorem Wd.base (w : Wd C μb' μ M S b) (h : ∀ a o, μb a = some o → μb' a = some o) : Wd C μb μ M S b := by
  have no : ∀ a, μb' a = none → μb a = none := fun a z => by
    cases c : μb a with
    | none => rfl
    | some o => rw [h a o c] at z; cases z
  exact ⟨w.st, w.ms, w.pr, w.sep, fun a o c => w.kp a o (h a o c), fun a m => no a (w.fs a m), fun a m => no a (w.fm a m)⟩
/-- something new beside -/
theorem Wd.new (w : Wd C μb μ M S b) {a : Addr} {o : O} (h : μ a = none) : Wd C μb (put μ a o) M S b :=
  ⟨w.st.new h, w.ms.sits' h o, w.pr, w.sep, fun x u c => by rw [put_ne (ne_no (w.kp x u c) h)]; exact w.kp x u c, w.fs, w.fm⟩
theorem WdS.base (w : WdS C μb' μ M S da b e) (h : ∀ a o, μb a = some o → μb' a = some o) : WdS C μb μ M S da b e := ⟨w.w.base h, w.sea, w.d1, w.d2⟩
theorem WdS.new (w : WdS C μb μ M S da b e) {a : Addr} {o : O} (h : μ a = none) : WdS C μb (put μ a o) M S da b e := ⟨w.w.new h, w.sea, w.d1, w.d2⟩
theorem WdS.init (w : Wd C μb μ M S 0) (h : SeaS S da []) (e2 : M.ts = []) : WdS C μb μ M S da 0 1 :=
  ⟨w, by rw [show M.dps = [] from by unfold MS.dps; rw [e2]; rfl]; exact h, fun x m => (by rw [e2] at m; cases m), fun x m => (by rw [e2] at m; cases m)⟩
theorem note_rs {a : Addr} (dd : Dd) : (M.note a dd).rs.map (·.1) = M.rs.map (·.1) := by
  cases dd with
  | make h w => exact updR_names (rs := M.rs) (h := h) (f := (· ++ [M.many]))
  | fill h o k r => rfl
  | empty h o k => rfl
  | take h o k => exact updR_names (rs := M.rs) (h := h) (f := (· ++ [valOf (M.slOf o) k]))
  | give h x t => exact (updR_names (rs := updR M.rs h (woLast · x)) (h := t) (f := (· ++ [x]))).trans updR_names
  | drop h x => exact updR_names (rs := M.rs) (h := h) (f := (woLast · x))
end
end Dl
namespace Dl
open PySem PySem.Spec PyProof.Rows L2
variable {B : Bs}
/-! ### d[k] = .. as one of several targets -/
def f3Dic : F3 := fun d e v μ Q => PutD μ d e v Q
/-! ### other models: what they keep under which name is told by fl -/
structure Fl (fl : MS → List (Key × D)) : Prop where
  rows : ∀ M, atD (fl M) (.inr "rows") = some (.at M.mr)
  slots : ∀ M, atD (fl M) (.inr "slots") = some (.at M.ms)
  made : ∀ M, atD (fl M) (.inr "made") = some (.int M.many)
  put : ∀ M j, putD (fl M) (.inr "made") (.int j) = fl { M with many := j }
  len : ∀ M, (fl M).length ≤ 1000
  dep : ∀ M M', M.mr = M'.mr → M.ms = M'.ms → M.many = M'.many → M.names = M'.names → M.rs.map (·.1) = M'.rs.map (·.1) → fl M = fl M'
def gells (fl : MS → List (Key × D)) (M : MS) : Cells := (M.m, .dK (fl M)) :: (M.mr, .dK (M.rs.map rwD)) :: (M.ms, .dK M.dS) :: M.ts.map fun x => (x.a, O.dK (slK x.sl))
abbrev GSt (fl : MS → List (Key × D)) (μ : Mu) (M : MS) : Prop := Sits μ (gells fl M)
section
variable {fl : MS → List (Key × D)} {μ μ1 : Mu} {M : MS} {T : D → Prop} {R : Option D → Prop}
theorem gfoot_eq : foot (gells fl M) = M.m :: M.mr :: M.ms :: M.ts.map MT.a := by
  simp only [foot, gells, List.map_cons, List.map_map]
  rfl
theorem GSt.m_ (s : GSt fl μ M) : μ M.m = some (.dK (fl M)) := s.at_ (M.m, _) (by simp [gells])
theorem GSt.mr_ (s : GSt fl μ M) : μ M.mr = some (.dK (M.rs.map rwD)) := s.at_ (M.mr, _) (by simp [gells])
theorem GSt.ms_ (s : GSt fl μ M) : μ M.ms = some (.dK M.dS) := s.at_ (M.ms, _) (by simp [gells])
theorem GSt.sl_ (s : GSt fl μ M) {x : MT} (h : x ∈ M.ts) : μ x.a = some (.dK (slK x.sl)) := s.at_ (x.a, _) (by
  simp only [gells, List.mem_cons, List.mem_map]
  exact .inr (.inr (.inr ⟨x, h, rfl⟩)))
theorem rd_gAt {k : Str} {v : D} (s : GSt fl μ M) (e : atD (fl M) (.inr k) = some v) (q : T v) : ∃ v, GetD μ (.at M.m) (.str k) (some v) ∧ T v := ⟨_, .inl ⟨fl M, .inr k, .inl (GSt.m_ s), rfl, e.symm⟩, q⟩
theorem rd_gRow (s : GSt fl μ M) (hn : (M.rs.map (·.1)).Nodup) {h : Str} {row : List Int} (m : (h, row) ∈ M.rs) (q : T (.lst (row.map .int))) : ∃ v, GetD μ (.at M.mr) (.str h) (some v) ∧ T v :=
  ⟨_, .inl ⟨M.rs.map rwD, .inr h, .inl (GSt.mr_ s), rfl, (at_in (κ := Key) (f := fun q : Str × List Int => Sum.inr q.1) (g := fun q => D.lst (q.2.map .int)) (nodup_inr hn) m).symm⟩, q⟩
theorem rd_gSl (s : GSt fl μ M) (tn : (M.ts.map MT.n).Nodup) {x : MT} (m : x ∈ M.ts) (q : T (.at x.a)) : ∃ v, GetD μ (.at M.ms) (.int x.n) (some v) ∧ T v :=
  ⟨_, .inl ⟨M.dS, .inl x.n, .inl (GSt.ms_ s), rfl, (at_in (f := fun x : MT => (Sum.inl x.n : Key)) (g := fun x => D.at x.a) (nodup_inl tn) m).symm⟩, q⟩
theorem GSt.nd_ (s : GSt fl μ M) : (M.m :: M.mr :: M.ms :: M.ts.map MT.a).Nodup := by
  have := s.nd
  rw [show (gells fl M).map (·.1) = foot (gells fl M) from rfl, gfoot_eq] at this
  exact this
theorem gin_m : M.m ∈ foot (gells fl M) ∧ M.mr ∈ foot (gells fl M) ∧ M.ms ∈ foot (gells fl M) := by
  rw [gfoot_eq]
  simp
theorem gin_a {x : MT} (h : x ∈ M.ts) : x.a ∈ foot (gells fl M) := by
  rw [gfoot_eq]
  simp only [List.mem_cons]
  exact .inr (.inr (.inr (List.mem_map.mpr ⟨x, h, rfl⟩)))
theorem GSt.updRow (s : GSt fl μ M) (F : Fl fl) {h : Str} {f : List Int → List Int} : GSt fl (put μ M.mr (.dK ((updR M.rs h f).map rwD))) (M.updRow h f) := by
  have nd := GSt.nd_ s
  simp only [List.nodup_cons, List.mem_cons, not_or] at nd
  have ef : fl (M.updRow h f) = fl M := F.dep _ _ rfl rfl rfl rfl updR_names
  refine s.upd (by show foot _ = foot _; rw [gfoot_eq, gfoot_eq]; rfl) fun q hq => ?_
  unfold gells at hq
  rw [ef] at hq
  simp only [List.mem_cons, List.mem_map] at hq
  rcases hq with rfl | rfl | rfl | ⟨x, hx, rfl⟩
  · exact .inr ⟨List.mem_cons_self, nd.1.1⟩
  · exact .inl rfl
  · exact .inr ⟨by unfold gells; simp only [List.mem_cons]; exact .inr (.inr (.inl rfl)), fun e => nd.2.1.1 e.symm⟩
  · refine .inr ⟨?_, fun e => nd.2.1.2 (by rw [← e]; exact List.mem_map.mpr ⟨x, hx, rfl⟩)⟩
    simp only [gells, List.mem_cons, List.mem_map]
    exact .inr (.inr (.inr ⟨x, hx, rfl⟩))
theorem GSt.modSl (s : GSt fl μ M) (F : Fl fl) (tn : (M.ts.map MT.n).Nodup) {x : MT} (hx : x ∈ M.ts) (f : List (Str × Rw) → List (Str × Rw)) : GSt fl (put μ x.a (.dK (slK (f x.sl)))) (M.modT x.n fun y => { y with sl := f y.sl }) := by
  have nd := GSt.nd_ s
  simp only [List.nodup_cons, List.mem_cons, not_or] at nd
  have ia : x.a ∈ M.ts.map MT.a := List.mem_map.mpr ⟨x, hx, rfl⟩
  have e1 : ∀ {β : Type} {g : MT → β}, (∀ y : MT, g { y with sl := f y.sl } = g y) → (M.modT x.n fun y => { y with sl := f y.sl }).ts.map g = M.ts.map g := fun h => modT_mapM h
  have ef : fl (M.modT x.n fun y => { y with sl := f y.sl }) = fl M := F.dep _ _ rfl rfl rfl rfl rfl
  refine s.upd ?_ fun q hq => ?_
  · show foot _ = foot _
    rw [gfoot_eq, gfoot_eq, e1 (g := MT.a) fun _ => rfl]
    rfl
  · unfold gells at hq
    rw [ef, show (M.modT x.n fun y => { y with sl := f y.sl }).dS = M.dS from e1 fun _ => rfl] at hq
    simp only [List.mem_cons, List.mem_map] at hq
    rcases hq with rfl | rfl | rfl | ⟨y, hy, rfl⟩
    · exact .inr ⟨List.mem_cons_self, fun e => nd.1.2.2 (by rw [show M.m = x.a from e]; exact ia)⟩
    · exact .inr ⟨by unfold gells; simp only [List.mem_cons]; exact .inr (.inl rfl), fun e => nd.2.1.2 (by rw [show M.mr = x.a from e]; exact ia)⟩
    · exact .inr ⟨by unfold gells; simp only [List.mem_cons]; exact .inr (.inr (.inl rfl)), fun e => nd.2.2.1 (by rw [show M.ms = x.a from e]; exact ia)⟩
    · obtain ⟨z, hz, rfl⟩ := List.mem_map.mp hy
      by_cases c : z.n = x.n
      · have := nd_eq tn hz hx c
        subst this
        left
        rw [if_pos rfl]
      · rw [if_neg c]
        refine .inr ⟨?_, fun e => c (by rw [nd_eq nd.2.2.2 hz hx e])⟩
        simp only [gells, List.mem_cons, List.mem_map]
        exact .inr (.inr (.inr ⟨z, hz, rfl⟩))
theorem GSt.addT (s : GSt fl μ M) {x : MT} (hx : μ x.a = none) (oth : ∀ b, b ≠ M.m → b ≠ M.ms → b ≠ x.a → μ1 b = μ b) (e1 : μ1 M.m = some (.dK (fl (M.addT x)))) (e2 : μ1 M.ms = some (.dK (M.addT x).dS)) (e5 : μ1 x.a = some (.dK (slK x.sl))) : GSt fl μ1 (M.addT x) := by
  have nd := GSt.nd_ s
  have f1 := s.fresh hx
  rw [gfoot_eq] at f1
  have p : (foot (gells fl (M.addT x))).Perm (x.a :: foot (gells fl M)) := by
    rw [gfoot_eq, gfoot_eq]
    simp only [MS.addT, List.map_append, List.map_cons, List.map_nil]
    refine List.perm_iff_count.mpr fun a => ?_
    simp only [List.count_cons, List.count_append, List.count_nil]
    omega
  refine ⟨fun q hq => ?_, ?_⟩
  · simp only [gells, List.mem_cons, List.mem_map] at hq
    simp only [List.nodup_cons, List.mem_cons, not_or] at nd f1
    rcases hq with rfl | rfl | rfl | ⟨y, hy, rfl⟩
    · exact e1
    · show μ1 M.mr = _
      rw [oth M.mr (Ne.symm nd.1.1) nd.2.1.1 (Ne.symm f1.2.1)]
      exact GSt.mr_ s
    · exact e2
    · rcases List.mem_append.mp (show y ∈ M.ts ++ [x] from hy) with hy | hy
      · have iy : y.a ∈ M.ts.map MT.a := List.mem_map.mpr ⟨y, hy, rfl⟩
        show μ1 y.a = _
        rw [oth y.a (fun e => nd.1.2.2 (e ▸ iy)) (fun e => nd.2.2.1 (e ▸ iy)) fun e => f1.2.2.2 (e ▸ iy)]
        exact GSt.sl_ s hy
      · cases List.mem_singleton.mp hy
        exact e5
  · show (foot (gells fl (M.addT x))).Nodup
    rw [p.nodup_iff, List.nodup_cons, gfoot_eq]
    exact ⟨f1, nd⟩
theorem gfoot_updRow {h : Str} {f : List Int → List Int} : foot (gells fl (M.updRow h f)) = foot (gells fl M) := by
  rw [gfoot_eq, gfoot_eq]
  rfl
theorem gfoot_modSl {n : Int} {f : List (Str × Rw) → List (Str × Rw)} : foot (gells fl (M.modT n fun y => { y with sl := f y.sl })) = foot (gells fl M) := by
  rw [gfoot_eq, gfoot_eq, modT_mapM (g := MT.a) (f := fun y => { y with sl := f y.sl }) fun _ => rfl]
  rfl
theorem gfoot_addT {x : MT} {b : Addr} (m : b ∈ foot (gells fl (M.addT x))) : b ∈ foot (gells fl M) ∨ b = x.a := by
  rw [gfoot_eq] at m ⊢
  simp only [MS.addT, List.map_append, List.map_cons, List.map_nil, List.mem_cons, List.mem_append, List.not_mem_nil, or_false] at m ⊢
  rcases m with z | z | z | z | z
  · exact .inl (.inl z)
  · exact .inl (.inr (.inl z))
  · exact .inl (.inr (.inr (.inl z)))
  · exact .inl (.inr (.inr (.inr z)))
  · exact .inr z
theorem rd_gPutMade {Q : Mu → Prop} {j : Int} (F : Fl fl) (s : μ M.m = some (.dK (fl M))) (q : Q (put μ M.m (.dK (fl { M with many := j })))) : PutD μ (.at M.m) (.str "made") (.int j) Q :=
  .inl ⟨fl M, .inr "made", s, rfl, by have := F.len M; omega, by rw [F.put]; exact q⟩
/-- a new model -/
theorem GSt.mk0 {m mr ms : Addr} {xs : List Str} (M : MS) (em : M.m = m) (emr : M.mr = mr) (ems : M.ms = ms) (ers : M.rs = xs.map fun x => (x, [])) (ets : M.ts = []) (nd : [m, mr, ms].Nodup) (h1 : μ m = some (.dK (fl M))) (h2 : μ mr = some (.dK (xs.map fun x => (.inr x, .lst [])))) (h3 : μ ms = some (.dK [])) : GSt fl μ M := by
  subst em emr ems
  refine ⟨fun q hq => ?_, ?_⟩
  · unfold gells at hq
    rw [ets] at hq
    simp only [List.map_nil, List.mem_cons, List.not_mem_nil, or_false] at hq
    rcases hq with rfl | rfl | rfl
    · exact h1
    · show μ M.mr = some (.dK (M.rs.map rwD))
      rw [h2, ers, List.map_map]
      rfl
    · show μ M.ms = some (.dK M.dS)
      rw [h3]
      unfold MS.dS
      rw [ets]
      rfl
  · show (foot (gells fl M)).Nodup
    rw [gfoot_eq, ets]
    exact nd
end
/-! ### a store and such a model -/
structure WdG (C : Addr) (fl : MS → List (Key × D)) (μb μ : Mu) (M : MS) (S : SC) (b : Nat) : Prop where
  st : St C μ S
  ms : GSt fl μ M
  pr : Pr M S b
  sep : ∀ a ∈ foot (gells fl M), a ∉ foot (S.cells C)
  kp : ∀ a o, μb a = some o → μ a = some o
  fs : ∀ a ∈ foot (S.cells C), μb a = none
  fm : ∀ a ∈ foot (gells fl M), μb a = none
section
variable {C : Addr} {fl : MS → List (Key × D)} {μb μb' μ μ1 μ2 : Mu} {M M1 : MS} {S S' : SC} {b b' : Nat}
theorem WdG.next (w : WdG C fl μb μ M S b) (h1 : GSt fl μ1 M1) (s1 : Stp (foot (gells fl M)) (foot (gells fl M1)) μ μ1) (h2 : St C μ2 S') (s2 : Stp (foot (S.cells C)) (foot (S'.cells C)) μ1 μ2) (p : Pr M1 S' b') : WdG C fl μb μ2 M1 S' b' := by
  have no : ∀ a ∈ foot (gells fl M1), a ∉ foot (S.cells C) := fun a ha hs => by
    rcases s1.ft a ha with z | z
    · exact w.sep a z hs
    · obtain ⟨o, e⟩ := w.st.sits.there hs
      rw [z] at e
      cases e
  have k1 : ∀ a o, μb a = some o → μ1 a = some o := fun a o e => s1.kp a o (w.kp a o e) fun m => by
    rw [w.fm a m] at e
    cases e
  refine ⟨h2, h1.stp s2 no, p, fun a ha hs => ?_, fun a o e => ?_, fun a ha => ?_, fun a ha => ?_⟩
  · rcases s2.ft a hs with z | z
    · exact no a ha z
    · obtain ⟨o, e⟩ := h1.there ha
      rw [z] at e
      cases e
  · exact s2.kp a o (k1 a o e) fun m => by
      rw [w.fs a m] at e
      cases e
  · rcases s2.ft a ha with z | z
    · exact w.fs a z
    · cases e : μb a with
      | none => rfl
      | some o => rw [k1 a o e] at z; cases z
  · rcases s1.ft a ha with z | z
    · exact w.fm a z
    · cases e : μb a with
      | none => rfl
      | some o => rw [w.kp a o e] at z; cases z
/-- the same, the store first -/
theorem WdG.next2 (w : WdG C fl μb μ M S b) (h2 : St C μ1 S') (s2 : Stp (foot (S.cells C)) (foot (S'.cells C)) μ μ1) (h1 : GSt fl μ2 M1) (s1 : Stp (foot (gells fl M)) (foot (gells fl M1)) μ1 μ2) (p : Pr M1 S' b') : WdG C fl μb μ2 M1 S' b' := by
  have no : ∀ a ∈ foot (S'.cells C), a ∉ foot (gells fl M) := fun a ha hs => by
    rcases s2.ft a ha with z | z
    · exact w.sep a hs z
    · obtain ⟨o, e⟩ := w.ms.there hs
      rw [z] at e
      cases e
  have k1 : ∀ a o, μb a = some o → μ1 a = some o := fun a o e => s2.kp a o (w.kp a o e) fun m => by
    rw [w.fs a m] at e
    cases e
  refine ⟨h2.stp s1 no, h1, p, fun a ha hs => ?_, fun a o e => ?_, fun a ha => ?_, fun a ha => ?_⟩
  · rcases s1.ft a ha with z | z
    · exact no a hs z
    · obtain ⟨o, e⟩ := h2.sits.there hs
      rw [z] at e
      cases e
  · exact s1.kp a o (k1 a o e) fun m => by
      rw [w.fm a m] at e
      cases e
  · rcases s2.ft a ha with z | z
    · exact w.fs a z
    · cases e : μb a with
      | none => rfl
      | some o => rw [w.kp a o e] at z; cases z
  · rcases s1.ft a ha with z | z
    · exact w.fm a z
    · cases e : μb a with
      | none => rfl
      | some o => rw [k1 a o e] at z; cases z
theorem WdG.msS (w : WdG C fl μb μ M S b) (s2 : Stp (foot (S.cells C)) (foot (S'.cells C)) μ μ1) : GSt fl μ1 M := w.ms.stp s2 fun a ha hs => w.sep a ha hs
theorem WdG.less (w : WdG C fl μb μ M S b) : Less μ μb := fun a => by
  cases e : μb a with
  | none => exact .inl rfl
  | some o => exact .inr (w.kp a o e).symm
theorem WdG.mono (w : WdG C fl μb μ M S b) (h : b ≤ b') : WdG C fl μb μ M S b' := ⟨w.st, w.ms, w.pr.mono h, w.sep, w.kp, w.fs, w.fm⟩
theorem WdG.base (w : WdG C fl μb' μ M S b) (h : ∀ a o, μb a = some o → μb' a = some o) : WdG C fl μb μ M S b := by
  have no : ∀ a, μb' a = none → μb a = none := fun a z => by
    cases c : μb a with
    | none => rfl
    | some o => rw [h a o c] at z; cases z
  exact ⟨w.st, w.ms, w.pr, w.sep, fun a o c => w.kp a o (h a o c), fun a m => no a (w.fs a m), fun a m => no a (w.fm a m)⟩
theorem WdG.new (w : WdG C fl μb μ M S b) {a : Addr} {o : O} (h : μ a = none) : WdG C fl μb (put μ a o) M S b :=
  ⟨w.st.new h, w.ms.put (w.ms.fresh h), w.pr, w.sep, fun x u c => by rw [put_ne (ne_no (w.kp x u c) h)]; exact w.kp x u c, w.fs, w.fm⟩
end
end Dl
namespace Dl
open PySem PySem.Spec PyProof.Rows L2
variable {B : Bs}
/-! ### xs.count(y) -/
/-! ### a dict walked that may be locked already -/
/-! ### what can be come to -/
inductive CanT (ns : List Int) (hs : Int → List (List Int)) : Int → Prop
  | mk {n : Int} {h : List Int} : n ∈ ns → h ∈ hs n → (∀ m, m ∈ h → CanT ns hs m) → CanT ns hs n
def canF (hs : Int → List (List Int)) (F : List Int) (n : Int) : Bool := (hs n).any fun h => h.all fun m => decide (m ∈ F)
def stepF (hs : Int → List (List Int)) (F : List Int) (n : Int) : List Int := if canF hs F n = true ∧ n ∉ F then F ++ [n] else F
def passF (hs : Int → List (List Int)) (ns F : List Int) : List Int := ns.foldl (stepF hs) F
def iterF (hs : Int → List (List Int)) (ns : List Int) : Nat → List Int
  | 0 => []
  | t + 1 => passF hs ns (iterF hs ns t)
section
variable {hs : Int → List (List Int)} {ns F : List Int}
theorem stepF_cases (F : List Int) (n : Int) : stepF hs F n = F ∨ stepF hs F n = F ++ [n] ∧ n ∉ F ∧ canF hs F n = true := by
  unfold stepF
  split
  · rename_i c
    exact .inr ⟨rfl, c.2, c.1⟩
  · exact .inl rfl
theorem fold_pre : ∀ (l F : List Int), ∃ G, l.foldl (stepF hs) F = F ++ G ∧ ∀ x ∈ G, x ∈ l
  | [], F => ⟨[], by simp, fun _ h => by cases h⟩
  | n :: l, F => by
    rw [List.foldl_cons]
    obtain ⟨G, e, hG⟩ := fold_pre l (stepF hs F n)
    rcases stepF_cases (hs := hs) F n with c | ⟨c, _, _⟩
    · rw [c] at e ⊢
      exact ⟨G, e, fun x m => List.mem_cons_of_mem _ (hG x m)⟩
    · rw [c] at e ⊢
      refine ⟨n :: G, by rw [e]; simp, fun x m => ?_⟩
      rcases List.mem_cons.mp m with rfl | m
      · exact List.mem_cons_self
      · exact List.mem_cons_of_mem _ (hG x m)
theorem fold_nodup : ∀ (l F : List Int), F.Nodup → (l.foldl (stepF hs) F).Nodup
  | [], _, h => h
  | n :: l, F, h => by
    rw [List.foldl_cons]
    refine fold_nodup l _ ?_
    rcases stepF_cases (hs := hs) F n with c | ⟨c, c2, _⟩
    · rw [c]; exact h
    · rw [c, List.nodup_append]
      exact ⟨h, by simp, fun a ha b hb e => c2 (by cases List.mem_singleton.mp hb; exact e ▸ ha)⟩
theorem ct_of_can (hF : ∀ x ∈ F, CanT ns hs x) {n : Int} (hn : n ∈ ns) (c : canF hs F n = true) : CanT ns hs n := by
  unfold canF at c
  rw [List.any_eq_true] at c
  obtain ⟨g, hg, c⟩ := c
  rw [List.all_eq_true] at c
  exact .mk hn hg fun m hm => hF m (of_decide_eq_true (c m hm))
theorem fold_sound : ∀ (l F : List Int), (∀ x ∈ l, x ∈ ns) → (∀ x ∈ F, CanT ns hs x) → ∀ x ∈ l.foldl (stepF hs) F, CanT ns hs x
  | [], _, _, h => h
  | n :: l, F, hl, h => by
    rw [List.foldl_cons]
    refine fold_sound l _ (fun x m => hl x (List.mem_cons_of_mem _ m)) ?_
    rcases stepF_cases (hs := hs) F n with c | ⟨c, _, c3⟩
    · rw [c]; exact h
    · rw [c]
      intro x m
      rcases List.mem_append.mp m with m | m
      · exact h x m
      · cases List.mem_singleton.mp m
        exact ct_of_can h (hl n List.mem_cons_self) c3
theorem fold_same : ∀ (l F : List Int), (l.foldl (stepF hs) F).length = F.length → ∀ n ∈ l, canF hs F n = true → n ∈ F
  | n :: l, F, e, m, hm, c => by
    rw [List.foldl_cons] at e
    rcases stepF_cases (hs := hs) F n with k | ⟨k, _, _⟩
    · rw [k] at e
      rcases List.mem_cons.mp hm with rfl | hm
      · unfold stepF at k
        by_cases z : m ∈ F
        · exact z
        · rw [if_pos ⟨c, z⟩] at k
          have := congrArg List.length k
          simp at this
      · exact fold_same l F e m hm c
    · rw [k] at e
      obtain ⟨G, e2, _⟩ := fold_pre (hs := hs) l (F ++ [n])
      rw [e2] at e
      simp at e
/-- nothing more to be come to by one hold -/
def ClosedF (ns : List Int) (hs : Int → List (List Int)) (F : List Int) : Prop := ∀ n ∈ ns, canF hs F n = true → n ∈ F
theorem closed_all (c : ClosedF ns hs F) {n : Int} (h : CanT ns hs n) : n ∈ F := by
  induction h with
  | mk hn hh _ ih =>
    refine c _ hn ?_
    unfold canF
    rw [List.any_eq_true]
    exact ⟨_, hh, List.all_eq_true.mpr fun m hm => decide_eq_true (ih m hm)⟩
theorem iter_in : ∀ t, ∀ x ∈ iterF hs ns t, x ∈ ns
  | 0, x, h => by cases h
  | t + 1, x, h => by
    obtain ⟨G, e, hG⟩ := fold_pre (hs := hs) ns (iterF hs ns t)
    rw [show iterF hs ns (t + 1) = _ from e] at h
    rcases List.mem_append.mp h with h | h
    · exact iter_in t x h
    · exact hG x h
theorem iter_nodup : ∀ t, (iterF hs ns t).Nodup
  | 0 => List.nodup_nil
  | t + 1 => fold_nodup _ _ (iter_nodup t)
theorem iter_sound : ∀ t, ∀ x ∈ iterF hs ns t, CanT ns hs x
  | 0, x, h => by cases h
  | t + 1, x, h => fold_sound ns _ (fun _ m => m) (iter_sound t) x h
theorem iter_len (t : Nat) : (iterF hs ns t).length ≤ ns.length := len_sub (iter_nodup t) fun x h => iter_in t x h
theorem pass_le (F : List Int) : F.length ≤ (passF hs ns F).length := by
  obtain ⟨G, e, _⟩ := fold_pre (hs := hs) ns F
  unfold passF
  rw [e, List.length_append]
  omega
theorem pass_same {F : List Int} (e : (passF hs ns F).length = F.length) : passF hs ns F = F := by
  obtain ⟨G, e2, _⟩ := fold_pre (hs := hs) ns F
  unfold passF at e ⊢
  rw [e2] at e ⊢
  rw [List.length_append] at e
  have : G = [] := List.length_eq_zero_iff.mp (by omega)
  rw [this, List.append_nil]
theorem closed_of_pass {F : List Int} (e : (passF hs ns F).length = F.length) : ClosedF ns hs F := fun n hn c => fold_same ns F e n hn c
theorem iter_grow : ∀ t, t ≤ (iterF hs ns t).length ∨ ClosedF ns hs (iterF hs ns t)
  | 0 => .inl (Nat.zero_le _)
  | t + 1 => by
    by_cases e : (passF hs ns (iterF hs ns t)).length = (iterF hs ns t).length
    · right
      show ClosedF ns hs (passF hs ns (iterF hs ns t))
      rw [pass_same e]
      exact closed_of_pass e
    · have := pass_le (hs := hs) (ns := ns) (iterF hs ns t)
      rcases iter_grow t with c | c
      · left
        show t + 1 ≤ (passF hs ns (iterF hs ns t)).length
        omega
      · exfalso
        refine e ?_
        have : ∀ (l : List Int), (∀ x ∈ l, x ∈ ns) → l.foldl (stepF hs) (iterF hs ns t) = iterF hs ns t := fun l => by
          induction l with
          | nil => intro _; rfl
          | cons n l ih =>
            intro hl
            rw [List.foldl_cons]
            rcases stepF_cases (hs := hs) (iterF hs ns t) n with k | ⟨_, k2, k3⟩
            · rw [k]
              exact ih fun x m => hl x (List.mem_cons_of_mem _ m)
            · exact (k2 (c n (hl n List.mem_cons_self) k3)).elim
        unfold passF
        rw [this ns fun _ m => m]
theorem iter_closed : ClosedF ns hs (iterF hs ns (ns.length + 1)) := by
  rcases iter_grow (hs := hs) (ns := ns) (ns.length + 1) with h | h
  · have := iter_len (hs := hs) (ns := ns) (ns.length + 1)
    omega
  · exact h
/-- told by a computation -/
def canB (ns : List Int) (hs : Int → List (List Int)) (n : Int) : Bool := decide (n ∈ iterF hs ns (ns.length + 1))
theorem canB_iff {n : Int} : canB ns hs n = true ↔ CanT ns hs n := by
  unfold canB
  rw [decide_eq_true_eq]
  exact ⟨iter_sound _ n, closed_all iter_closed⟩
/-- the same holds tell the same -/
theorem can_perm {hs' : Int → List (List Int)} (h : ∀ n ∈ ns, (hs n).Perm (hs' n)) (n : Int) : canB ns hs n = canB ns hs' n := by
  have one : ∀ {a b : Int → List (List Int)}, (∀ n ∈ ns, (a n).Perm (b n)) → ∀ n, CanT ns a n → CanT ns b n := fun {a b} p n c => by
    induction c with
    | mk hn hh _ ih => exact .mk hn ((p _ hn).mem_iff.mp hh) ih
  cases e : canB ns hs n with
  | true => exact (canB_iff.mpr (one h n (canB_iff.mp e))).symm
  | false =>
    cases e2 : canB ns hs' n with
    | false => rfl
    | true => rw [canB_iff.mpr (one (fun m hm => (h m hm).symm) n (canB_iff.mp e2))] at e; cases e
end
/-! ### with the holds by which things were come to -/
def fstH (hs : Int → List (List Int)) (K : List (Int × List Int)) (n : Int) : Option (List Int) := (hs n).find? fun h => h.all fun m => decide (m ∈ K.map (·.1))
def stepK (hs : Int → List (List Int)) (K : List (Int × List Int)) (n : Int) : List (Int × List Int) := match fstH hs K n with
  | some h => if n ∈ K.map (·.1) then K else K ++ [(n, h)]
  | none => K
end Dl
namespace Dl
open PySem PySem.Spec PyProof.Rows L2
/-- a deed, a make's word left out -/
def Dd.D2 : Dd → Dl.D
  | .make h _ => .tup [.str "make", .str h]
  | .fill h o k r => r.deed h o k
  | .empty h o k => .tup [.str "empty", .str h, .int o, .str k]
  | .take h o k => .tup [.str "take", .str h, .int o, .str k]
  | .give h x t => .tup [.str "give", .str h, .int x, .str t]
  | .drop h x => .tup [.str "drop", .str h, .int x]
/-! ### a law's own holds of one thing, gathered row by row -/
theorem holdsFor_app (a b : List (Int × List Int)) (n : Int) : holdsFor (a ++ b) n = holdsFor a n ++ holdsFor b n := by
  unfold holdsFor
  rw [List.filter_append, List.map_append]
theorem holdsFor_row (row : List Int) (n : Int) : holdsFor (row.map fun m => (m, ([] : List Int))) n = List.replicate (row.count n) [] := by
  induction row with
  | nil => rfl
  | cons m row ih =>
    rw [List.map_cons, show ((m, ([] : List Int)) :: row.map fun m => (m, [])) = [(m, [])] ++ row.map fun m => (m, []) from rfl, holdsFor_app, ih, List.count_cons]
    unfold holdsFor
    by_cases e : m = n
    · simp [e, List.replicate_succ]
    · simp [e]
end Dl
namespace Dl
open PySem PySem.Spec PyProof.Rows L2
/-! ### sorting data with unlike keys: one order alone -/
theorem sortD_perm {β : Type} {f : β → PyData} (inj : ∀ a b, PySem.W.keyToks (f a) = PySem.W.keyToks (f b) → a = b) {l k : List β} (p : l.Perm k) : l.mergeSort (PySem.W.dataLe false f) = k.mergeSort (PySem.W.dataLe false f) := by
  have T := PySem.W.sortLe_total (PyProof.Rows.listOrd PyProof.Rows.itemOrd) false fun b => PySem.W.keyToks (f b)
  have pw : ∀ l : List β, (l.mergeSort (PySem.W.dataLe false f)).Pairwise fun a b => PySem.W.dataLe false f a b = true := fun l =>
    List.pairwise_mergeSort (le := PySem.W.dataLe false f) (fun a b c h g => T.trans a b c h g) (fun a b => by
      rcases T.total a b with h | h
      · rw [show PySem.W.dataLe false f a b = true from h]; rfl
      · rw [show PySem.W.dataLe false f b a = true from h, Bool.or_true]) l
  refine List.Perm.eq_of_pairwise (le := fun a b => PySem.W.dataLe false f a b = true) (fun a b _ _ h g => inj a b ?_) (pw l) (pw k) (((List.mergeSort_perm l _).trans p).trans (List.mergeSort_perm k _).symm)
  have h1 : (!(PyProof.Rows.listOrd PyProof.Rows.itemOrd).blt (PySem.W.keyToks (f b)) (PySem.W.keyToks (f a))) = true := h
  have h2 : (!(PyProof.Rows.listOrd PyProof.Rows.itemOrd).blt (PySem.W.keyToks (f a)) (PySem.W.keyToks (f b))) = true := g
  rw [Bool.not_eq_true'] at h1 h2
  exact (PyProof.Rows.listOrd PyProof.Rows.itemOrd).total _ _ h2 h1
theorem toks_ints : ∀ a b : List Int, PySem.W.keyToksAll (a.map .int) = PySem.W.keyToksAll (b.map .int) → a = b
  | [], [], _ => rfl
  | [], y :: b, h => by
    rw [List.map_nil, List.map_cons, PySem.W.keyToksAll, PySem.W.keyToksAll] at h
    exact absurd (List.cons.inj h).1 (by decide)
  | x :: a, [], h => by
    rw [List.map_nil, List.map_cons, PySem.W.keyToksAll, PySem.W.keyToksAll] at h
    exact absurd (List.cons.inj h).1 (by decide)
  | x :: a, y :: b, h => by
    rw [List.map_cons, List.map_cons, PySem.W.keyToksAll, PySem.W.keyToksAll, PySem.W.keyToks, PySem.W.keyToks] at h
    have h2 := (List.cons.inj h).2
    rw [List.cons_append, List.cons_append, List.nil_append, List.nil_append] at h2
    have h3 := List.cons.inj h2
    have e : x = y := Sum.inl.inj h3.1
    rw [e, toks_ints a b h3.2]
theorem sortHo_eq {a b : List (List Int)} (p : a.Perm b) : sortHo a = sortHo b := by
  have e : (fun x y : List Int => PySem.W.dataLe false pyD (hoD x) (hoD y)) = PySem.W.dataLe false fun h : List Int => hoP h := by
    funext x y
    have : (fun h : List Int => pyD (hoD h)) = fun h => hoP h := by
      funext h
      exact pyD_ho h
    rw [← this]
    rfl
  unfold sortHo
  rw [e]
  refine sortD_perm (fun x y h => ?_) p
  unfold hoP at h
  rw [PySem.W.keyToks, PySem.W.keyToks] at h
  exact toks_ints x y h
/-! ### a number in a tuple of numbers -/
/-! ### a store's holds, told -/
def SC.keOf (S : SC) (n : Int) : List (List Int) := match S.ts.find? fun x => decide (x.n = n) with
  | some x => x.ke
  | none => []
def SC.hs_ (S : SC) (n : Int) : List (List Int) := sortHo (S.keOf n)
section
variable {S : SC} {M : MS} {b : Nat} {μ : Mu}
theorem keOf_at (tn : (S.ts.map Th.n).Nodup) {x : Th} (m : x ∈ S.ts) : S.keOf x.n = x.ke := by
  unfold SC.keOf
  have : S.ts.find? (fun y => decide (y.n = x.n)) = some x := by
    cases e : S.ts.find? fun y => decide (y.n = x.n) with
    | none => exact absurd (List.find?_eq_none.mp e x m) (by simp)
    | some y =>
      have h1 := List.mem_of_find?_eq_some e
      have h2 := List.find?_some e
      rw [nd_eq tn h1 m (by simpa using h2)]
  rw [this]
theorem hs_at (tn : (S.ts.map Th.n).Nodup) {x : Th} (m : x ∈ S.ts) : S.hs_ x.n = sortHo x.ke := by
  unfold SC.hs_
  rw [keOf_at tn m]
theorem hs_len_ (o : OkN S b) {x : Th} (m : x ∈ S.ts) : (S.hs_ x.n).length ≤ b := by
  rw [hs_at o.tn m, (sortHo_perm _).length_eq]
  exact o.kl x m
/-- the law's own are the same, in the same order -/
theorem hs_same (p : Pr M S b) {x : Th} (m : x ∈ S.ts) : M.hs x.n = S.hs_ x.n := by
  rw [hs_at p.ok.tn m]
  exact sortHo_eq (hps_perm p m)
theorem hs_same' (p : Pr M S b) {n : Int} (m : n ∈ S.ts.map Th.n) : M.hs n = S.hs_ n := by
  obtain ⟨x, hx, rfl⟩ := th_of m
  exact hs_same p hx
theorem hs_ok_ (p : Pr M S b) {x : Th} (m : x ∈ S.ts) {h : List Int} (hh : h ∈ S.hs_ x.n) : h.length ≤ 2 ∧ ∀ n ∈ h, n ∈ S.ts.map Th.n := by
  rw [hs_at p.ok.tn m] at hh
  exact hold_ok p.ok.ok p.q m ((sortHo_perm _).mem_iff.mp hh)
end
end Dl
namespace Dl
open PySem PySem.Spec PyProof.Rows L2
/-! ### ways as they are found -/
structure WayK (hs : Int → List (List Int)) (ns : List Int) (K : List (Int × List Int)) : Prop where
  nd : (K.map (·.1)).Nodup
  in_ : ∀ q ∈ K, q.1 ∈ ns
  row : ∀ (i : Nat) (q : Int × List Int), K[i]? = some q → q.2 ∈ hs q.1 ∧ ∀ m ∈ q.2, m ∈ (K.take i).map (·.1)
  sound : ∀ x ∈ K.map (·.1), CanT ns hs x
section
variable {hs : Int → List (List Int)} {ns : List Int} {K : List (Int × List Int)}
theorem WayK.zero : WayK hs ns [] := ⟨List.nodup_nil, (fun _ h => by cases h), (fun _ _ h => by cases h), fun _ h => by cases h⟩
theorem WayK.len (w : WayK hs ns K) : (K.map (·.1)).length ≤ ns.length := len_sub w.nd fun x h => by
  obtain ⟨q, hq, rfl⟩ := List.mem_map.mp h
  exact w.in_ q hq
theorem WayK.step (w : WayK hs ns K) {n : Int} (hn : n ∈ ns) : WayK hs ns (stepK hs K n) := by
  unfold stepK
  cases e : fstH hs K n with
  | none => exact w
  | some h =>
    have h1 : h ∈ hs n := List.mem_of_find?_eq_some e
    have e' : (hs n).find? (fun h => h.all fun m => decide (m ∈ K.map (fun q : Int × List Int => q.1))) = some h := e
    have e2 : (h.all fun m => decide (m ∈ K.map (fun q : Int × List Int => q.1))) = true := by
      have := List.find?_some e'
      exact this
    have h2 : ∀ m ∈ h, m ∈ K.map (·.1) := fun m hm => of_decide_eq_true (List.all_eq_true.mp e2 m hm)
    by_cases c : n ∈ K.map (·.1)
    · show WayK hs ns (if n ∈ K.map (·.1) then K else K ++ [(n, h)])
      rw [if_pos c]
      exact w
    · show WayK hs ns (if n ∈ K.map (·.1) then K else K ++ [(n, h)])
      rw [if_neg c]
      refine ⟨?_, fun q hq => ?_, fun i q hq => ?_, fun x hx => ?_⟩
      · rw [List.map_append, List.nodup_append]
        exact ⟨w.nd, by simp, fun a ha b hb z => c (by cases List.mem_singleton.mp hb; exact (show a = n from z) ▸ ha)⟩
      · rcases List.mem_append.mp hq with hq | hq
        · exact w.in_ q hq
        · cases List.mem_singleton.mp hq
          exact hn
      · by_cases z : i < K.length
        · rw [List.getElem?_append_left z] at hq
          rw [List.take_append_of_le_length (by omega)]
          exact w.row i q hq
        · rw [List.getElem?_append_right (by omega)] at hq
          have e0 : i - K.length = 0 := by
            have := (List.getElem?_eq_some_iff.mp hq).1
            simp at this
            exact this
          rw [e0] at hq
          cases hq
          have ei : i = K.length := by omega
          subst ei
          rw [List.take_append_of_le_length (Nat.le_refl _), List.take_length]
          exact ⟨h1, h2⟩
      · rw [List.map_append] at hx
        rcases List.mem_append.mp hx with hx | hx
        · exact w.sound x hx
        · cases List.mem_singleton.mp hx
          exact .mk hn h1 fun m hm => w.sound m (h2 m hm)
end
end Dl
namespace Dl
open PySem PySem.Spec PyProof.Rows L2
/-! ### a model that is only read, its slots walked perhaps -/
structure GRd (fl : MS → List (Key × D)) (μ : Mu) (M : MS) : Prop where
  m_ : μ M.m = some (.dK (fl M))
  mr_ : μ M.mr = some (.dK (M.rs.map rwD))
  ms_ : μ M.ms = some (.dK M.dS) ∨ ∃ o ks, μ M.ms = some (.fz o ks M.dS)
  sl_ : ∀ x ∈ M.ts, μ x.a = some (.dK (slK x.sl))
  nd : (M.m :: M.mr :: M.ms :: M.ts.map MT.a).Nodup
section
variable {fl : MS → List (Key × D)} {μ μ' : Mu} {M : MS} {C : Addr} {S : SC}
theorem GRd.ext (s : GRd fl μ M) (h : ∀ a o, μ a = some o → μ' a = some o) : GRd fl μ' M := ⟨h _ _ s.m_, h _ _ s.mr_, s.ms_.imp (fun e => h _ _ e) fun ⟨o, ks, e⟩ => ⟨o, ks, h _ _ e⟩, fun x m => h _ _ (s.sl_ x m), s.nd⟩
theorem GRd.new (s : GRd fl μ M) {a : Addr} {o : O} (h : μ a = none) : GRd fl (put μ a o) M := s.ext fun b u e => by rw [put_ne (ne_no e h)]; exact e
theorem GRd.row {T : D → Prop} (s : GRd fl μ M) (hn : (M.rs.map (·.1)).Nodup) {h : Str} {row : List Int} (m : (h, row) ∈ M.rs) (q : T (.lst (row.map .int))) : ∃ v, GetD μ (.at M.mr) (.str h) (some v) ∧ T v :=
  ⟨_, .inl ⟨M.rs.map rwD, .inr h, .inl s.mr_, rfl, (at_in (κ := Key) (f := fun q : Str × List Int => Sum.inr q.1) (g := fun q => D.lst (q.2.map .int)) (nodup_inr hn) m).symm⟩, q⟩
theorem GRd.at_ {T : D → Prop} {k : Str} {v : D} (s : GRd fl μ M) (e : atD (fl M) (.inr k) = some v) (q : T v) : ∃ v, GetD μ (.at M.m) (.str k) (some v) ∧ T v := ⟨_, .inl ⟨fl M, .inr k, .inl s.m_, rfl, e.symm⟩, q⟩
/-- where a store and such a model begin -/
theorem WdG.init {μb μ1 μ2 : Mu} {x1 : O} (sM : GSt fl μ1 M) (fM : ∀ a ∈ foot (gells fl M), μb a = none) (smM : Same (foot (gells fl M)) μb μ1) (ht : μ1 S.t = none) (s2 : St C μ2 S) (fr : ∀ a ∈ foot (S.cells C), a ≠ S.t → put μ1 S.t x1 a = none) (sm : Same (foot (S.cells C)) (put μ1 S.t x1) μ2) (p : Pr M S 0) : WdG C fl μb μ2 M S 0 := by
  have up : ∀ a o, μ1 a = some o → a ∉ foot (S.cells C) ∧ μ2 a = some o := fun a o e => by
    have h2 : a ≠ S.t := ne_no e ht
    have h3 : put μ1 S.t x1 a = some o := by rw [put_ne h2]; exact e
    have h4 : a ∉ foot (S.cells C) := fun m => by
      have h := fr a m h2
      rw [h3] at h
      cases h
    exact ⟨h4, sm.at h4 h3⟩
  have k1 : ∀ a o, μb a = some o → μ1 a = some o := fun a o e => smM.at (fun m => by rw [fM a m] at e; cases e) e
  refine ⟨s2, ⟨fun q hq => (up q.1 q.2 (sM.at_ q hq)).2, sM.nd⟩, p, fun a ha => ?_, fun a o e => (up a o (k1 a o e)).2, fun a ha => ?_, fM⟩
  · obtain ⟨o, e⟩ := sM.there ha
    exact (up a o e).1
  · cases e : μb a with
    | none => rfl
    | some o => exact ((up a o (k1 a o e)).1 ha).elim
end
/-! ### small numbers shown -/
theorem Shw.sm {i : Int} (h : i.natAbs < 2 ^ 20) : Shw (.int i) 21 1 := by
  have hlg : i.natAbs.log2 < 20 := by
    by_cases h0 : i.natAbs = 0
    · rw [h0]; decide
    · exact (Nat.log2_lt h0).mpr h
  have h2 := Shw.int (i := i) (by omega)
  refine ⟨h2.sh, h2.ls, ?_, h2.dp⟩
  simp only [PyData.weight]
  split <;> omega
def smN (i : Int) : Prop := 0 ≤ i ∧ i < 100000
theorem Shw.smN {i : Int} (h : smN i) : Shw (.int i) 21 1 := .sm (by unfold Dl.smN at h; omega)
theorem Shw.ho {h : List Int} (hl : h.length ≤ 2) (hn : ∀ n ∈ h, Dl.smN n) : Shw (hoP h) 44 2 := by
  have := Shw.tuple (n := 21) (k := 1) (xs := h.map .int) fun x hx => by
    obtain ⟨n, m, rfl⟩ := List.mem_map.mp hx
    exact .smN (hn n m)
  rw [List.length_map] at this
  exact this.mono (by omega) (Nat.le_refl _)
def hpP (p : Int × List Int) : PyData := .tuple [.int p.1, hoP p.2]
theorem Shw.hp {p : Int × List Int} (h1 : Dl.smN p.1) (hl : p.2.length ≤ 2) (hn : ∀ n ∈ p.2, Dl.smN n) : Shw (hpP p) 90 3 :=
  (Shw.tuple (n := 44) (k := 2) (xs := [.int p.1, hoP p.2]) (by
    intro x hx
    simp only [List.mem_cons, List.not_mem_nil, or_false] at hx
    rcases hx with rfl | rfl
    · exact (Shw.smN h1).mono (by decide) (by decide)
    · exact .ho hl hn)).mono (by simp) (by decide)
theorem Shw.hps {l : List (Int × List Int)} {n : Nat} (h : ∀ p ∈ l, Dl.smN p.1 ∧ p.2.length ≤ 2 ∧ ∀ m ∈ p.2, Dl.smN m) (hl : l.length ≤ n) : Shw (.list (l.map hpP)) (91 * n) 4 := by
  have := Shw.list (n := 90) (k := 3) (xs := l.map hpP) fun x hx => by
    obtain ⟨g, m, rfl⟩ := List.mem_map.mp hx
    exact .hp (h g m).1 (h g m).2.1 (h g m).2.2
  rw [List.length_map] at this
  exact this.mono (Nat.mul_le_mul (by omega) hl) (Nat.le_refl _)
/-! ### how many holds there are at all -/
section
variable {M : MS} {S : SC} {b : Nat}
theorem hps_len (o : MOk M) : M.hps.length ≤ 500 := by
  unfold MS.hps
  rw [List.length_append]
  have h1 := rows_len (l := M.rs) fun q hq => o.rl q hq
  have h2 := slots_len (l := M.ts) o.sl
  have := o.hl
  have := o.tl
  omega
theorem ns_sm (p : Pr M S b) {n : Int} (h : n ∈ S.ts.map Th.n) : smN n := by
  rw [← p.rl.ns] at h
  obtain ⟨x, hx, rfl⟩ := mth_of h
  exact p.mok.big x hx
theorem hs_shw (p : Pr M S b) {x : Th} (m : x ∈ S.ts) : ∀ g ∈ S.hs_ x.n, g.length ≤ 2 ∧ ∀ n ∈ g, smN n := fun g hg => by
  have h := hs_ok_ p m hg
  exact ⟨h.1, fun n hn => ns_sm p (h.2 n hn)⟩
theorem hs_small (p : Pr M S b) : ∀ n ∈ S.ts.map Th.n, ∀ h ∈ S.hs_ n, h.length ≤ 100 := fun n hn h hh => by
  obtain ⟨x, hx, rfl⟩ := th_of hn
  have := (hs_shw p hx h hh).1
  omega
end
theorem holdsFor_one (v : Int) (h : List Int) (n : Int) : holdsFor [(v, h)] n = if v = n then [h] else [] := by
  unfold holdsFor
  by_cases c : v = n
  · simp [c]
  · simp [c]
end Dl
namespace Dl
open PySem PySem.Spec PyProof.Rows L2
end Dl
namespace Dl
open PySem PySem.Spec PyProof.Rows L2
theorem Shw.two {p q : PyData} {n k : Nat} (hp : Shw p n k) (hq : Shw q n k) : Shw (.list [p, q]) ((n + 1) * 2) (k + 1) :=
  Shw.list (n := n) (k := k) (xs := [p, q]) (by
    intro x hx
    simp only [List.mem_cons, List.not_mem_nil, or_false] at hx
    rcases hx with rfl | rfl
    · exact hp
    · exact hq)
end Dl
namespace Dl
open PySem PySem.Spec PyProof.Rows L2
variable {B : Bs}
/-! ### is True, is not True -/
def fIsB (n : Bool) : F2 := fun d e μ Q => ∃ a b, d = .bl a ∧ e = .bl b ∧ Q (.bl (if n then !decide (a = b) else decide (a = b))) μ
theorem od_isB {X : Cx} : OpR X (compareOp .Is) (upF2 (fIsB false)) := OpR.of op_is_bl fun x y H Q ⟨d, e, μ, QD, hx, hy, mh, h, k⟩ => by
  obtain ⟨a, b, rfl, rfl, h⟩ := h
  exact ⟨a, b, hx, hy, k _ _ (lft_mk (d := .bl _) mh rfl h)⟩
theorem rd_isT {μ : Mu} {n a : Bool} {Q : DQ} (q : Q (.bl (if n then !a else a)) μ) : fIsB n (.bl a) (.bl true) μ Q := ⟨a, true, rfl, rfl, by
  have e : decide (a = true) = a := by cases a <;> rfl
  rw [e]
  exact q⟩
/-! ### len(set(xs)), xs unlike ints -/
def wLenSet (we : WE) : WE := fun ρ μ Q => we ρ μ fun d μ1 => ∃ ns : List Int, Ls μ1 d (ns.map .int) ∧ ns.Nodup ∧ ns.length ≤ 4000 ∧ Q (.int (ns.length : Nat)) μ1
theorem all_cg {α : Type} {p q : α → Bool} : ∀ {l : List α}, (∀ x ∈ l, p x = q x) → l.all p = l.all q
  | [], _ => rfl
  | x :: l, h => by rw [List.all_cons, List.all_cons, h x List.mem_cons_self, all_cg fun y hy => h y (List.mem_cons_of_mem _ hy)]
/-! ### what is left when holds without a holder are struck -/
def clB (hs : Int → List (List Int)) (lot : List Int) : Bool := lot.all fun n => (hs n).all fun h => h.any fun m => decide (m ∈ lot)
section
variable {hs : Int → List (List Int)} {ns F : List Int}
theorem cl_lost {lot : List Int} (c : clB hs lot = true) {n : Int} (m : n ∈ lot) : canB ns hs n = false := by
  have key : ∀ n, CanT ns hs n → n ∉ lot := fun n t => by
    induction t with
    | mk hn hh _ ih =>
      intro hm
      have h1 := List.all_eq_true.mp c _ hm
      have h2 := List.all_eq_true.mp h1 _ hh
      obtain ⟨x, hx, e⟩ := List.any_eq_true.mp h2
      exact ih x hx (of_decide_eq_true e)
  cases e : canB ns hs n with
  | false => rfl
  | true => exact absurd m (key n (canB_iff.mp e))
theorem cl_gone (hin : ∀ n ∈ ns, ∀ h ∈ hs n, ∀ m ∈ h, m ∈ ns) : clB hs (ns.filter fun n => !canB ns hs n) = true := by
  refine List.all_eq_true.mpr fun n hn => List.all_eq_true.mpr fun h hh => ?_
  obtain ⟨hn, hc⟩ := List.mem_filter.mp hn
  cases e : h.any fun m => decide (m ∈ ns.filter fun n => !canB ns hs n) with
  | true => rfl
  | false =>
    exfalso
    have : CanT ns hs n := .mk hn hh fun m hm => by
      have h1 := List.any_eq_false.mp e m hm
      have h2 : m ∉ ns.filter fun n => !canB ns hs n := fun z => h1 (decide_eq_true z)
      rw [List.mem_filter] at h2
      refine canB_iff.mp ?_
      cases c : canB ns hs m with
      | true => rfl
      | false => exact (h2 ⟨hin n hn h hh m hm, by rw [c]; rfl⟩).elim
    rw [canB_iff.mpr this] at hc
    cases hc
theorem cl_congr {hs' : Int → List (List Int)} {l : List Int} (h : ∀ n ∈ l, hs n = hs' n) : clB hs l = clB hs' l := by
  unfold clB
  exact all_cg fun n hn => by rw [h n hn]
end
end Dl
namespace Dl
open PySem PySem.Spec PyProof.Rows L2
theorem WdG.sub {C : Addr} {fl : MS → List (Key × D)} {μb μ μ' : Mu} {M : MS} {S : SC} {b : Nat} (w : WdG C fl μb μ M S b) (l : Less μ' μ) : WdG C fl μb μ' M S b := by
  refine ⟨w.st.less l, w.ms.less l, w.pr, w.sep, fun x u c => ?_, w.fs, w.fm⟩
  have h := w.kp x u c
  rcases l x with z | z
  · rw [z] at h
    cases h
  · rw [← z]
    exact h
end Dl
namespace Dl
open PySem PySem.Spec PyProof.Rows L2
/-! ### one step into what a text asks -/
end Dl
namespace Dl
open PySem PySem.Spec PyProof.Rows L2
variable {B : Bs}
/-! ### list(d.items()) -/
def wItemsL (a : WE) : WE := fun ρ μ Q => a ρ μ fun d μ1 => ∃ p kvs, d = .at p ∧ μ1 p = some (.dK kvs) ∧ Q (.lst (kvs.map fun q => .tup [Dk q.1, q.2])) μ1
/-! ### for .. in reversed(xs), xs a list -/
def wItRev (a : WE) : WI := fun ρ μ Q => a ρ μ fun d μ1 => ∃ ds, Lr μ1 d ds ∧ Q ds.reverse (fun μ => Lr μ d ds) μ1
end Dl
namespace Dl
open PySem PySem.Spec PyProof.Rows L2
variable {B : Bs}
/-! ### d.update(d2) -/
def wDUpd (a b : WE) : WE := fun ρ μ Q => a ρ μ fun e μ1 => (∃ p kvs, e = .at p ∧ μ1 p = some (.dK kvs)) ∧ b ρ μ1 fun f μ2 => ∃ p kvs r more, e = .at p ∧ μ2 p = some (.dK kvs) ∧ f = .at r ∧ μ2 r = some (.dK more) ∧ p ≠ r ∧ kvs.length + more.length ≤ 1000000 ∧ Q .non (put μ2 p (.dK (mergeD kvs more)))
end Dl
namespace Dl
open PySem PySem.Spec PyProof.Rows L2
/-! ### what is known in the end, told by a computation -/
/-! ### ways -/
/-- rows each of which may stand behind what is known -/
def Wy (hs : Int → List (List Int)) (ns : List Int) : List Int → List (Int × List Int) → Prop
  | _, [] => True
  | P, p :: G => p.1 ∈ ns ∧ p.1 ∉ P ∧ p.2 ∈ hs p.1 ∧ (∀ m ∈ p.2, m ∈ P) ∧ Wy hs ns (P ++ [p.1]) G
def mergeI (W h : List Int) : List Int := h.foldl (fun W n => if n ∈ W then W else W ++ [n]) W
def mergeU (W h : List Int) : List Int := mergeI W (mergeI [] h)
def wayS (a : List Int × List (Int × List Int)) (p : Int × List Int) : List Int × List (Int × List Int) := if p.1 ∈ a.1 then (mergeU a.1 p.2, a.2 ++ [p]) else a
theorem mem_mergeI : ∀ (h : List Int) {W : List Int} {x : Int}, x ∈ mergeI W h ↔ x ∈ W ∨ x ∈ h
  | [], W, x => by simp [mergeI]
  | n :: h, W, x => by
    show x ∈ mergeI (if n ∈ W then W else W ++ [n]) h ↔ _
    rw [mem_mergeI h, List.mem_cons]
    split
    · rename_i c
      constructor
      · rintro (z | z)
        · exact .inl z
        · exact .inr (.inr z)
      · rintro (z | rfl | z)
        · exact .inl z
        · exact .inl c
        · exact .inr z
    · rw [List.mem_append, List.mem_singleton, or_assoc]
theorem mem_mergeU {W h : List Int} {x : Int} : x ∈ mergeU W h ↔ x ∈ W ∨ x ∈ h := by
  unfold mergeU
  rw [mem_mergeI, mem_mergeI]
  simp
section
variable {hs : Int → List (List Int)} {ns : List Int}
theorem Wy.drop_ : ∀ {G : List (Int × List Int)} {P : List Int} {Q : List Int} {x : Int}, Wy hs ns (P ++ x :: Q) G → (∀ r ∈ G, x ∉ r.2) → Wy hs ns (P ++ Q) G
  | [], _, _, _, _, _ => trivial
  | p :: G, P, Q, x, ⟨a, b, c, d, e⟩, h => by
    refine ⟨a, fun m => b ?_, c, fun m hm => ?_, ?_⟩
    · rcases List.mem_append.mp m with m | m
      · exact List.mem_append_left _ m
      · exact List.mem_append_right _ (List.mem_cons_of_mem _ m)
    · have nx : m ≠ x := fun z => h p List.mem_cons_self (z ▸ hm)
      rcases List.mem_append.mp (d m hm) with z | z
      · exact List.mem_append_left _ z
      · rcases List.mem_cons.mp z with z | z
        · exact absurd z nx
        · exact List.mem_append_right _ z
    · have e' : Wy hs ns (P ++ x :: (Q ++ [p.1])) G := by
        have : P ++ x :: (Q ++ [p.1]) = P ++ x :: Q ++ [p.1] := by simp
        rw [this]
        exact e
      have := Wy.drop_ e' fun r hr => h r (List.mem_cons_of_mem _ hr)
      rw [← List.append_assoc] at this
      exact this
/-- what holds behind each row -/
structure WyI (hs : Int → List (List Int)) (ns : List Int) (t : Int) (K1 : List (Int × List Int)) (a : List Int × List (Int × List Int)) : Prop where
  way : Wy hs ns (K1.map (·.1)) a.2.reverse
  wan : ∀ r ∈ a.2, ∀ m ∈ r.2, m ∈ a.1
  fst : a.2 = [] ∧ a.1 = [t] ∨ ∃ r F, a.2 = r :: F ∧ r.1 = t
theorem WyI.step {t : Int} {K1 : List (Int × List Int)} {p : Int × List Int} {a : List Int × List (Int × List Int)} (w : WayK hs ns (K1 ++ [p])) (h : WyI hs ns t (K1 ++ [p]) a) : WyI hs ns t K1 (wayS a p) := by
  have rw0 := w.row K1.length p (by simp)
  have hp2 : ∀ m ∈ p.2, m ∈ K1.map (·.1) := fun m hm => by
    have := rw0.2 m hm
    rw [List.take_left] at this
    exact this
  have nd := w.nd
  rw [List.map_append, List.nodup_append] at nd
  have hp1 : p.1 ∉ K1.map (·.1) := fun m => nd.2.2 p.1 m p.1 (by simp) rfl
  have hw := h.way
  rw [List.map_append] at hw
  unfold wayS
  by_cases c : p.1 ∈ a.1
  · rw [if_pos c]
    refine ⟨?_, fun r hr m hm => ?_, ?_⟩
    · show Wy hs ns (K1.map (·.1)) (a.2 ++ [p]).reverse
      rw [List.reverse_append]
      exact ⟨w.in_ p (by simp), hp1, rw0.1, hp2, hw⟩
    · show m ∈ mergeU a.1 p.2
      rw [mem_mergeU]
      rcases List.mem_append.mp hr with hr | hr
      · exact .inl (h.wan r hr m hm)
      · cases List.mem_singleton.mp hr
        exact .inr hm
    · right
      rcases h.fst with ⟨e1, e2⟩ | ⟨r, F, e1, e2⟩
      · rw [e2] at c
        exact ⟨p, [], by show a.2 ++ [p] = _; rw [e1]; rfl, List.mem_singleton.mp c⟩
      · exact ⟨r, F ++ [p], by show a.2 ++ [p] = _; rw [e1]; rfl, e2⟩
  · rw [if_neg c]
    refine ⟨?_, h.wan, h.fst⟩
    have hw' : Wy hs ns (K1.map (·.1) ++ p.1 :: []) a.2.reverse := hw
    have := Wy.drop_ hw' fun r hr z => c (h.wan r (List.mem_reverse.mp hr) _ z)
    rw [List.append_nil] at this
    exact this
theorem WayK.pre {K1 K2 : List (Int × List Int)} (w : WayK hs ns (K1 ++ K2)) : WayK hs ns K1 := by
  have nd := w.nd
  rw [List.map_append, List.nodup_append] at nd
  refine ⟨nd.1, fun q hq => w.in_ q (List.mem_append_left _ hq), fun i q hq => ?_, fun x hx => w.sound x (by rw [List.map_append]; exact List.mem_append_left _ hx)⟩
  have hi := (List.getElem?_eq_some_iff.mp hq).1
  have := w.row i q (by rw [List.getElem?_append_left hi]; exact hq)
  rw [List.take_append_of_le_length (by omega)] at this
  exact this
theorem WyI.all {t : Int} : ∀ (K2 K1 : List (Int × List Int)) (a : List Int × List (Int × List Int)), WayK hs ns (K1 ++ K2.reverse) → WyI hs ns t (K1 ++ K2.reverse) a → WyI hs ns t K1 (K2.foldl wayS a)
  | [], K1, a, _, h => by
    rw [List.reverse_nil, List.append_nil] at h
    exact h
  | p :: K2, K1, a, w, h => by
    rw [List.reverse_cons, ← List.append_assoc] at w h
    rw [List.foldl_cons]
    exact WyI.all K2 K1 (wayS a p) w.pre (h.step w)
end
end Dl
namespace Dl
open PySem PySem.Spec PyProof.Rows L2
/-! ### a hold among holds -/
/-! ### dicts of things wanted -/
/-! ### two stores, each with its model -/
def cutF (C : Addr) (fl : MS → List (Key × D)) (M : MS) (S : SC) : List Addr := foot (gells fl M) ++ foot (S.cells C)
def cut (μ : Mu) (F : List Addr) : Mu := fun a => if a ∈ F then none else μ a
theorem cut_no {μ : Mu} {F : List Addr} {a : Addr} (h : a ∈ F) : cut μ F a = none := if_pos h
theorem cut_at {μ : Mu} {F : List Addr} {a : Addr} (h : a ∉ F) : cut μ F a = μ a := if_neg h
structure Two (C : Addr) (fl : MS → List (Key × D)) (μb μ : Mu) (M : MS) (S : SC) (N : MS) (T : SC) (b c : Nat) : Prop where
  w : WdG C fl μb μ M S b
  v : WdG C fl μb μ N T c
  sep : ∀ a ∈ cutF C fl M S, a ∉ cutF C fl N T
section
variable {C : Addr} {fl : MS → List (Key × D)} {μb μ μ' : Mu} {M M' N : MS} {S S' T : SC} {b b' c : Nat}
theorem Two.symm (t : Two C fl μb μ M S N T b c) : Two C fl μb μ N T M S c b := ⟨t.v, t.w, fun a h h2 => t.sep a h2 h⟩
/-- the other may stand at any state that keeps its cells -/
theorem Two.base (t : Two C fl μb μ M S N T b c) : WdG C fl (cut μ (cutF C fl M S)) μ M S b :=
  ⟨t.w.st, t.w.ms, t.w.pr, t.w.sep, fun a o e => by
    unfold cut at e
    split at e
    · cases e
    · exact e, fun a m => cut_no (List.mem_append_right _ m), fun a m => cut_no (List.mem_append_left _ m)⟩
theorem Two.keep (t : Two C fl μb μ M S N T b c) {a : Addr} (h : a ∉ cutF C fl M S) {o : O} (e : μ a = some o) : cut μ (cutF C fl M S) a = some o := by rw [cut_at h, e]
theorem Two.pot (t : Two C fl μb μ M S N T b c) {a : Addr} {o : O} (e : μb a = some o) : cut μ (cutF C fl M S) a = some o := by
  refine t.keep (fun m => ?_) (t.w.kp a o e)
  rcases List.mem_append.mp m with m | m
  · rw [t.w.fm a m] at e
    cases e
  · rw [t.w.fs a m] at e
    cases e
theorem Two.next (t : Two C fl μb μ M S N T b c) (w : WdG C fl (cut μ (cutF C fl M S)) μ' M' S' b') : Two C fl μb μ' M' S' N T b' c := by
  have keepN : ∀ a ∈ cutF C fl N T, ∀ o, μ a = some o → cut μ (cutF C fl M S) a = some o := fun a m o e => t.keep (fun h => t.sep a h m) e
  have back : ∀ a o, μb a = some o → cut μ (cutF C fl M S) a = some o := fun a o e => t.pot e
  have no : ∀ a ∈ cutF C fl M' S', cut μ (cutF C fl M S) a = none := fun a m => by
    rcases List.mem_append.mp m with m | m
    · exact w.fm a m
    · exact w.fs a m
  have nb : ∀ a, cut μ (cutF C fl M S) a = none → μb a = none := fun a z => by
    cases e : μb a with
    | none => rfl
    | some o => rw [back a o e] at z; cases z
  have there : ∀ a ∈ cutF C fl N T, ∃ o, μ a = some o := fun a m => by
    rcases List.mem_append.mp m with m | m
    · exact t.v.ms.there m
    · exact t.v.st.sits.there m
  refine ⟨w.base back, ⟨?_, ?_, t.v.pr, t.v.sep, fun a o e => w.kp a o (back a o e), t.v.fs, t.v.fm⟩, fun a m m2 => ?_⟩
  · exact ⟨⟨fun q hq => w.kp _ _ (keepN q.1 (List.mem_append_right _ (List.mem_map.mpr ⟨q, hq, rfl⟩)) _ (t.v.st.sits.at_ q hq)), t.v.st.sits.nd⟩, t.v.st.hn, t.v.st.tn, t.v.st.mt⟩
  · exact ⟨fun q hq => w.kp _ _ (keepN q.1 (List.mem_append_left _ (List.mem_map.mpr ⟨q, hq, rfl⟩)) _ (t.v.ms.at_ q hq)), t.v.ms.nd⟩
  · obtain ⟨o, e⟩ := there a m2
    have := keepN a m2 o e
    rw [no a m] at this
    cases this
end
end Dl
namespace Dl
open PySem PySem.Spec PyProof.Rows L2
section
variable {hs : Int → List (List Int)} {ns : List Int}
theorem Wy.at_ : ∀ {R : List (Int × List Int)} {P : List Int} {i : Nat} {p : Int × List Int}, Wy hs ns P R → R[i]? = some p → p.1 ∈ ns ∧ p.1 ∉ P ++ (R.take i).map (·.1) ∧ p.2 ∈ hs p.1 ∧ ∀ m ∈ p.2, m ∈ P ++ (R.take i).map (·.1)
  | r :: R, P, 0, p, w, e => by
    cases e
    rw [List.take_zero, List.map_nil, List.append_nil]
    exact ⟨w.1, w.2.1, w.2.2.1, w.2.2.2.1⟩
  | r :: R, P, i + 1, p, w, e => by
    have := Wy.at_ w.2.2.2.2 (i := i) (p := p) (by simpa using e)
    rw [List.take_succ_cons, List.map_cons]
    rw [List.append_assoc] at this
    exact this
end
end Dl
namespace Dl
open PySem PySem.Spec PyProof.Rows L2
theorem WdG.ext {C : Addr} {fl : MS → List (Key × D)} {μb μ μ' : Mu} {M : MS} {S : SC} {b : Nat} (w : WdG C fl μb μ M S b) (k : ∀ a o, μ a = some o → μ' a = some o) : WdG C fl μb μ' M S b :=
  ⟨⟨⟨fun q hq => k _ _ (w.st.sits.at_ q hq), w.st.sits.nd⟩, w.st.hn, w.st.tn, w.st.mt⟩, ⟨fun q hq => k _ _ (w.ms.at_ q hq), w.ms.nd⟩, w.pr, w.sep, fun a o e => k a o (w.kp a o e), w.fs, w.fm⟩
theorem Two.init {C : Addr} {fl : MS → List (Key × D)} {μb μ1 μ2 : Mu} {M N : MS} {S T : SC} {b c : Nat} (w : WdG C fl μb μ1 M S b) (v : WdG C fl μ1 μ2 N T c) : Two C fl μb μ2 M S N T b c := by
  refine ⟨w.ext v.kp, v.base w.kp, fun a m m2 => ?_⟩
  obtain ⟨o, e⟩ : ∃ o, μ1 a = some o := by
    rcases List.mem_append.mp m with m | m
    · exact w.ms.there m
    · exact w.st.sits.there m
  have : μ1 a = none := by
    rcases List.mem_append.mp m2 with m | m
    · exact v.fm a m
    · exact v.fs a m
  rw [this] at e
  cases e
end Dl
namespace Dl
open PySem PySem.Spec PyProof.Rows L2
end Dl
namespace Dl
open PySem PySem.Spec PyProof.Rows L2
end Dl
namespace Dl
open PySem PySem.Spec PyProof.Rows L2
theorem Two.mono {C : Addr} {fl : MS → List (Key × D)} {μb μ : Mu} {M N : MS} {S T : SC} {b c b' c' : Nat} (t : Two C fl μb μ M S N T b c) (hb : b ≤ b') (hc : c ≤ c') : Two C fl μb μ M S N T b' c' := ⟨t.w.mono hb, t.v.mono hc, t.sep⟩
end Dl
namespace Dl
open PySem PySem.Spec PyProof.Rows L2
/-! ### an own class of exceptions over a built-in one, with an __init__ of the text -/
end Dl
namespace Dl
open PySem PySem.Spec PyProof.Rows L2
variable {B : Bs}
/-! ### what such an __init__ keeps: its arguments under the names fs -/
/-! ### such an exception made and raised -/
/-- raise C(e, ..): the wish W gets the class and the fields -/
def wRaiseL (C : Addr) (fs : List Str) (W : WXD) (a : WA) : WS := fun _ ρ μ => a ρ μ fun ds μ1 => ds.length = fs.length ∧ W (.ref C) (fs.zip ds).reverse ρ μ1
end Dl
namespace Dl
open PySem PySem.Spec PyProof.Rows L2
variable {B : Bs}
theorem RS.unset {M : Ms} {H : Hp} {ρ : Rho} {σ : L2.St} (i : Nat) (r : RS B M H ρ σ) : RS B M H (ρ.set i none) (σ.set i none) := by
  refine ⟨by simpa using r.1, fun j d e => ?_, r.2.2⟩
  by_cases h : j = i
  · subst h
    by_cases hl : j < ρ.length
    · rw [List.getElem?_set_self hl] at e
      cases e
    · rw [List.getElem?_eq_none (by simpa using hl)] at e
      cases e
  · rw [List.getElem?_set_ne (Ne.symm h)] at e ⊢
    exact r.2.1 j d e
theorem MH.no_xd {μ : Mu} {H : Hp} {a : Addr} {gs : List (Str × V)} (m : MH μ H) (h : H a = some (.xd gs)) : ¬ MD μ a := fun ⟨o, e⟩ => by
  have z := m a o e
  cases o with
  | lst ds => obtain ⟨xs, h1, _⟩ := z; rw [h] at h1; cases h1
  | dK ds => obtain ⟨xs, h1, _⟩ := z; rw [h] at h1; cases h1
  | dT ds => obtain ⟨xs, h1, _⟩ := z; rw [h] at h1; cases h1
  | ins C fs => obtain ⟨dx, gs2, h1, _⟩ := z; rw [h] at h1; cases h1
  | pot => obtain ⟨x, y, h1, _⟩ := z; rw [h] at h1; cases h1
  | ro ds => obtain ⟨xs, h1, _⟩ := z; rcases h1 with h1 | ⟨ob, h1⟩ <;> (rw [h] at h1; cases h1)
  | fz o ks kvs => have h1 := z.1; rw [h] at h1; cases h1
  | fzT o ks kvs => have h1 := z.1; rw [h] at h1; cases h1
/-! ### try: body, except C as n: suite -/
def wSuiteE (i : Nat) (DD : Ed) : Ed := { nx := fun ρ μ => DD.nx (ρ.set i none) μ, rt := DD.rt, bk := fun ρ μ => DD.bk (ρ.set i none) μ, ct := fun ρ μ => DD.ct (ρ.set i none) μ }
def wTryAs (K : Frg) (c : Value) (i : Nat) (tb : WXD → WS) (ts : Addr → Value → List (Str × D) → WS) (W : WXD) : WS := fun DD ρ μ =>
  tb (fun cls fs ρ' μ' => ∃ b, PySem.W.exmOne K cls c = some b ∧ (b = true → ∀ a, ts a cls fs (wSuiteE i DD) (ρ'.set i (some (.at a))) μ') ∧ (b = false → W cls fs ρ' μ')) DD ρ μ
section
variable {X : Cx} {x n : Str} {c : Value} {i : Nat} {body suite : List Stmt} {b₀ : Stmt} {np pos pos' : Pos} {tb : WXD → WS} {ts : Addr → Value → List (Str × D) → WS} {W : WXD}
theorem js_try_as (hs : X.stack = X.env :: X.outer) (hf : X.env.frame = some X.env.locals) (hN : X.N.Nodup) (hi : X.N[i]? = some n) (hln : X.env.kindOf n = some .local) (hc : Names X x c) (tk : Takes X (upX B W))
    (hb : ∀ (B' : Bs) (WD : WXD) (pn : List (Addr × Obj)) (xe : Value → Shared → Prop), Takes (X.tr pn xe) (upX B' WD) → PassesOwn (model X.prog X.w) X.A X.env xe → JSs B' (X.tr pn xe) body (tb WD))
    (hsu : ∀ (B' : Bs) (a : Addr) (oe : Obj) (cls : Value) (d : Option Addr) (fs : List (Str × D)) (pn : List (Addr × Obj)), Zc cls d oe → (∃ vs, oe.data = .fields vs) → Flds B'.1 B'.2 d fs → (∀ dd, d = some dd → ¬ B'.1 dd) → JSs B' (X.suite a ((a, oe) :: pn)) (b₀ :: suite) (ts a cls fs)) :
    JS B X (.Try body [.ExceptHandler (some (.Name x np)) (some n) (b₀ :: suite) pos'] [] [] pos) (wTryAs X.K c i tb ts W) := by
  refine PS.of (ps_try_as (c := c) (i := i) (Wout := upX B W)
    (tb := fun WL E σ H => ∃ (B' : Bs) (WD : WXD), (∀ cls d σ' H', upX B' WD cls d σ' H' → WL cls d σ' H') ∧ upS B' (tb WD) E σ H)
    (ts := fun a cls d E σ H => ∃ (B' : Bs) (fs : List (Str × D)), Flds B'.1 B'.2 d fs ∧ (∀ dd, d = some dd → ¬ B'.1 dd) ∧ upS B' (ts a cls fs) E σ H) hs hf hN hi hln hc tk (fun WL pn xe tkL po => ?_) (fun a oe cls d pn hz hfl => ?_)) ?_
  · exact ⟨fun pins s σ H E I ⟨B', WD, imp, h⟩ => (hb B' WD pn xe (tkL.imp imp) po).run pins s σ H E I h⟩
  · exact ⟨fun pins s σ H E I ⟨B', fs, fl, nm, h⟩ => (hsu B' a oe cls d fs pn hz hfl fl nm).run pins s σ H E I h⟩
  · intro E σ H ⟨ρ, μ, DD, rs, m, h, l⟩
    refine ⟨(MD μ, H), _, ?_, ρ, μ, DD, ⟨rs.1, rs.2.1, .refl⟩, m, h, ⟨fun σ' H' ρ' μ' st r2 m2 q => l.nx σ' H' ρ' μ' st ⟨r2.1, r2.2.1, rs.2.2.trans st⟩ m2 q, fun v H' d μ' st m2 hd q => l.rt v H' d μ' st m2 hd q, fun σ' H' ρ' μ' st r2 m2 q => l.bk σ' H' ρ' μ' st ⟨r2.1, r2.2.1, rs.2.2.trans st⟩ m2 q, fun σ' H' ρ' μ' st r2 m2 q => l.ct σ' H' ρ' μ' st ⟨r2.1, r2.2.1, rs.2.2.trans st⟩ m2 q⟩⟩
    rintro cls d σ' H' ⟨fs, ρ', μ', fl, r2, m2, b, hb1, hyes, hno⟩
    have st : Step (MD μ) H (MD μ') H' := r2.2.2
    refine ⟨b, hb1, fun hbt a na => ⟨(MD μ', H'), fs, fl, fun dd e => (by subst e; obtain ⟨gs, h1, _⟩ := fl; exact m2.no_xd h1), ρ'.set i (some (.at a)), μ', wSuiteE i DD, ?_, m2, hyes hbt a, ?_⟩, fun hbf => ⟨fs, ρ', μ', fl, ⟨r2.1, r2.2.1, rs.2.2.trans st⟩, m2, hno hbf⟩⟩
    · have r3 := RS.set (d := .at a) (v := .ref a) i r2 rfl
      exact ⟨r3.1, r3.2.1, .refl⟩
    · exact ⟨fun σ2 H2 ρ2 μ2 s2 r3 m3 q => l.nx _ H2 (ρ2.set i none) μ2 (st.trans s2) (RS.unset i ⟨r3.1, r3.2.1, (rs.2.2.trans st).trans s2⟩) m3 q, fun v H2 d2 μ2 s2 m3 hd q => l.rt v H2 d2 μ2 (st.trans s2) m3 hd q,
        fun σ2 H2 ρ2 μ2 s2 r3 m3 q => l.bk _ H2 (ρ2.set i none) μ2 (st.trans s2) (RS.unset i ⟨r3.1, r3.2.1, (rs.2.2.trans st).trans s2⟩) m3 q, fun σ2 H2 ρ2 μ2 s2 r3 m3 q => l.ct _ H2 (ρ2.set i none) μ2 (st.trans s2) (RS.unset i ⟨r3.1, r3.2.1, (rs.2.2.trans st).trans s2⟩) m3 q⟩
end
/-! ### fields of the exception that a suite holds -/
theorem Flds.stp {M M' : Ms} {H H' : Hp} {d : Option Addr} {fs : List (Str × D)} (f : Flds M H d fs) (nm : ∀ dd, d = some dd → ¬ M dd) (st : Step M H M' H') : Flds M' H' d fs := by
  cases d with
  | none => exact f
  | some dd =>
    obtain ⟨gs, h1, h2⟩ := f
    exact ⟨gs, st.keep dd _ (nm dd rfl) h1, KD.step st h2⟩
/-- e.f of an exception of the class at C -/
def wXf (a : Addr) (cls : Value) (fs : List (Str × D)) (C : Addr) (f : Str) (w : WE) : WE := fun ρ μ Q => w ρ μ fun d μ1 => d = .at a ∧ cls = .ref C ∧ ∃ v, fs.lookup f = some v ∧ Q v μ1
end Dl
namespace Dl
open PySem PySem.Spec PyProof.Rows L2
variable {B : Bs}
/-! ### isinstance(e, ..) of the exception that a suite holds -/
def clsD : D → Option Value
  | .at C => some (.ref C)
  | .ty n => some (.type n)
  | _ => none
def IsK (K : Frg) (C : Addr) (d : D) (b : Bool) : Prop := (∃ cv, clsD d = some cv ∧ PySem.W.kitOne K (.ref C) cv = some b) ∨ ∃ ds cvs, d = .tup ds ∧ ds.map clsD = cvs.map some ∧ PySem.W.kitAny K (.ref C) cvs = some b
structure IsC (K : Frg) (C : Addr) : Prop where
  cl : PySem.W.isClsIn K C = true
  ga : PySem.W.findIn K (.ref C) "__getattribute__" = some (some (.builtin "BaseException.__getattribute__"))
  gt : PySem.W.findIn K (.ref C) "__getattr__" = some none
  sub : PySem.W.subIn K (.ref C) (.type "BaseException") = some true
  ha : PySem.W.findIn K (.ref C) "__class__" = some (some (.builtin "object.__class__"))
  hn : PySem.W.specialIn K (.builtin "object.__class__") "__get__" = some (some (.builtin "getset_descriptor.__get__"))
  tk : PySem.W.takesIn K (.builtin "object.__class__") = some true
  hm : PySem.W.mroIn K C (.type "object") = some true
def rIsX (K : Frg) (C a : Addr) (d : Option Addr) : List V → Hp → VK → Prop := fun xs H Q => (∀ dd, d = some dd → ∃ gs, H dd = some (.xd gs)) ∧ ∃ (c : V) (b : Bool), xs = [.ref a, c] ∧
  ((∃ cv, (∀ u, RelV c u → u = cv) ∧ PySem.W.kitOne K (.ref C) cv = some b) ∨ ∃ (tp : Addr) (cs : List V) (cvs : List Value), c = .ref tp ∧ H tp = some (.tup cs) ∧ (∀ us, Vals cs us → us = cvs) ∧ PySem.W.kitAny K (.ref C) cvs = some b) ∧ Q (.bl b) H
theorem call_isX {X : Cx} {a C : Addr} {d : Option Addr} {oe : Obj} {pn : List (Addr × Obj)} (T : IsC X.K C) (hz : Zc (.ref C) d oe) (hf : ∃ vs, oe.data = .fields vs) : CallR (X.suite a ((a, oe) :: pn)) (.builtin "isinstance") (rIsX X.K C a d) := by
  intro pins s σ H xs us Q I r ⟨hd, c, b, e, h, q⟩
  subst e
  cases r with
  | cons rx rr =>
    cases rr with
    | cons rt rr =>
      cases rr
      cases rx
      obtain ⟨hget, _⟩ := I.pin (a, oe) (List.mem_append.mpr (.inl List.mem_cons_self))
      obtain ⟨vs, hv⟩ := hf
      obtain ⟨od, J⟩ : ∃ od, PySem.W.InstAt s.heap a oe C od := by
        have nc : PySem.W.notCls oe := by unfold PySem.W.notCls; rw [hv] <;> rfl
        cases d with
        | none => exact ⟨none, hget, hz.1, nc, by rw [hz.2]; trivial⟩
        | some dd =>
          obtain ⟨gs, hg⟩ := hd dd rfl
          have hx : ObjOk X.prog X.w H s.heap dd (.xd gs) := I.hok dd _ hg
          obtain ⟨mA, hns, _⟩ := hx
          obtain ⟨od, ho, _⟩ := lookIn_ns hns
          exact ⟨some od, hget, hz.1, nc, by rw [hz.2]; exact ho⟩
      have Z := PySem.W.kitx_exc (x := a) (ox := oe) (od := od) T.cl T.ga T.gt T.sub T.ha T.hn T.tk T.hm
      rcases h with ⟨cv, hcv, hk⟩ | ⟨tp, cs, cvs, ec, ht, hcv, hk⟩
      · have ec := hcv _ rt
        subst ec
        exact PySem.W.kia_one Z I.kIn J hk (fun z => nomatch z) fun tk => ⟨.bl b, H, I.kept (t' := tk) fun _ _ z => z, rfl, q⟩
      · subst ec
        cases rt
        obtain ⟨its, rv, ⟨o, ho, hc, n, hdt⟩, _⟩ := I.tuple (SqT.of ht)
        have ei := hcv _ rv
        subst ei
        obtain ⟨o1, o2, o3, o4⟩ := o
        dsimp only at hc hdt
        subst hc hdt
        have pl := ho
        exact PySem.W.kia_tup Z I.kIn J pl hk (fun z => nomatch z) fun tk => ⟨.bl b, H, I.kept (t' := tk) fun _ _ z => z, rfl, q⟩
end Dl
namespace Dl
open PySem PySem.Spec PyProof.Rows L2
variable {B : Bs}
theorem clsD_v {M : Ms} {H : Hp} {d : D} {v : V} {cv : Value} (e : clsD d = some cv) (r : VD M H d v) : ∀ u, RelV v u → u = cv := fun u ru => by
  cases d with
  | «at» C =>
    cases e
    rw [show v = V.ref C from r] at ru
    exact ru
  | ty n =>
    cases e
    rw [show v = V.ty n from r] at ru
    exact ru
  | _ => cases e
theorem clsD_vs {M : Ms} {H : Hp} : ∀ {ds : List D} {vs : List V} {cvs : List Value}, ds.map clsD = cvs.map some → VDs M H ds vs → ∀ us, Vals vs us → us = cvs
  | [], _, cvs, e, r, us, ru => by
    rw [show _ = [] from r] at ru
    cases ru
    cases cvs with
    | nil => rfl
    | cons _ _ => cases e
  | d :: ds, _, cvs, e, r, us, ru => by
    obtain ⟨v, vs, rfl, h1, h2⟩ := r
    cases ru with
    | cons r1 r2 =>
      cases cvs with
      | nil => cases e
      | cons c cs =>
        simp only [List.map_cons, List.cons.injEq] at e
        rw [clsD_v e.1 h1 _ r1, clsD_vs e.2 h2 _ r2]
/-- isinstance(e, c) -/
def wIsX (K : Frg) (a : Addr) (cls : Value) (C : Addr) (t : WA) : WE := fun ρ μ Q => t ρ μ fun ds μ1 => cls = .ref C ∧ ∃ c b, ds = [.at a, c] ∧ IsK K C c b ∧ Q (.bl b) μ1
theorem je_isX {X : Cx} {a C : Addr} {oe : Obj} {cls : Value} {d : Option Addr} {pn : List (Addr × Obj)} {e : Expr} {es : List Expr} {w : WA} {p pos : Pos} {fs : List (Str × D)} (T : IsC X.K C) (hm : X.mg "isinstance" = none)
    (hz : Zc cls d oe) (hf : ∃ vs, oe.data = .fields vs) (fl : Flds B.1 B.2 d fs) (nm : ∀ dd, d = some dd → ¬ B.1 dd) (ha : JA B (X.suite a ((a, oe) :: pn)) (e :: es) w)
    (hv : bootBuiltins "isinstance" = some (.builtin "isinstance") := by decide +kernel) (hg : Gl X "isinstance" := by rfl)
    (he : starEach (e :: es) X.env = (false, eval e X.env) :: starEach es X.env := by rfl) (hpl : (backTo pos (starEach es X.env)).any (·.1) = false := by rfl) :
    JE B (X.suite a ((a, oe) :: pn)) (.Call (.Name "isinstance" p) (e :: es) [] pos) (wIsX X.K a cls C w) := by
  by_cases hc : cls = .ref C
  · subst hc
    refine PE.of (pe_callB (X := X.suite a ((a, oe) :: pn)) (call_isX T hz hf) hg hm hv ha (by decide) (by decide) he hpl) fun σ H Q ⟨ρ, μ, QD, rs, m, h, k⟩ => ?_
    refine ⟨ρ, μ, _, rs, m, h, fun vs H1 ds μ1 s1 m1 v1 ⟨_, c, b, e1, hk, q⟩ => ?_⟩
    subst e1
    have f2 := fl.stp nm (rs.2.2.trans s1)
    refine ⟨fun dd ed => ?_, ?_⟩
    · subst ed
      obtain ⟨gs, g1, _⟩ := f2
      exact ⟨gs, g1⟩
    · obtain ⟨v0, vs0, rfl, h0, v2, vs2, rfl, h2, e3⟩ := v1
      rw [show vs2 = [] from e3, show v0 = V.ref a from h0]
      refine ⟨v2, b, rfl, ?_, k _ _ ⟨.bl b, μ1, s1, m1, rfl, q⟩⟩
      rcases hk with ⟨cv, h3, h4⟩ | ⟨ds, cvs, rfl, h3, h4⟩
      · exact .inl ⟨cv, clsD_v h3 h2, h4⟩
      · obtain ⟨tp, xs, rfl, ⟨_, ht⟩, hx⟩ := h2
        exact .inr ⟨tp, xs, cvs, rfl, ht, clsD_vs h3 hx, h4⟩
  · exact ⟨fun pins s σ H Q I ⟨ρ, μ, QD, rs, m, h, k⟩ => by
      have := pe_callB (X := X.suite a ((a, oe) :: pn)) (x := "isinstance") (p := p) (pos := pos) (id := "isinstance") (r := fun _ _ _ => False) (fun _ _ _ _ _ _ _ _ _ z => z.elim) hg hm hv ha (by decide) (by decide) he hpl
      exact this.run pins s σ H Q I ⟨ρ, μ, _, rs, m, h, fun vs H1 ds μ1 s1 m1 v1 ⟨z, _⟩ => hc z⟩⟩
/-! ### what a class that raises promises -/
end Dl
namespace Dl
open PySem PySem.Spec PyProof.Rows L2
theorem kit_no {K : Frg} {C Y : Addr} (h0 : PySem.W.subIn K (.ref C) (.ref C) = some true) (hs : PySem.W.subIn K (.ref C) (.ref Y) = some false) (hc : PySem.W.isClsIn K Y = true) (ht : PySem.W.typeIn K (.ref Y) = some (.type "type")) : PySem.W.kitOne K (.ref C) (.ref Y) = some false := by
  have ne : C ≠ Y := fun z => by
    subst z
    rw [hs] at h0
    cases h0
  unfold PySem.W.kitOne PySem.W.kitCls
  have hi : (PySem.W.clsIn K Y).isSome = true := hc
  rw [if_neg (by simpa using ne)]
  simp only [hi, ht, beq_self_eq_true, Bool.and_self, if_true]
  exact hs
theorem kit_yes {K : Frg} {C Y : Addr} (hs : PySem.W.subIn K (.ref C) (.ref Y) = some true) (hc : PySem.W.isClsIn K Y = true) (ht : PySem.W.typeIn K (.ref Y) = some (.type "type")) : PySem.W.kitOne K (.ref C) (.ref Y) = some true := by
  unfold PySem.W.kitOne PySem.W.kitCls
  have hi : (PySem.W.clsIn K Y).isSome = true := hc
  split
  · rfl
  · simp only [hi, ht, beq_self_eq_true, Bool.and_self, if_true]
    exact hs
theorem kit_ty {K : Frg} {C : Addr} {n : String} {b : Bool} (hs : PySem.W.subIn K (.ref C) (.type n) = some b) (hm : PySem.W.kitMeta n = true) : PySem.W.kitOne K (.ref C) (.type n) = some b := by
  unfold PySem.W.kitOne PySem.W.kitCls
  rw [if_neg (by simp)]
  show (if PySem.W.kitMeta n = true then PySem.W.subIn K (.ref C) (.type n) else none) = some b
  rw [if_pos hm]
  exact hs
theorem kit_any {K : Frg} {C : Addr} : ∀ {l : List Value}, (∀ v ∈ l, PySem.W.kitOne K (.ref C) v = some false) → PySem.W.kitAny K (.ref C) l = some false
  | [], _ => rfl
  | v :: l, h => by
    unfold PySem.W.kitAny
    rw [h v List.mem_cons_self]
    exact kit_any fun x hx => h x (List.mem_cons_of_mem _ hx)
end Dl
namespace Dl
open PySem PySem.Spec PyProof.Rows L2
/-! ### spans in lists -/
theorem Cnt.none_of {tb : Tb Sp2} {S : List Sp2} (h : Cnt tb S) {s : Sp2} (n : s ∉ S) : getI tb s = none := by
  have hv := h.val s
  rw [List.count_eq_zero_of_not_mem n] at hv
  cases e : getI tb s with
  | none => rfl
  | some v =>
    have e2 : valI tb s = v := by unfold valI; rw [e]; rfl
    rw [e2] at hv
    unfold getI at e
    obtain ⟨q, hq, e3⟩ := Option.map_eq_some_iff.mp e
    exact absurd (e3.trans hv) (h.nz q (List.mem_of_find?_eq_some hq))
/-! ### the walk from end to end -/
structure WkB (S : List Sp2) (l : Int) : Prop where
  nn : 0 ≤ l
  below : ∀ m, 0 ≤ m → m < l → 0 < cr S m
theorem WkB.zero {S : List Sp2} : WkB S 0 := ⟨Int.le_refl _, fun m a b => by omega⟩
theorem WkB.bare {S : List Sp2} {l : Int} (w : WkB S l) (e : (S.filter (crossP l)) = []) : Bare S l := ⟨w.nn, by unfold cr; rw [e]; rfl, w.below⟩
theorem WkB.next {S : List Sp2} {l g : Int} (w : WkB S l) (h : g ∈ (S.filter (crossP l)).map (·.2)) : WkB S g ∧ l < g := by
  obtain ⟨s, hs, rfl⟩ := List.mem_map.mp h
  obtain ⟨h1, h2⟩ := List.mem_filter.mp hs
  simp only [crossP, Bool.and_eq_true, decide_eq_true_eq] at h2
  refine ⟨⟨by have := w.nn; omega, fun m m0 m1 => ?_⟩, h2.2⟩
  by_cases c : m < l
  · exact w.below m m0 c
  · unfold cr
    refine List.length_pos_iff.mpr fun z => ?_
    have : s ∈ S.filter (crossP m) := List.mem_filter.mpr ⟨h1, by simp only [crossP, Bool.and_eq_true, decide_eq_true_eq]; omega⟩
    rw [z] at this
    cases this
end Dl
namespace Dl
open PySem PySem.Spec PyProof.Rows L2
variable {B : Bs}
/-! ### a, b, .. = a list of that length -/
def wgLst (n : Nat) (r : WGs) : WG := fun d ρ μ Q => match d with
  | .lst ds => ds.length = n ∧ r ds ρ μ Q
  | _ => False
theorem jg_lst {X : Cx} {es : List Expr} {r : WGs} {pos : Pos} {k : Nat} (n : Nat) (hc : X.calm = true) (h : JGs B X es r) (hn : (assignEach es X.env).length = n := by rfl) (hst : (assignEach es X.env).findIdx? (·.1) = none := by rfl) : JG B X (.Tuple es k pos) (wgLst n r) := PG.of (pg_lst hc h hn hst) fun v σ H Q ⟨d, ρ, μ, QD, vd, rs, m, h, kk⟩ => by
  unfold wgLst at h
  split at h
  · rename_i ds
    obtain ⟨p, xs, ev, f, g⟩ := vd
    exact ⟨p, xs, ev, SqL.of f.2, by rw [← g.length]; exact h.1, ds, ρ, μ, QD, g, rs, m, h.2, kk⟩
  · exact h.elim
theorem rd_glst {n : Nat} {r : WGs} {ds : List D} {ρ : Rho} {μ : Mu} {Q : Rho → Mu → Prop} (h : ds.length = n) (q : r ds ρ μ Q) : wgLst n r (.lst ds) ρ μ Q := ⟨h, q⟩
/-! ### d.values() walked, under the lock -/
def wVals (w : WE) : WI := fun ρ μ Q => w ρ μ fun d μ1 => ∃ p o ks kvs, d = .at p ∧ μ1 p = some (.fz o ks kvs) ∧ Q (kvs.map fun q => q.2) (fun μ => μ p = some (.fz o ks kvs)) μ1
theorem ji_vals {X : Cx} {tg x : Expr} {w : WE} {apos cpos : Pos} (he : JE B X x w) (hbase : attributeBase x "values" X.env (eval x X.env) = eval x X.env := by rfl) (hline : (apos.endLine == cpos.line) = true := by rfl) : JI B X tg (.Call (.Attribute x "values" apos) [] [] cpos) (wVals w) :=
  PI.of (pi_values he hbase hline) fun σ H R ⟨ρ, μ, QD, rs, m, h, k⟩ => up_mk rs m h fun v H1 d μ1 s1 m1 v1 ⟨p, o, ks, kvs, ed, hp, h1⟩ => by
    subst ed
    obtain ⟨e1, kd⟩ := m1 p _ hp
    refine ⟨p, o, ks, v1, e1, k _ H1 _ (fun μ => μ p = some (.fz o ks kvs)) μ1 s1 m1 ⟨fun i H2 hi ⟨μ2, st, mh, kp⟩ => ?_, fun H2 ⟨μ2, st, mh, kp⟩ => ?_, fun i H2 x H' hi _ hy μ2 st mh kp => ?_⟩ h1⟩
    · obtain ⟨e2, kd2⟩ := mh p _ kp
      exact ⟨e2, by rw [← kd.length]; simpa using hi⟩
    · obtain ⟨e2, kd2⟩ := mh p _ kp
      exact ⟨e2, by rw [← kd.length]; simp⟩
    · obtain ⟨_, kd2⟩ := mh p _ kp
      obtain ⟨e2, ky, e3⟩ := hy
      subst e2
      have hi' : i < kvs.length := by simpa using hi
      obtain ⟨v', e4, hv⟩ := kd2.get (i := i) (k := kvs[i].1) (d := kvs[i].2) (List.getElem?_eq_getElem hi')
      rw [e3] at e4
      cases e4
      exact ⟨kvs[i].2, by rw [List.getElem?_map, List.getElem?_eq_getElem hi']; rfl, .refl, mh, hv⟩
/-! ### list(range(a, b)) -/
def wLstRg2 (mm : Bool) (a b : WE) : WE := fun ρ μ Q => a ρ μ fun d μ1 => b ρ μ1 fun e μ2 => ∃ i n : Int, d = .int i ∧ e = .int n ∧ (0 ≤ i ∧ i ≤ 1000000) ∧ (0 ≤ n ∧ n ≤ 1000000) ∧ New mm ((List.range (n - i).toNat).map fun k : Nat => .int (i + k)) μ2 Q
theorem VDs.rg2 {M : Ms} {H : Hp} (i : Int) : ∀ n : Nat, VDs M H ((List.range n).map fun k : Nat => (.int (i + k) : D)) ((List.range n).map fun k : Nat => V.int (i + (k : Int)))
  | 0 => rfl
  | n + 1 => by
    rw [List.range_succ, List.map_append, List.map_append]
    exact (VDs.rg2 i n).append ⟨_, _, rfl, rfl, rfl⟩
theorem je_listRg2 {X : Cx} {e f : Expr} (mm : Bool) {p pos p2 pos2 : Pos} {w w2 : WE} (hm : X.mg "list" = none) (hm2 : X.mg "range" = none) (ha : JE B X e w) (hb : JE B X f w2) (hc : X.calm = true := by rfl) (hg : Gl X "list" := by rfl) (hg2 : Gl X "range" := by rfl)
    (na2 : starEach [e, f] X.env = (false, eval e X.env) :: starEach [f] X.env := by rfl) (nb2 : starEach [f] X.env = (false, eval f X.env) :: starEach [] X.env := by rfl) (hp2 : (backTo pos2 (starEach [f] X.env)).any (·.1) = false := by rfl)
    (na : starEach [.Call (.Name "range" p2) [e, f] [] pos2] X.env = (false, eval (.Call (.Name "range" p2) [e, f] [] pos2) X.env) :: starEach [] X.env := by rfl) :
    JE B X (.Call (.Name "list" p) [.Call (.Name "range" p2) [e, f] [] pos2] [] pos) (wLstRg2 mm w w2) := PE.of (pe_listRg hc hg hm (prg_2 hg2 hm2 ha hb na2 nb2 hp2) na) fun σ H Q ⟨ρ, μ, QD, rs, m, h, k⟩ =>
  up_mk rs m h fun v H1 d μ1 s1 m1 v1 h1 => up_mk (rs.step s1) m1 h1 fun v2 H2 d2 μ2 s2 m2 v2' ⟨i, n, e1, e2, b1, b2, q⟩ => by
    subst e1 e2
    rw [show v = V.int i from v1, show v2 = V.int n from v2']
    refine ⟨i, n, rfl, rfl, .of_le (by omega) (by omega) (by omega) (by omega), fun p hp => k _ _ ((lft_new m2 ?_ hp q).trans (s1.trans s2))⟩
    exact VDs.rg2 i (n - i).toNat
end Dl
namespace Dl
open PySem PySem.Spec PyProof.Rows L2
/-! ### twenty-six names, one of them is free -/
def nmq (c : Nat) : Str := ⟨#[c, 113]⟩
theorem nmq_eq (c : Nat) : (one1 c ++ ("q" : Str) : Str) = nmq c := by
  show (⟨#[c] ++ ("q" : Str).cps⟩ : Str) = _
  rfl
theorem nmq_ok : ∀ c ∈ letters.cps.toList, nameB (nmq c) = true := by decide +kernel
theorem nmq_inj : (letters.cps.toList.map nmq).Nodup := by decide +kernel
theorem chars_let : chars letters = letters.cps.toList.map fun c => .str (one1 c) := rfl
theorem free26 {xs : List Str} (h : xs.length < 26) : ∃ c rest, (letters.cps.toList.filter fun c => !decide (nmq c ∈ xs)) = c :: rest ∧ nmq c ∉ xs ∧ nameB (nmq c) = true := by
  cases e : letters.cps.toList.filter fun c => !decide (nmq c ∈ xs) with
  | nil =>
    exfalso
    have sub : ∀ x ∈ letters.cps.toList.map nmq, x ∈ xs := fun x hx => by
      obtain ⟨c, hc, rfl⟩ := List.mem_map.mp hx
      have := List.filter_eq_nil_iff.mp e c hc
      simpa using this
    have h2 : (letters.cps.toList.map nmq).length ≤ xs.length := len_sub nmq_inj sub
    have h3 : (letters.cps.toList.map nmq).length = 26 := by decide +kernel
    omega
  | cons c rest =>
    have m : c ∈ letters.cps.toList.filter fun c => !decide (nmq c ∈ xs) := by rw [e]; exact List.mem_cons_self
    obtain ⟨m1, m2⟩ := List.mem_filter.mp m
    exact ⟨c, rest, rfl, by simpa using m2, nmq_ok c m1⟩
/-! ### the last place of a thing in a row -/
theorem last_rev : ∀ (ys : List Int) (n : Int), n ∈ ys → ∃ A, ((List.range ys.length).filter fun k => decide (ys.reverse[k]? = some n)) = A ++ [ys.length - 1 - ys.idxOf n]
  | [], n, h => by cases h
  | y :: ys, n, h => by
    have e0 : (List.range (y :: ys).length).filter (fun k => decide ((y :: ys).reverse[k]? = some n)) = (List.range ys.length).filter (fun k => decide (ys.reverse[k]? = some n)) ++ (if y = n then [ys.length] else []) := by
      rw [List.length_cons, List.range_succ, List.filter_append, List.reverse_cons]
      congr 1
      · refine List.filter_congr fun k hk => ?_
        rw [List.getElem?_append_left (by rw [List.length_reverse]; exact List.mem_range.mp hk)]
      · rw [List.filter_cons, List.filter_nil]
        rw [List.getElem?_append_right (by rw [List.length_reverse]; exact Nat.le_refl _), List.length_reverse, Nat.sub_self]
        by_cases c : y = n
        · rw [if_pos c, c]
          simp
        · rw [if_neg c]
          simp [c]
    rw [e0]
    by_cases c : y = n
    · rw [if_pos c]
      exact ⟨_, by rw [c, List.idxOf_cons_self, List.length_cons]; rfl⟩
    · rw [if_neg c, List.append_nil]
      have hx : n ∈ ys := by
        rcases List.mem_cons.mp h with z | z
        · exact absurd z.symm c
        · exact z
      obtain ⟨A, e⟩ := last_rev ys n hx
      refine ⟨A, ?_⟩
      rw [e]
      congr 2
      have hj := List.idxOf_lt_length_of_mem hx
      have e9 : (y :: ys).idxOf n = ys.idxOf n + 1 := by
        have c2 : (y == n) = false := by simpa using c
        rw [List.idxOf_cons, c2]
        rfl
      rw [e9, List.length_cons]
      omega
theorem last_at (xs : List Int) (n : Int) (h : n ∈ xs) : ∃ A, ((List.range xs.length).filter fun k => decide (xs[k]? = some n)) = A ++ [xs.length - 1 - xs.reverse.idxOf n] := by
  have := last_rev xs.reverse n (List.mem_reverse.mpr h)
  rw [List.reverse_reverse, List.length_reverse] at this
  exact this
/-! ### hands, rows, slots, how many were made, names of slots -/
def fl5 (M : MS) : List (Key × D) := [(.inr "hands", .lst ((M.rs.map (·.1)).map .str)), (.inr "rows", .at M.mr), (.inr "slots", .at M.ms), (.inr "made", .int M.many), (.inr "pool", .lst (M.names.map .str))]
theorem fl5_ok : Fl fl5 where
  rows := fun M => by rfl
  slots := fun M => by rfl
  made := fun M => by rfl
  put := fun M j => by
    unfold fl5
    rfl
  len := fun M => by
    show 5 ≤ 1000
    decide
  dep := fun M M' a b c d e => by
    unfold fl5
    rw [a, b, c, d, e]
/-- what is kept beside: few names of slots, things numbered as they are made -/
structure Fam (M : MS) : Prop where
  nd : M.names.Nodup
  n8 : M.names.length ≤ 8
  inn : ∀ x ∈ M.ts, ∀ q ∈ x.sl, q.1 ∈ M.names
  seq : M.ts.map MT.n = (List.range M.ts.length).map fun i : Nat => (i : Int)
  many : M.many = M.ts.length
theorem Fam.room {M : MS} (f : Fam M) (o : MOk M) {x : MT} (hx : x ∈ M.ts) {k : Str} (hk : k ∈ M.names) (h : getA x.sl k = none) : x.sl.length < 8 := by
  have nd := o.sn x hx
  have h1 : k ∉ x.sl.map (·.1) := fun m => by
    obtain ⟨q, hq, e⟩ := List.mem_map.mp m
    unfold getA at h
    cases c : x.sl.find? fun q => decide (q.1 = k) with
    | none => exact absurd (List.find?_eq_none.mp c q hq) (by simp [e])
    | some z => rw [c] at h; cases h
  have h2 : (k :: x.sl.map (·.1)).Nodup := List.nodup_cons.mpr ⟨h1, nd⟩
  have h3 := len_sub h2 (k := M.names) fun y hy => by
    rcases List.mem_cons.mp hy with rfl | hy
    · exact hk
    · obtain ⟨q, hq, rfl⟩ := List.mem_map.mp hy
      exact f.inn x hx q hq
  rw [List.length_cons, List.length_map] at h3
  have := f.n8
  omega
end Dl
namespace Dl
open PySem PySem.Spec PyProof.Rows L2
/-- deeds of known hands and slots; whether they may be done isn't told -/
def Dd.Sh (hs ks : List Str) : Dd → Prop
  | .make h w => h ∈ hs ∧ w = ""
  | .fill h _ k _ => h ∈ hs ∧ k ∈ ks
  | .empty h _ k => h ∈ hs ∧ k ∈ ks
  | .take h _ k => h ∈ hs ∧ k ∈ ks
  | .give h _ t => h ∈ hs ∧ t ∈ hs
  | .drop h _ => h ∈ hs
theorem valOf_at {sl : List (Str × Rw)} {k : Str} {r : Rw} (h : getA sl k = some r) : valOf sl k = r.val := by
  unfold valOf
  rw [h]
theorem fam_note {M : MS} {dd : Dd} {a : Addr} (f : Fam M) (sh : dd.Sh (M.rs.map (·.1)) M.names) : Fam (M.note a dd) := by
  cases dd with
  | make h w =>
    refine ⟨f.nd, f.n8, fun x hx q hq => ?_, ?_, ?_⟩
    · rcases List.mem_append.mp (show x ∈ M.ts ++ [_] from hx) with z | z
      · exact f.inn x z q hq
      · rw [List.mem_singleton.mp z] at hq
        cases hq
    · show (M.ts ++ [_]).map MT.n = (List.range (M.ts ++ [_]).length).map _
      rw [List.map_append, f.seq, List.length_append, List.length_singleton, List.range_succ, List.map_append, List.map_singleton, List.map_singleton, f.many]
    · show M.many + 1 = ((M.ts ++ [_]).length : Int)
      rw [List.length_append, List.length_singleton, f.many]
      rfl
  | fill h o k r =>
    have hk : k ∈ M.names := sh.2
    refine ⟨f.nd, f.n8, fun x hx q hq => ?_, ?_, ?_⟩
    · obtain ⟨y, hy, rfl⟩ := List.mem_map.mp hx
      by_cases c : y.n = o
      · rw [if_pos c] at hq
        have hq : q ∈ putA y.sl k r := hq
        unfold putA at hq
        split at hq
        · obtain ⟨z, hz, e⟩ := List.mem_map.mp hq
          have := f.inn y hy z hz
          by_cases c2 : z.1 = k
          · rw [if_pos c2] at e
            rw [← e]
            exact this
          · rw [if_neg c2] at e
            rw [← e]
            exact this
        · rcases List.mem_append.mp hq with z | z
          · exact f.inn y hy q z
          · rw [List.mem_singleton.mp z]
            exact hk
      · rw [if_neg c] at hq
        exact f.inn y hy q hq
    · show (M.ts.map _).map MT.n = (List.range (M.ts.map _).length).map _
      rw [List.length_map, List.map_map, ← f.seq]
      refine List.map_congr_left fun y _ => ?_
      show MT.n (if y.n = o then _ else y) = y.n
      split <;> rfl
    · show M.many = ((M.ts.map _).length : Int)
      rw [List.length_map, f.many]
  | empty h o k =>
    refine ⟨f.nd, f.n8, fun x hx q hq => ?_, ?_, ?_⟩
    · obtain ⟨y, hy, rfl⟩ := List.mem_map.mp hx
      by_cases c : y.n = o
      · rw [if_pos c] at hq
        exact f.inn y hy q (List.mem_filter.mp (show q ∈ dropA y.sl k from hq)).1
      · rw [if_neg c] at hq
        exact f.inn y hy q hq
    · show (M.ts.map _).map MT.n = (List.range (M.ts.map _).length).map _
      rw [List.length_map, List.map_map, ← f.seq]
      refine List.map_congr_left fun y _ => ?_
      show MT.n (if y.n = o then _ else y) = y.n
      split <;> rfl
    · show M.many = ((M.ts.map _).length : Int)
      rw [List.length_map, f.many]
  | take h o k => exact ⟨f.nd, f.n8, f.inn, f.seq, f.many⟩
  | give h x t => exact ⟨f.nd, f.n8, f.inn, f.seq, f.many⟩
  | drop h x => exact ⟨f.nd, f.n8, f.inn, f.seq, f.many⟩
end Dl
namespace Dl
open PySem PySem.Spec PyProof.Rows L2
theorem at2 {a b c : D} {l : List D} : atI (a :: b :: c :: l) 2 = some c := by
  have e : ixN (a :: b :: c :: l).length 2 = some 2 := by
    unfold ixN
    rw [if_pos (by decide), if_pos (by simp only [List.length_cons]; omega)]
    rfl
  unfold atI
  rw [e]
  rfl
theorem at3 {a b c d : D} {l : List D} : atI (a :: b :: c :: d :: l) 3 = some d := by
  have e : ixN (a :: b :: c :: d :: l).length 3 = some 3 := by
    unfold ixN
    rw [if_pos (by decide), if_pos (by simp only [List.length_cons]; omega)]
    rfl
  unfold atI
  rw [e]
  rfl
end Dl
namespace Dl
open PySem PySem.Spec PyProof.Rows L2
theorem atI_snoc {α : Type} {A : List α} {x : α} : atI (A ++ [x]) (-1) = some x := by
  have e : ixN (A.length + 1) (-1) = some A.length := by
    unfold ixN
    rw [if_neg (by omega), if_pos (by omega)]
    congr 1
    omega
  unfold atI
  simp only [List.length_append, List.length_cons, List.length_nil]
  rw [e]
  simp
end Dl
namespace Dl
open PySem PySem.Spec PyProof.Rows L2
/-! ### a dict walked: what holds behind the lock -/
theorem rd_lockS {w : WS} {DD : Ed} {ρ : Rho} {μ : Mu} {p : Addr} {kvs : List (Key × D)} (h : μ p = some (.dK kvs))
    (key : ∀ (DD2 : Ed) (ν : Mu) o ks, ν p = some (.fz o ks kvs) → (∀ b, b ≠ p → ν b = μ b) → (∀ ρ ν', ν' p = some (.fz o ks kvs) → (∀ ν2 : Mu, (∀ b, b ≠ p → ν2 b = ν' b) → ν2 p = μ p → DD.nx ρ ν2) → DD2.nx ρ ν') → (∀ (d : D) ν', ν' p = some (.fz o ks kvs) → (∀ ν2 : Mu, (∀ b, b ≠ p → ν2 b = ν' b) → ν2 p = μ p → DD.rt d ν2) → DD2.rt d ν') → w DD2 ρ ν) : wLockS w DD ρ μ :=
  ⟨p, kvs, h, fun o ks => key _ _ o ks put_same (fun b hb => put_ne hb) (fun ρ ν' e q => ⟨e, q _ (fun b hb => put_ne hb) (by rw [put_same, h])⟩) fun d ν' e q => ⟨e, q _ (fun b hb => put_ne hb) (by rw [put_same, h])⟩⟩
theorem hold_row (row : List Int) (n : Int) : ((row.filter fun m => decide (m = n)).map fun _ => D.tup []) = (holdsFor (row.map fun m => (m, ([] : List Int))) n).map hoD := by
  unfold holdsFor
  rw [List.filter_map, List.map_map, List.map_map]
  rfl
end Dl
namespace Dl
open PySem PySem.Spec PyProof.Rows L2
end Dl
namespace Dl
open PySem PySem.Spec PyProof.Rows L2
/-! ### slots put anew with what they have -/
theorem putA_same {sl : List (Str × Rw)} {k : Str} {r : Rw} (nd : (sl.map (·.1)).Nodup) (m : (k, r) ∈ sl) : putA sl k r = sl := by
  unfold putA
  rw [if_pos (List.mem_map.mpr ⟨_, m, rfl⟩)]
  conv => rhs; rw [← List.map_id sl]
  refine List.map_congr_left fun q hq => ?_
  show (if q.1 = k then (q.1, r) else q) = q
  split
  · rename_i e
    have e2 : q = (k, r) := by
      obtain ⟨a, b⟩ := q
      have e' : a = k := e
      subst e'
      have : ∀ {l : List (Str × Rw)}, (l.map (·.1)).Nodup → (a, b) ∈ l → (a, r) ∈ l → b = r := fun {l} nd h1 h2 => by
        induction l with
        | nil => cases h1
        | cons p l ih =>
          rw [List.map_cons, List.nodup_cons] at nd
          rcases List.mem_cons.mp h1 with e1 | h1
          · rcases List.mem_cons.mp h2 with e2 | h2
            · rw [← e1] at e2
              cases e2
              rfl
            · exact absurd (List.mem_map.mpr ⟨_, h2, by rw [← e1]⟩) nd.1
          · rcases List.mem_cons.mp h2 with e2 | h2
            · exact absurd (List.mem_map.mpr ⟨_, h1, by rw [← e2]⟩) nd.1
            · exact ih nd.2 h1 h2
      rw [this nd hq m]
    rw [e2]
  · rfl
theorem note_same {M : MS} {h k : Str} {r : Rw} {y : MT} {a : Addr} (tn : (M.ts.map MT.n).Nodup) (hy : y ∈ M.ts) (nd : (y.sl.map (·.1)).Nodup) (m : (k, r) ∈ y.sl) : M.note a (.fill h y.n k r) = M := by
  show M.modT y.n _ = M
  unfold MS.modT
  have e : (M.ts.map fun x => if x.n = y.n then { x with sl := putA x.sl k r } else x) = M.ts := by
    conv => rhs; rw [← List.map_id M.ts]
    refine List.map_congr_left fun x hx => ?_
    show (if x.n = y.n then { x with sl := putA x.sl k r } else x) = x
    split
    · rename_i e
      have : x = y := by
        have h1 := mslOf_at tn hx
        have : ∀ {l : List MT}, (l.map MT.n).Nodup → x ∈ l → y ∈ l → x = y := fun {l} nd h1 h2 => by
          induction l with
          | nil => cases h1
          | cons p l ih =>
            rw [List.map_cons, List.nodup_cons] at nd
            rcases List.mem_cons.mp h1 with e1 | h1
            · rcases List.mem_cons.mp h2 with e2 | h2
              · rw [e1, e2]
              · exact absurd (List.mem_map.mpr ⟨_, h2, by rw [← e1, e]⟩) nd.1
            · rcases List.mem_cons.mp h2 with e2 | h2
              · exact absurd (List.mem_map.mpr ⟨_, h1, by rw [← e2, e]⟩) nd.1
              · exact ih nd.2 h1 h2
        exact this tn hx hy
      subst this
      rw [putA_same nd m]
    · rfl
  rw [e]
/-- the store S' is come to from S by slots put anew -/
structure An (C : Addr) (μ0 μ : Mu) (M : MS) (S S' : SC) (c : Nat) : Prop where
  t : S'.t = S.t
  ft : foot (S'.cells C) = foot (S.cells C)
  st : St C μ S'
  pr : Pr M S' c
  same : Same (foot (S.cells C)) μ0 μ
theorem An.many {C : Addr} {μ0 μ : Mu} {M : MS} {S S' : SC} {c : Nat} (a : An C μ0 μ M S S' c) (f : Fam M) : S'.many ≤ 40 := by
  rw [← a.pr.rl.many, f.many]
  have := a.pr.mok.tl
  omega
theorem An.mono {C : Addr} {μ0 μ : Mu} {M : MS} {S S' : SC} {c d : Nat} (a : An C μ0 μ M S S' c) (h : c ≤ d) : An C μ0 μ M S S' d := ⟨a.t, a.ft, a.st, a.pr.mono h, a.same⟩
theorem An.step {C : Addr} {μ0 μ μ' : Mu} {M : MS} {S S' : SC} {c : Nat} (a : An C μ0 μ M S S' c) (f : Fam M) {h k : Str} {r : Rw} {y : MT} (hy : y ∈ M.ts) (m : (k, r) ∈ y.sl) (ok : Dd.Ok M.rs (.fill h y.n k r)) (s1 : St C μ' (S'.put_ y.n k r)) (sm : Same (foot (S'.cells C)) μ μ') : An C μ0 μ' M S (S'.put_ y.n k r) (c + 1) := by
  have mok := a.pr.mok
  have ge : getA (M.slOf y.n) k ≠ none := by
    rw [mslOf_at mok.tn hy]
    intro z
    unfold getA at z
    cases e : y.sl.find? fun q => decide (q.1 = k) with
    | none => exact absurd (List.find?_eq_none.mp e _ m) (by simp)
    | some q => rw [e] at z; cases z
  have nx := (a.pr.next (dd := .fill h y.n k r) ok (fun z => absurd z ge) (a := 0) (y := ⟨0, 0, 0, [], "", []⟩) trivial (by have := a.many f; omega)).1
  rw [note_same mok.tn hy (mok.sn y hy) m] at nx
  refine ⟨?_, foot_put.trans a.ft, s1, nx, a.same.trans (a.ft ▸ sm)⟩
  have := (fx_did (S := S') (y := ⟨0, 0, 0, [], "", []⟩) (dd := .fill h y.n k r)).2
  exact Eq.trans this a.t
theorem St.out1 {C p : Addr} {μ ν : Mu} {S : SC} (s : St C μ S) (hp : p ∉ foot (S.cells C)) (h : ∀ b, b ≠ p → ν b = μ b) : St C ν S := ⟨s.sits.out fun a ha => h a (fun e => hp (e ▸ ha)), s.hn, s.tn, s.mt⟩
end Dl
namespace Dl
open PySem PySem.Spec PyProof.Rows L2
/-! ### two stores made one behind the other, in a list that is being made -/
theorem Fam.sm {M : MS} {S : SC} {b : Nat} (f : Fam M) (p : Pr M S b) : S.many ≤ 40 := by
  rw [← p.rl.many, f.many]
  have := p.mok.tl
  omega
theorem Fam.init {M : MS} (e1 : M.ts = []) (e2 : M.many = 0) (n8 : M.names.length ≤ 8) (nd : M.names.Nodup) : Fam M := ⟨nd, n8, fun x hx => (by rw [e1] at hx; cases hx), (by rw [e1]; rfl), (by rw [e1, e2]; rfl)⟩
end Dl
namespace Dl
open PySem PySem.Spec PyProof.Rows L2
variable {B : Bs}
/-! ### sorted(d.items()) -/
abbrev itD (kvs : List (Key × D)) : List D := kvs.map fun q => .tup [Dk q.1, q.2]
def wSortItems (m : Bool) (w : WE) : WE := fun ρ μ Q => w ρ μ fun d μ1 => ∃ p kvs, d = .at p ∧ μ1 p = some (.dK kvs) ∧ (∀ x ∈ itD kvs, Rs μ1 x (pyD x) ∧ (pyD x).depth ≤ 50) ∧ PySem.W.AllAlike ((itD kvs).map pyD) ∧ kvs.length ≤ 1000000 ∧ New m ((itD kvs).mergeSort (PySem.W.dataLe false pyD)) μ1 Q
end Dl
namespace Dl
open PySem PySem.Spec PyProof.Rows L2
/-! ### the shape of a store -/
end Dl
namespace Dl
open PySem PySem.Spec PyProof.Rows L2
/-! ### striking out, round by round -/
theorem hs5 {M : MS} (o : MOk M) (n : Int) : (M.hs n).length ≤ 500 := by
  unfold MS.hs
  rw [(sortHo_perm _).length_eq]
  unfold holdsFor
  rw [List.length_map]
  exact Nat.le_trans (List.length_filter_le _ _) (hps_len o)
/-- each hold of n has a holder in L -/
def keptB (hs : Int → List (List Int)) (L : List Int) (n : Int) : Bool := (hs n).all fun h => h.any fun m => decide (m ∈ L)
section
variable {hs : Int → List (List Int)} {ns L : List Int}
theorem strike_len {p : Int → Bool} (h : ∃ n ∈ L, p n = false) : (L.filter p).length < L.length := by
  obtain ⟨n, hn, e⟩ := h
  refine Nat.lt_of_le_of_ne (List.length_filter_le _ _) fun z => ?_
  have := List.length_filter_eq_length_iff.mp z n hn
  rw [e] at this
  cases this
theorem lost_kept (hin : ∀ n ∈ ns, ∀ h ∈ hs n, ∀ m ∈ h, m ∈ ns) (hL : ∀ n ∈ ns, canB ns hs n = false → n ∈ L) {n : Int} (hn : n ∈ ns) (c : canB ns hs n = false) : keptB hs L n = true := by
  have h1 := List.all_eq_true.mp (cl_gone (ns := ns) (hs := hs) hin) n (List.mem_filter.mpr ⟨hn, by rw [c]; rfl⟩)
  refine List.all_eq_true.mpr fun h hh => ?_
  have h2 := List.all_eq_true.mp h1 h hh
  obtain ⟨m, hm, e⟩ := List.any_eq_true.mp h2
  obtain ⟨m1, m2⟩ := List.mem_filter.mp (of_decide_eq_true e)
  refine List.any_eq_true.mpr ⟨m, hm, decide_eq_true (hL m m1 ?_)⟩
  cases d : canB ns hs m with
  | true => rw [d] at m2; cases m2
  | false => rfl
theorem cl_kept (h : ∀ n ∈ L, keptB hs L n = true) : clB hs L = true := List.all_eq_true.mpr h
/-- what is left in the end is what is lost -/
theorem left_end {p : Int → Bool} (c : clB hs (ns.filter p) = true) (k : ∀ n ∈ ns, canB ns hs n = false → n ∈ ns.filter p) : ns.filter p = ns.filter fun n => !canB ns hs n := by
  refine List.filter_congr fun n hn => ?_
  cases e : canB ns hs n with
  | false => exact (List.mem_filter.mp (k n hn e)).2
  | true =>
    cases d : p n with
    | false => rfl
    | true =>
      have := cl_lost (ns := ns) c (List.mem_filter.mpr ⟨hn, d⟩)
      rw [e] at this
      cases this
end
end Dl
namespace Dl
open PySem PySem.Spec PyProof.Rows L2
section
variable {M : MS} {S : SC} {b : Nat}
theorem can_at (p : Pr M S b) (n : Int) : canB (S.ts.map Th.n) M.hs n = canB (S.ts.map Th.n) S.hs_ n := can_perm (fun n hn => by rw [hs_same' p hn]) n
end
end Dl
namespace Dl
open PySem PySem.Spec PyProof.Rows L2
/-! ### a chain of things, each in the next one -/
/-- a store alone, by what stood ahead -/
structure Ln (C : Addr) (μb μ : Mu) (S : SC) : Prop where
  st : St C μ S
  kp : ∀ a o, μb a = some o → μ a = some o
  fs : ∀ a ∈ foot (S.cells C), μb a = none
section
variable {C : Addr} {μb μ μ' : Mu} {S S' : SC}
theorem Ln.next (l : Ln C μb μ S) (s : St C μ' S') (h : Stp (foot (S.cells C)) (foot (S'.cells C)) μ μ') : Ln C μb μ' S' := by
  refine ⟨s, fun a o e => h.kp a o (l.kp a o e) fun m => (by rw [l.fs a m] at e; cases e), fun a ha => ?_⟩
  rcases h.ft a ha with z | z
  · exact l.fs a z
  · cases e : μb a with
    | none => rfl
    | some o => rw [l.kp a o e] at z; cases z
theorem Ln.less (l : Ln C μb μ S) : Less μ μb := fun a => by
  cases e : μb a with
  | none => exact .inl rfl
  | some o => exact .inr (l.kp a o e).symm
end
end Dl
namespace Dl
open PySem PySem.Spec PyProof.Rows L2
variable {B : Bs}
/-! ### own exceptions without an __init__, over ValueError -/
abbrev tlV : List Value := [.type "ValueError", .type "Exception", .type "BaseException", .type "object"]
structure EoF (K : Frg) (C : Addr) : Prop where
  q : PySem.W.excIn K C tlV "ValueError.__new__" = true
  kC : PySem.W.keepIn K (.ref C) = true
  exC : PySem.W.subIn K (.ref C) (.type "BaseException") = some true
  tyC : PySem.W.typeIn K (.ref C) = some (.type "type")
def wRaiseE (C : Addr) (W : WXD) : WS := fun _ ρ μ => W (.ref C) [] ρ μ
theorem js_raiseE {X : Cx} {W : WXD} {C : Addr} {x m : Str} {j : Nat} {p p2 pos pos2 : Pos} (T : EoF X.K C) (gC : X.mg x = some (.ref C)) (hc : X.calm = true) (tk : Takes X (upX B W)) (hg : Gl X x := by rfl) (hdb : (x == ("__debug__" : Str)) = false := by decide) :
    JS B X (.Raise (some (.Call (.Name x p) [.Constant (.str m) j p2] [] pos)) none pos2) (wRaiseE C W) := PS.of (ps_raise hc tk (pmk_own PySem.F.excBase_ValueError T.q gC T.kC (raises_own T.exC T.tyC) hg hdb)) fun E σ H ⟨ρ, μ, DD, rs, m, h, l⟩ =>
  ⟨[], ρ, μ, rfl, rs, m, h⟩
/-! ### a model that may have one thing more -/
def fl6 (x : Option Addr) (M : MS) : List (Key × D) := fl5 M ++ (match x with | some a => [(.inr "holds", .at a)] | none => [])
theorem fl6_ok (x : Option Addr) : Fl (fl6 x) where
  rows := fun M => by cases x <;> rfl
  slots := fun M => by cases x <;> rfl
  made := fun M => by cases x <;> rfl
  put := fun M j => by cases x <;> (unfold fl6 fl5; rfl)
  len := fun M => by cases x <;> (unfold fl6 fl5; simp)
  dep := fun M M' a b c d e => by
    unfold fl6
    rw [fl5_ok.dep M M' a b c d e]
theorem fl6_hands {x : Option Addr} {M : MS} : atD (fl6 x M) (.inr "hands") = some (.lst ((M.rs.map (·.1)).map .str)) := by cases x <;> rfl
theorem fl6_pool {x : Option Addr} {M : MS} : atD (fl6 x M) (.inr "pool") = some (.lst (M.names.map .str)) := by cases x <;> rfl
theorem fl6_holds {a : Addr} {M : MS} : atD (fl6 (some a) M) (.inr "holds") = some (.at a) := by rfl
theorem fl6_put {x : Option Addr} {a : Addr} {M : MS} : putD (fl6 x M) (.inr "holds") (.at a) = fl6 (some a) M := by cases x <;> (unfold fl6 fl5; rfl)
theorem fl6_none {M : MS} : fl6 none M = fl5 M := by unfold fl6; exact List.append_nil _
/-- whatever is drawn of a list -/
theorem lc_sub {α : Type} {g : WG} {t : WT} {a : WE} {vs : List Nat} {ρ : Rho} {Q : DQ} {kp : Mu → Prop} {μ1 : Mu} {f h : α → D} {xs : List α} (sz : xs.length ≤ 1000000) (hk : ∀ L acc, μ1 L = none → kp (put μ1 L (.lst acc)))
    (hs : ∀ x ∈ xs, ∀ L acc (K1 : DQ) (K2 : Mu → Prop), μ1 L = none → K1 (h x) (put μ1 L (.lst acc)) → K2 (put μ1 L (.lst acc)) → g (f x) (wipeD ρ vs) (put μ1 L (.lst acc)) fun ρ2 μ2 => t ρ2 μ2 fun b μ3 => Br b (a ρ2 μ3 K1) (K2 μ3))
    (hd : ∀ ys : List α, ys.Sublist xs → Q (.lst (ys.map h)) μ1) : LcB g t a vs ρ Q (xs.map f) kp μ1 := by
  refine lc_by (fun i acc => ∃ ys : List α, ys.Sublist (xs.take i) ∧ acc = ys.map h) (by rw [List.length_map]; exact sz) ⟨[], List.nil_sublist _, rfl⟩ hk (fun acc _ ⟨ys, e, e2⟩ => ?_) fun L i d acc hL la hi ⟨ys, e, e2⟩ => ?_
  · rw [List.length_map, List.take_length] at e
    rw [e2]
    exact hd ys e
  · obtain ⟨x, hx, ex, rfl⟩ := map_get hi
    have tk : xs.take (i + 1) = xs.take i ++ [x] := by rw [List.take_succ, ex]; rfl
    refine hs x hx L acc _ _ hL ?_ ?_
    · refine ⟨acc, put_same, la, acc ++ [h x], put_put, by simp; omega, ys ++ [x], ?_, by rw [e2, List.map_append]; rfl⟩
      rw [tk]
      exact List.Sublist.append e (List.Sublist.refl _)
    · refine ⟨acc, rfl, by omega, ys, ?_, e2⟩
      rw [tk]
      exact e.trans (List.sublist_append_left _ _)
end Dl
namespace Dl
open PySem PySem.Spec PyProof.Rows L2
/-! ### a list of one dict, shown -/
section
variable {prog : Program} {w : World} {A : Around} {E : Value → Shared → Prop} {s : Shared} {l : Addr} {x : Value} {p : PyData} {n : Nat} {o : Obj} {as : List Addr} {Q : Value → Shared → Prop}
theorem repr_list1 (e1 : s.heap.get? l = some o) (e2 : o.cls = .type "list") (e3 : o.data = .seq #[x] n) (rd : Reads s.heap x p as) (sh : p.showable = true) (sm : sysModules ∉ as) (hg : A.guards = some []) (hu : A.units + ((PyData.list [p]).depth + 1) < cLine)
    (sz : (PyData.list [p]).shown.length ≤ sizeLine) (hQ : ∀ h' u tk, (∀ b o, s.heap.get? b = some o → h'.get? b = some o) → Q (.str (PyData.list [p]).shown u) { s with heap := h', toks := tk }) :
    wpAny (model prog w) A (call (.builtin "repr") [.ref l]) Q E s := by
  have ra : ReadsAll s.heap [x] [p] (as ++ []) := .cons rd .nil
  have sz2 : (listText (PyData.shownAll [p])).length ≤ sizeLine := by simpa only [PyData.shown] using sz
  obtain ⟨bs, hb, hk⟩ := ReprAllK.of_readsAll (prog := prog) (w := w) ra (by simp [PyData.showableAll, sh]) (fun _ z => sm (by simpa using z)) (fun t ht => Nat.le_trans (listText_mem_le ht) sz2)
  have na : l ∉ bs := not_mem_of_deeper (Reads.list e1 e2 e3 ra) (by simp only [PyData.depth]; omega) hb
  simp only [PyData.depth] at hu
  refine call_repr_slot (by omega) ⟨o, e1, e2⟩ F.slot_list_repr.toG (call_list_reprK (h₀ := s.heap) e1 e2 e3 na (by simpa using hk.length_eq) (fun i y z => hk.item i y (by simpa using z)) hg (fun b _ => Clear.nil b) (by show A.units + 1 + _ < cLine; omega) (fun _ _ q => q) (fun h' u tk k => ⟨_, _, rfl, ?_⟩) sz2)
  have := hQ h' u tk k
  simpa only [PyData.shown] using this
end
def fReprY : FN := fun ds μ Q => fReprX ds μ Q ∨ ∃ a kvs, ds = [.lst [.at a]] ∧ μ a = some (.dK (kvs.map fun q : Key × Int => (q.1, .int q.2))) ∧ (kvP kvs).showable = true ∧ (PyData.list [kvP kvs]).depth ≤ 60 ∧ (PyData.list [kvP kvs]).shown.length ≤ sizeLine ∧ Q (.str (PyData.list [kvP kvs]).shown) μ
theorem cd_reprY {X : Cx} (hg : X.A.guards = some []) (hu : X.A.units + 65 < cLine) : CallR X (.builtin "repr") (upFN fReprY) := fun pins s σ H xs us Q I rx ⟨ds, μ, QD, v, m, h, k⟩ => by
  rcases h with h | ⟨a, kvs, e, hm, sh, dp, sz, hq⟩
  · exact cd_reprX hg hu pins s σ H xs us Q I rx ⟨ds, μ, QD, v, m, h, k⟩
  · subst e
    obtain ⟨v1, vs, rfl, ⟨l, ys, rfl, ⟨_, hl⟩, hy⟩, e⟩ := v
    obtain ⟨v2, vs2, rfl, r2, e2⟩ := hy
    rw [show vs2 = [] from e2, show v2 = V.ref a from r2] at hl
    rw [show vs = [] from e] at rx
    obtain ⟨u, rfl, ru⟩ := vals1 rx
    rw [show u = Value.ref l from ru]
    obtain ⟨ks, e1, kd⟩ := m a _ hm
    obtain ⟨_, hsys, ws, hkv, od, es, ep, o1, o2, o3, _, o4, _⟩ := dk_of I.hok e1
    obtain ⟨ra, rb⟩ := reads_kvs (h := s.heap) o4 (kv_ints kd hkv)
    have r : Reads s.heap (.ref a) (kvP kvs) (a :: [] ++ []) := .dict o1 o2.1 o3 ra rb
    obtain ⟨its, rv, pl, _⟩ := I.list (.inl (.inl hl))
    obtain ⟨u2, rfl, ru2⟩ := vals1 rv
    rw [show u2 = Value.ref a from ru2] at pl
    obtain ⟨ol, nl, g1, g2, g3, g4⟩ := pl
    refine repr_list1 g1 g2 g4 r sh (fun z => ?_) hg (by omega) sz (fun h' t tk hk => ⟨.str (PyData.list [kvP kvs]).shown, H, I.kept (t' := tk) hk, ⟨t, rfl⟩, k _ _ (lft_mk (d := .str _) m rfl hq)⟩)
    have e3 : sysModules = a := by simpa using z
    rw [← e3] at hsys
    simp at hsys
end Dl
namespace Dl
open PySem PySem.Spec PyProof.Rows L2
variable {B : Bs}
/-! ### len(set(xs)), xs any ints -/
def fmL (ns : List Int) (i : Nat) : List Int := PyProof.Rows.firstMet (fun i => ns.getD i 0) i
theorem fm_len (ns : List Int) : ∀ i, i ≤ ns.length → (fmL ns i).length ≤ i ∧ ((fmL ns i).length = i → fmL ns i = ns.take i ∧ (ns.take i).Nodup)
  | 0, _ => ⟨Nat.le_refl _, fun _ => ⟨rfl, List.nodup_nil⟩⟩
  | i + 1, hi => by
    obtain ⟨h1, h2⟩ := fm_len ns i (Nat.le_of_lt hi)
    have hlt : i < ns.length := hi
    have ex : ns.getD i 0 = ns[i] := by rw [List.getD_eq_getElem?_getD, List.getElem?_eq_getElem hlt]; rfl
    have et : ns.take (i + 1) = ns.take i ++ [ns[i]] := by rw [List.take_succ, List.getElem?_eq_getElem hlt]; rfl
    have es : fmL ns (i + 1) = if (fmL ns i).any (· == ns[i]) then fmL ns i else fmL ns i ++ [ns[i]] := by
      unfold fmL
      rw [PyProof.Rows.firstMet_succ]
      show (if (PyProof.Rows.firstMet (fun i => ns.getD i 0) i).any (· == ns.getD i 0) then _ else _ ++ [ns.getD i 0]) = _
      rw [ex]
    rw [es, et]
    split
    · exact ⟨by omega, fun z => absurd z (by omega)⟩
    · rename_i hc
      rw [List.length_append, List.length_singleton]
      refine ⟨by omega, fun z => ?_⟩
      obtain ⟨h3, h4⟩ := h2 (by omega)
      refine ⟨by rw [h3], List.nodup_append.mpr ⟨h4, by simp, fun a ha b hb => ?_⟩⟩
      cases List.mem_singleton.mp hb
      intro e
      refine hc (List.any_eq_true.mpr ⟨a, by rw [h3]; exact ha, by simp [e]⟩)
def wLenSetG (we : WE) : WE := fun ρ μ Q => we ρ μ fun d μ1 => ∃ ns : List Int, Ls μ1 d (ns.map .int) ∧ ns.length ≤ 4000 ∧ Q (.int ((fmL ns ns.length).length : Nat)) μ1
theorem je_lenSetG {X : Cx} {e : Expr} {we : WE} {p p2 q pos : Pos} (hm : X.mg "len" = none) (hm2 : X.mg "set" = none) (he : JE B X e we) (hc : X.calm = true := by rfl) (hg : Gl X "len" := by rfl) (hg2 : Gl X "set" := by rfl)
    (na : starEach [e] X.env = (false, eval e X.env) :: starEach [] X.env := by rfl) : JE B X (.Call (.Name "len" p) [.Call (.Name "set" p2) [e] [] q] [] pos) (wLenSetG we) := ⟨fun pins s σ H Q I ⟨ρ, μ, QD, rs, mh, h, kk⟩ => by
  refine Call_ (ld_blt I hg hm boot_len (PyProof.Rows.callWith_builtin1 (PyProof.Rows.args_cons (Call_ (ld_blt I hg2 hm2 boot_set ?_)) rfl) rfl rfl))
  have h1 := he.run pins s σ H (fun v H1 => ∃ d μ1, Step (MD μ) H (MD μ1) H1 ∧ MH μ1 H1 ∧ VD (MD μ1) H1 d v ∧ ∃ ns : List Int, Ls μ1 d (ns.map .int) ∧ ns.length ≤ 4000 ∧ QD (.int ((fmL ns ns.length).length : Nat)) μ1) I
    (up_mk rs mh h fun v H' d μ' a b c e => ⟨d, μ', a, b, c, e⟩)
  refine PyProof.Rows.callWith_type1 (PyProof.Rows.args_cons (thn h1 fun v s1 ⟨x, H1, I1, r1, d, μ1, st, m1, v1, ns, hl, h4, q⟩ => PyProof.Rows.args_nil ?_) na) na rfl
  obtain ⟨a, xs, rfl, e1, g1⟩ := hl.to m1 v1
  obtain rfl : v = Value.ref a := r1
  have exs : xs = ns.map V.int := vds_intsE g1
  subst exs
  obtain ⟨its, rv, pl, hz⟩ := I1.list (.inl (.inl e1))
  have hsz : its.toArray.size = ns.length := by rw [List.size_toArray, ← rv.length, List.length_map]
  refine call_set_list (I1.ok.hd hc) pl.isList (by simpa using RZ.intsAre_vals rv) (by rw [hsz]; unfold scanBound; omega) fun h' tk hS hk => PyProof.Rows.args_nil ?_
  rw [hsz, show PyProof.Rows.firstMet (fun i => ns.getD i 0) ns.length = fmL ns ns.length from rfl] at hS
  have hfl := (fm_len ns ns.length (Nat.le_refl _)).1
  obtain ⟨ob, es, ep, t, z1, z2, z3, _, _, _, z4, z5⟩ := hS
  have I2 : Inv X pins σ H1 { s1 with heap := h', toks := tk } := I1.kept fun b o e => hk b o (Heap.lt_size e) e
  exact call_len_set z1 z2 z3 z4 (by rw [z5] <;> omega) ⟨.int (fmL ns ns.length).length, H1, I2.tok _, ⟨_, by rw [z5]⟩, kk _ _ ((lft_mk (d := .int ((fmL ns ns.length).length : Nat)) m1 rfl q).trans st)⟩⟩
theorem fm_all {ns : List Int} (h : ns.Nodup) : (fmL ns ns.length).length = ns.length := by
  unfold fmL
  rw [RZ.firstMet_nodup h _ (Nat.le_refl _), List.take_length]
theorem fm_less {ns : List Int} (h : ¬ ns.Nodup) : (fmL ns ns.length).length < ns.length := by
  obtain ⟨h1, h2⟩ := fm_len ns ns.length (Nat.le_refl _)
  refine Nat.lt_of_le_of_ne h1 fun z => h ?_
  have := (h2 z).2
  rw [List.take_length] at this
  exact this
end Dl
namespace Dl
open PySem PySem.Spec PyProof.Rows L2
theorem shw_kv1 {n : Int} (h : n.natAbs < 10 ^ 40) : Shw (kvP [(.inl n, n)]) 300 2 := by
  obtain ⟨a, b, c, d⟩ := Shw.int h
  unfold kvP keyP
  refine ⟨?_, ?_, ?_, ?_⟩
  · simp only [List.map_cons, List.map_nil, PyData.showable, PyData.showableKv] at a ⊢
    simp only [a, Bool.and_self]
  · simp only [List.map_cons, List.map_nil, PyData.leavesShort, PyData.leavesShortKv] at b ⊢
    simp [b]
  · simp only [List.map_cons, List.map_nil, PyData.weight, PyData.weightKv] at c ⊢
    omega
  · simp [PyData.depth, PyData.depthKv]
theorem kv1_sz {n : Int} (h : n.natAbs < 10 ^ 40) : (kvP [(.inl n, n)]).showable = true ∧ (kvP [(.inl n, n)]).depth ≤ 60 ∧ (kvP [(.inl n, n)]).shown.length ≤ sizeLine := by
  have s := shw_kv1 h
  refine ⟨s.sh, Nat.le_trans s.dp (by decide), ?_⟩
  have h1 := PyData.shown_le 41 (by decide) _ s.ls
  have h2 : (41 + 2) * (kvP [(.inl n, n)]).weight ≤ 43 * 300 := Nat.mul_le_mul (by omega) s.w
  rw [sizeLine_eq]
  omega
end Dl
namespace Dl
open PySem PySem.Spec PyProof.Rows L2
theorem rd_gPutHolds {M : MS} {μ : Mu} {Q : Mu → Prop} {x : Option Addr} {hd : Addr} (s : μ M.m = some (.dK (fl6 x M))) (q : Q (put μ M.m (.dK (fl6 (some hd) M)))) : PutD μ (.at M.m) (.str "holds") (.at hd) Q :=
  .inl ⟨fl6 x M, .inr "holds", s, rfl, by have := (fl6_ok x).len M; omega, by rw [fl6_put]; exact q⟩
theorem WdG.holds {C : Addr} {x : Option Addr} {hd : Addr} {o : O} {μb μ : Mu} {M : MS} {S : SC} {b : Nat} (w : WdG C (fl6 x) μb μ M S b) (h : μ hd = none) : WdG C (fl6 (some hd)) μb (put (put μ hd o) M.m (.dK (fl6 (some hd) M))) M S b ∧ put (put μ hd o) M.m (.dK (fl6 (some hd) M)) hd = some o := by
  have w1 := w.new (o := o) h
  have hm : M.m ≠ hd := ne_no (GSt.m_ w.ms) h
  obtain ⟨im, imr, ims⟩ := gin_m (fl := fl6 x) (M := M)
  have ef : foot (gells (fl6 (some hd)) M) = foot (gells (fl6 x) M) := by rw [gfoot_eq, gfoot_eq]
  have nd := GSt.nd_ w.ms
  simp only [List.nodup_cons] at nd
  refine ⟨⟨w1.st.out1 (w.sep _ im) fun b hb => put_ne hb, ?_, w.pr, fun a ha => w.sep a (ef ▸ ha), fun a o e => ?_, w.fs, fun a ha => w.fm a (ef ▸ ha)⟩, ?_⟩
  · refine Sits.upd w1.ms (by rw [show (gells (fl6 (some hd)) M).map (·.1) = foot (gells (fl6 (some hd)) M) from rfl, ef]; rfl) fun q hq => ?_
    rcases List.mem_cons.mp hq with e | hq
    · exact .inl e
    · refine .inr ⟨List.mem_cons_of_mem _ hq, fun e => nd.1 ?_⟩
      rw [← e]
      rcases List.mem_cons.mp hq with rfl | hq
      · exact List.mem_cons_self
      · rcases List.mem_cons.mp hq with rfl | hq
        · exact List.mem_cons_of_mem _ List.mem_cons_self
        · obtain ⟨y, hy, rfl⟩ := List.mem_map.mp hq
          exact List.mem_cons_of_mem _ (List.mem_cons_of_mem _ (List.mem_map.mpr ⟨y, hy, rfl⟩))
  · have e1 : a ≠ M.m := fun z => by rw [z, w.fm _ im] at e; cases e
    rw [put_ne e1]
    exact w1.kp a o e
  · rw [put_ne (Ne.symm hm), put_same]
end Dl
namespace Dl.M
open PySem PySem.Spec PyProof.Rows L2 Dl
def top (i : Nat) : Stmt := PySem.Challenge.pw_deepfall_k24_whole_closed_groups.main.body.getD i (.Pass ⟨0, 0, 0, 0⟩)
abbrev s_pot : Stmt := top 39
abbrev s_take : Stmt := top 40
abbrev s_name : Stmt := top 42
abbrev s_names : Stmt := top 43
abbrev s_begun : Stmt := top 44
abbrev s_is_name : Stmt := top 22
abbrev s_want_hands : Stmt := top 33
abbrev s_Store___init__ : Stmt := inClass (top 37) 0
abbrev s_row_in : Stmt := top 47
abbrev s_is_let : Stmt := top 48
abbrev s_Store_want_hand : Stmt := inClass (top 37) 15
abbrev s_want_word : Stmt := top 35
abbrev s_Store_want_room : Stmt := inClass (top 37) 17
abbrev s_Store_come_in : Stmt := inClass (top 37) 5
abbrev s_Store_add_hold : Stmt := inClass (top 37) 7
abbrev s_Store_have : Stmt := inClass (top 37) 23
abbrev s_Store_done : Stmt := inClass (top 37) 6
abbrev s_Store_make : Stmt := inClass (top 37) 27
abbrev s_is_whole : Stmt := top 23
abbrev s_is_count : Stmt := top 24
abbrev s_Store_want_had : Stmt := inClass (top 37) 16
abbrev s_want_name : Stmt := top 34
abbrev s_Store_want_owner : Stmt := inClass (top 37) 18
abbrev s_joint : Stmt := top 36
abbrev s_Store_holds_by : Stmt := inClass (top 37) 9
abbrev s_Store_end_hold : Stmt := inClass (top 37) 8
abbrev s_Store_clear_slot : Stmt := inClass (top 37) 25
abbrev s_Store_fill : Stmt := inClass (top 37) 26
abbrev s_Store_put : Stmt := inClass (top 37) 28
abbrev s_Store_show : Stmt := inClass (top 37) 29
abbrev s_Store_tie : Stmt := inClass (top 37) 30
abbrev s_Store_empty : Stmt := inClass (top 37) 31
abbrev s_Store_take : Stmt := inClass (top 37) 32
abbrev s_Store_lose : Stmt := inClass (top 37) 24
abbrev s_Store_give : Stmt := inClass (top 37) 33
abbrev s_Store_drop : Stmt := inClass (top 37) 34
abbrev s_store_done : Stmt := top 51
abbrev s_less : Stmt := top 49
abbrev s_own_done : Stmt := top 50
abbrev s_all_done : Stmt := top 52
abbrev s_among : Stmt := top 41
abbrev s_ring : Stmt := top 46
abbrev s_deed : Stmt := top 45
abbrev s_next : Stmt := top 53
abbrev s_holds : Stmt := top 54
abbrev s_is_own_closed : Stmt := top 57
abbrev s_left : Stmt := top 56
abbrev s_mixed : Stmt := top 55
abbrev s_groups : Stmt := top 58
abbrev s_Store_has_thing : Stmt := inClass (top 37) 13
abbrev s_want_group : Stmt := top 17
abbrev s_Store_want_thing : Stmt := inClass (top 37) 14
abbrev s_holds_of : Stmt := top 15
abbrev s_is_closed : Stmt := top 18
abbrev s_is_refused : Stmt := top 60
abbrev s_odd : Stmt := top 59
abbrev s_right : Stmt := top 61
abbrev s_law : Stmt := top 62
structure Txt (K : Frg) (mg : Str → Option Value) (C_NoCount C_NoGroup C_NoHold C_NoName C_NoOrder C_NoThing C_Store C_StoreError : Addr) : Prop where
  cl_Store : Cls K C_Store
  na_Store_filled : NoAttr K C_Store "filled"
  na_Store_kept : NoAttr K C_Store "kept"
  na_Store_last : NoAttr K C_Store "last"
  na_Store_many : NoAttr K C_Store "many"
  na_Store_rows : NoAttr K C_Store "rows"
  g_NoCount : mg "NoCount" = some (.ref C_NoCount)
  g_NoGroup : mg "NoGroup" = some (.ref C_NoGroup)
  g_NoHold : mg "NoHold" = some (.ref C_NoHold)
  g_NoName : mg "NoName" = some (.ref C_NoName)
  g_NoOrder : mg "NoOrder" = some (.ref C_NoOrder)
  g_NoThing : mg "NoThing" = some (.ref C_NoThing)
  g_StoreError : mg "StoreError" = some (.ref C_StoreError)
  n_ValueError : mg "ValueError" = none
  n_abs : mg "abs" = none
  n_all : mg "all" = none
  n_any : mg "any" = none
  n_bool : mg "bool" = none
  n_dict : mg "dict" = none
  n_divmod : mg "divmod" = none
  n_enumerate : mg "enumerate" = none
  n_int : mg "int" = none
  n_isinstance : mg "isinstance" = none
  n_len : mg "len" = none
  n_list : mg "list" = none
  n_max : mg "max" = none
  n_min : mg "min" = none
  n_range : mg "range" = none
  n_repr : mg "repr" = none
  n_set : mg "set" = none
  n_sorted : mg "sorted" = none
  n_str : mg "str" = none
  n_tuple : mg "tuple" = none
  n_zip : mg "zip" = none
  eo_NoGroup : EoF K C_NoGroup
  ib_NoGroup_ValueError : PySem.W.kitOne K (.ref C_NoGroup) (.type "ValueError") = some true
  ic_NoGroup : IsC K C_NoGroup
  ik_NoGroup_NoCount : PySem.W.kitOne K (.ref C_NoGroup) (.ref C_NoCount) = some false
  ik_NoGroup_NoHold : PySem.W.kitOne K (.ref C_NoGroup) (.ref C_NoHold) = some false
  ik_NoGroup_NoName : PySem.W.kitOne K (.ref C_NoGroup) (.ref C_NoName) = some false
  ik_NoGroup_NoOrder : PySem.W.kitOne K (.ref C_NoGroup) (.ref C_NoOrder) = some false
  ik_NoGroup_NoThing : PySem.W.kitOne K (.ref C_NoGroup) (.ref C_NoThing) = some false
  ik_NoGroup_StoreError : PySem.W.kitOne K (.ref C_NoGroup) (.ref C_StoreError) = some true
  xm_NoGroup : PySem.W.exmOne K (.ref C_NoGroup) (.ref C_NoGroup) = some true
  kw_Store_make : KwF K C_Store "make" "Store.make" s_Store_make "word" ""
  k_KEYED : ∃ t, mg "KEYED" = some (.str "keyed" t)
  k_LETTERS : ∃ t, mg "LETTERS" = some (.str "abcdefghijklmnopqrstuvwxyz" t)
  k_LONGEST : ∃ t, mg "LONGEST" = some (.int 8 t)
  k_MOST_HAD : ∃ t, mg "MOST_HAD" = some (.int 30 t)
  k_MOST_HANDS : ∃ t, mg "MOST_HANDS" = some (.int 6 t)
  k_MOST_SLOTS : ∃ t, mg "MOST_SLOTS" = some (.int 8 t)
  k_MOST_THINGS : ∃ t, mg "MOST_THINGS" = some (.int 40 t)
  k_PLAIN : ∃ t, mg "PLAIN" = some (.str "plain" t)
  k_WEAK : ∃ t, mg "WEAK" = some (.str "weak" t)
variable {P : Program} {w : World} {K : Frg} {mg : Str → Option Value} {base : Heap} {C_NoCount C_NoGroup C_NoHold C_NoName C_NoOrder C_NoThing C_Store C_StoreError : Addr}
local macro_rules | `(tactic| walk_at "dl ne_tac") => `(tactic| first | assumption | (apply Ne.symm; assumption) | exact ne_no (by assumption) (by assumption) | exact Ne.symm (ne_no (by assumption) (by assumption)) | exact ne_at (by assumption) (by assumption) (by intro z; cases z))
local macro_rules | `(tactic| walk_at "dl mu") => `(tactic| first | assumption | exact put_same | (refine put_at ?_ (by walk_at "dl ne_tac"); walk_at "dl mu") | (refine put_no ?_ (by walk_at "dl ne_tac"); walk_at "dl mu"))
local macro_rules | `(tactic| walk_at "dl szl") => `(tactic| first | decide | (rw [sizeLine_eq]; omega) | (simp only [List.length_cons, List.length_nil, List.length_append, List.length_map, List.length_range, List.length_replicate]; rw [sizeLine_eq]; omega))
local macro_rules | `(tactic| walk_at "dl num") => `(tactic| first | (refine ⟨?_, ?_, ?_⟩ <;> first | decide | omega) | (refine ⟨?_, ?_⟩ <;> first | decide | omega) | decide | (refine Or.inr ⟨?_, ?_⟩ <;> first | decide | omega) | (refine Or.inl ⟨?_, ?_⟩ <;> first | decide | omega) | omega)
local macro_rules | `(tactic| walk_at "dl fl") => `(tactic| (refine' fl_lt ?h ?g; (case h => (repeat (first | exact fl_nil | apply fl_put | apply fl_cons))); (case g => decide)))
local macro_rules | `(tactic| walk_at "dl lk") => `(tactic| first | assumption | rfl | exact St.lkm (by assumption) (by decide +kernel))
local macro_rules | `(tactic| walk_at "dl go") => `(tactic| dsimp only [wC, wCons, wNil, wLst, wTup, wOp, wUn, wChain, wB, wAndT, wOrT, wNotT, wIfE, wAndV, wOrV, wNotV, wNext, wSeq, wDrop, wRet, wRetN, wIf, wSet, wBreak, wCont, wNever, wgName, wgSub, wAsg, wPar, wPar3, wIt, wItT, wRng1, fEq, fNe, wCl0, wClP, wClK, wClPK, wCall, wMeth, wMake, wYes, wDGet, wDIn, wDGet1, wDGet2, wDPut, wDDel, wDNewK, wDNewT, wFN, wML, wNoPart, wFld, wSetFld, wFldAug, fLenO, wPot, shutP, noX, noW, wSl, wSlS, wFor, wWhile, wLc_eq, wPart, wItems, wCut_eq, wZip, wZipS, wAug, wTupOf, wRev, wItS, wKeys, wEnum, wSlT, wDc, wWk, wDisp, wPairs, wValsL, wJoin, wDPop, wDelL, wMaxDf, wSortSet, f3Dic, wLenSet, wLenSetG, wItemsL, wItRev, wDUpd, wRaiseL, wTryAs, wSuiteE, wXf, wIsX, wVals, wLstRg2, wSortItems, wRaiseE])
local macro_rules | `(tactic| walk_at "dl rd1") => `(tactic| first
  | ((with_reducible refine' rd_aug ?h ?_); (case h => rfl))
  | (with_reducible refine' rd_isInt ?_)
  | ((with_reducible refine' rd_addll ?h ?_); (case h => walk_at "dl szl"))
  | ((with_reducible refine' rd_rg ?h ?_); (case h => walk_at "dl num"))
  | ((with_reducible refine' rd_reprI ?h ?_); (case h => omega))
  | ((with_reducible refine' rd_dicK ?g ?_); (case g => walk_at "dl mu"))
  | ((with_reducible refine' rd_dicT ?g ?_); (case g => walk_at "dl mu"))
  | ((with_reducible refine' rd_getI ?g ?_); (case g => walk_at "dl mu"); (try rw [valI_getD]))
  | ((with_reducible refine' rd_getP ?g ?_); (case g => walk_at "dl mu"); (try rw [valI_getD]))
  | ((with_reducible refine' rd_putI ?g ?h ?_); (case g => walk_at "dl mu"); (case h => first | assumption | omega))
  | ((with_reducible refine' rd_putP ?g ?h ?_); (case g => walk_at "dl mu"); (case h => first | assumption | omega))
  | ((with_reducible refine' rd_dropI ?g ?h ?_); (case g => walk_at "dl mu"); (case h => first | assumption | exact some_of_val (by omega)))
  | ((with_reducible refine' rd_dropP ?g ?h ?_); (case g => walk_at "dl mu"); (case h => first | assumption | exact some_of_val (by omega)))
  | ((with_reducible refine' rd_dgetI ?g ?h ?_); (case g => walk_at "dl mu"); (case h => assumption))
  | ((with_reducible refine' rd_dgetP ?g ?h ?_); (case g => walk_at "dl mu"); (case h => assumption))
  | ((with_reducible refine' rd_name ?h ?_); (case h => rfl))
  | (with_reducible refine' rd_bl ?_)
  | (with_reducible refine' rd_i0 ?_)
  | (with_reducible refine' rd_addi ?_)
  | (with_reducible refine' rd_newF ?_)
  | ((with_reducible refine' rd_len ?h ?_); (case h => rfl))
  | ((with_reducible refine' rd_len1 ?h ?_); (case h => rfl))
  | ((with_reducible refine' rd_sz ?h ?_); (case h => walk_at "dl szl"))
  | (with_reducible refine' rd_eqi ?_)
  | (with_reducible refine' rd_eqs ?_)
  | (with_reducible refine' rd_eqb ?_)
  | ((with_reducible refine' rd_ic ?h ?_); (case h => walk_at "dl num"))
  | ((with_reducible refine' rd_muli ?h ?_); (case h => walk_at "dl num"))
  | (with_reducible refine' rd_neg ?_)
  | ((with_reducible refine' rd_isN ?h ?_); (case h => rfl))
  | ((with_reducible refine' rd_ixl ?h ?_); (case h => first | assumption | rfl))
  | ((with_reducible refine' rd_ixt ?h ?_); (case h => first | assumption | rfl))
  | ((with_reducible refine' rd_ixa ?g ?h ?_); (case g => walk_at "dl mu"); (case h => first | assumption | rfl))
  | ((with_reducible refine' rd_ixr ?g ?h ?_); (case g => walk_at "dl mu"); (case h => first | assumption | rfl))
  | (with_reducible refine' rd_lenl ?_)
  | (with_reducible refine' rd_lent ?_)
  | ((with_reducible refine' rd_lena ?g ?_); (case g => walk_at "dl mu"))
  | ((with_reducible refine' rd_lenr ?g ?_); (case g => walk_at "dl mu"))
  | (with_reducible refine' rd_abs ?_)
  | (with_reducible refine' rd_ii ?_)
  | ((with_reducible refine' rd_divmod ?h ?_); (case h => first | assumption | walk_at "dl num"))
  | ((with_reducible refine' rd_isiI (b := true) ?h ?_); (case h => decide +kernel))
  | ((with_reducible refine' rd_isiI (b := false) ?h ?_); (case h => decide +kernel))
  | ((with_reducible refine' rd_isiB (b := true) ?h ?_); (case h => decide +kernel))
  | ((with_reducible refine' rd_isiB (b := false) ?h ?_); (case h => decide +kernel))
  | ((with_reducible refine' rd_isiS (b := true) ?h ?_); (case h => decide +kernel))
  | ((with_reducible refine' rd_isiS (b := false) ?h ?_); (case h => decide +kernel))
  | ((with_reducible refine' rd_isiN (b := true) ?h ?_); (case h => decide +kernel))
  | ((with_reducible refine' rd_isiN (b := false) ?h ?_); (case h => decide +kernel))
  | ((with_reducible refine' rd_isiT (b := true) ?h ?_); (case h => decide +kernel))
  | ((with_reducible refine' rd_isiT (b := false) ?h ?_); (case h => decide +kernel))
  | ((with_reducible refine' rd_isiL (b := true) ?h ?_); (case h => decide +kernel))
  | ((with_reducible refine' rd_isiL (b := false) ?h ?_); (case h => decide +kernel))
  | ((with_reducible refine' rd_set ?g ?h ?_); (case g => walk_at "dl mu"); (case h => rfl))
  | ((with_reducible refine' rd_gtup ?h ?_); (case h => rfl))
  | ((with_reducible refine' rd_glst ?h ?_); (case h => rfl))
  | ((with_reducible refine' rd_gcons ?_); (try dsimp only [wgSub, wgName, wC]))
  | (with_reducible refine' rd_gnil ?_)
  | ((with_reducible refine' rd_fld ?g ?h ?_); (case g => walk_at "dl mu"); (case h => walk_at "dl lk"))
  | ((with_reducible refine' rd_setfld ?g ?h ?_); (case g => walk_at "dl mu"); (case h => first | decide | walk_at "dl fl"))
  | ((with_reducible refine' rd_meth ?g ?h ?_); (case g => walk_at "dl mu"); (case h => walk_at "dl lk"))
  | (with_reducible refine' rd_itl ?_)
  | ((with_reducible refine' rd_ita ?g ?_); (case g => walk_at "dl mu"))
  | ((with_reducible refine' rd_itr ?g ?_); (case g => walk_at "dl mu"))
  | ((with_reducible refine' rd_lsa ?g ?_); (case g => walk_at "dl mu"))
  | ((with_reducible refine' rd_rng ?h ?_); (case h => walk_at "dl num"))
  | ((with_reducible refine' rd_append ?g ?h ?_); (case g => walk_at "dl mu"); (case h => first | omega | (simp; omega)))
  | ((with_reducible refine' rd_rev ?g ?_); (case g => walk_at "dl mu")))
local macro_rules | `(tactic| walk_at "dl rd") => `(tactic| repeat (first | walk_at "dl rd1" | walk_at "dl go" | dsimp only [wgName, wPart]))
local macro_rules | `(tactic| walk_at "dl kb") => `(tactic| repeat (first | walk_at "dl rd1" | walk_at "dl go" | dsimp only [wgName, wPart] | ((with_reducible refine' rd_brF ?h ?_); (case h => first | decide | rfl)) | ((with_reducible refine' rd_brT ?h ?_); (case h => first | decide | rfl))))
local macro_rules | `(tactic| walk_at "dl less") => `(tactic| first | assumption | exact Less.refl _ | (refine Less.put ?_ (by assumption); walk_at "dl less"))
local macro_rules | `(tactic| walk_at "dl put_eq") => `(tactic| (funext c; simp only [put]; repeat' split) <;> (first | rfl | (exfalso; omega) | (subst_vars; first | rfl | (exfalso; first | contradiction | omega))))
abbrev FT (C : Addr) (S : SC) : List Addr := foot (S.cells C)
def Pc (μ : Mu) (d : D) : Prop := (∃ x, d = .str x ∧ Tx 100 x) ∨ ((∃ n, n ∈ dataTys ∧ n ≠ "str" ∧ ∀ μ', Less μ' μ → kindD μ' d n) ∧ ∃ s : Str, ∀ μ', Less μ' μ → ∀ Q : DQ, Q (.str s) μ' → fReprX [d] μ' Q)
def nameD : D → Bool
  | .str x => nameB x
  | _ => false
theorem Pc.less {μ μ' : Mu} {d : D} (h : Pc μ d) (l : Less μ' μ) : Pc μ' d := by
  rcases h with h | ⟨⟨n, h1, h2, h3⟩, s, h4⟩
  · exact .inl h
  · exact .inr ⟨⟨n, h1, h2, fun ν k => h3 ν (k.trans l)⟩, s, fun ν k => h4 ν (k.trans l)⟩
theorem Pc.kind {μ : Mu} {d : D} (h : Pc μ d) : ∃ n, n ∈ dataTys ∧ kindD μ d n := by
  rcases h with ⟨x, rfl, _⟩ | ⟨⟨n, h1, _, h2⟩, _⟩
  · exact ⟨"str", by decide, rfl⟩
  · exact ⟨n, h1, h2 μ (Less.refl μ)⟩
theorem Pc.name {μ : Mu} {d : D} (h : Pc μ d) : (∃ x, d = .str x ∧ x.length ≤ 100000 ∧ nameD d = nameB x) ∨ ((∃ n, n ∈ dataTys ∧ n ≠ "str" ∧ kindD μ d n) ∧ nameD d = false) := by
  rcases h with ⟨x, rfl, h⟩ | ⟨⟨n, h1, h2, h3⟩, _⟩
  · exact .inl ⟨x, rfl, by have := h.1; omega, rfl⟩
  · have h3 := h3 μ (Less.refl μ)
    refine .inr ⟨⟨n, h1, h2, h3⟩, ?_⟩
    cases d with
    | str x => exact (h2 (show n = "str" from h3)).elim
    | _ => rfl
theorem Pc.data {μ : Mu} {d : D} {p : PyData} {n : String} (r : ∀ μ, Rs μ d p) (s : Shw p 1000 10) (h1 : n ∈ dataTys) (h2 : n ≠ "str") (h3 : ∀ μ, kindD μ d n) : Pc μ d := .inr ⟨⟨n, h1, h2, fun ν _ => h3 ν⟩, _, fun ν _ Q q => .inl (rd_repr (r ν) s (by decide) (by decide) q)⟩
theorem Pc.dict {μ : Mu} {a : Addr} {kvs : List (Key × Int)} (h : μ a = some (.dK (kvs.map fun q : Key × Int => (q.1, .int q.2)))) (sh : (kvP kvs).showable = true) (dp : (kvP kvs).depth ≤ 60) (sz : (kvP kvs).shown.length ≤ sizeLine) : Pc μ (.at a) :=
  .inr ⟨⟨"dict", by decide, by decide, fun ν l => .inr (.inl ⟨⟨_, less_at l h⟩, rfl⟩)⟩, _, fun ν l Q q => .inr ⟨a, kvs, rfl, less_at l h, sh, dp, sz, q⟩⟩
theorem Pc.int {μ : Mu} {i : Int} (h : i.natAbs < 10 ^ 40) : Pc μ (.int i) := Pc.data (n := "int") (fun _ => .int i) ((Shw.int h).mono (by decide) (by decide)) (by decide) (by decide) fun _ => rfl
theorem Pc.str {μ : Mu} {x : Str} (h : Tx 100 x) : Pc μ (.str x) := .inl ⟨x, rfl, h⟩
theorem shw_nil (k : Nat) : Shw (.list []) 0 2 ∧ Shw (.tuple []) 0 2 := ⟨(Shw.list (n := 0) (k := 1) fun _ h => by cases h).mono (by decide) (by decide), (Shw.tuple (n := 0) (k := 1) fun _ h => by cases h).mono (by decide) (by decide)⟩
theorem shw_1 {p : PyData} (h : Shw p 200 4) : Shw (.list [p]) 1000 10 ∧ Shw (.tuple [p]) 1000 10 := ⟨(Shw.list (xs := [p]) fun q hq => by cases List.mem_singleton.mp hq; exact h).mono (by simp) (by decide), (Shw.tuple (xs := [p]) fun q hq => by cases List.mem_singleton.mp hq; exact h).mono (by simp) (by decide)⟩
/-- one of these numbers -/
def inTh (ns : List Int) : D → Bool
  | .int i => decide (i ∈ ns)
  | _ => false
theorem inTh_ints {ns : List Int} : ∀ {ys : List D}, ys.all (inTh ns) = true → ∃ xs : List Int, ys = xs.map .int ∧ ∀ x ∈ xs, x ∈ ns
  | [], _ => ⟨[], rfl, fun _ h => by cases h⟩
  | y :: ys, h => by
    rw [List.all_cons, Bool.and_eq_true] at h
    obtain ⟨xs, e, k⟩ := inTh_ints h.2
    cases y with
    | int i =>
      refine ⟨i :: xs, by rw [e]; rfl, fun x hx => ?_⟩
      rcases List.mem_cons.mp hx with rfl | hx
      · exact of_decide_eq_true h.1
      · exact k x hx
    | _ => exact absurd h.1 (by simp [inTh])
/-- what is no group of these things -/
def NoGrp (ns : List Int) (μ : Mu) (d : D) : Prop := (∃ n, n ∈ dataTys ∧ n ≠ "list" ∧ kindD μ d n) ∨ ∃ ys, d = .lst ys ∧ ys.length ≤ 1000 ∧ (∀ y ∈ ys, ∃ n, n ∈ dataTys ∧ ∀ μ', Less μ' μ → kindD μ' y n) ∧ (ys.all (inTh ns) = true → ∀ xs : List Int, ys = xs.map .int → ¬ xs.Nodup)
def OddG (ns : List Int) (μ : Mu) (z : D) : Prop := (∀ ν, Less ν μ → NoGrp ns ν z) ∧ ∃ s : Str, ∀ ν, Less ν μ → ∀ R : DQ, R (.str s) ν → fReprY [z] ν R
section
variable {ns : List Int} {μ ν : Mu} {z : D} {p : PyData}
theorem OddG.less (h : OddG ns μ z) (l : Less ν μ) : OddG ns ν z := ⟨fun k e => h.1 k (e.trans l), by
  obtain ⟨s, k⟩ := h.2
  exact ⟨s, fun a e => k a (e.trans l)⟩⟩
theorem og_lst {ys : List D} (r : ∀ μ, Rs μ (.lst ys) p) (sh : Shw p 1000 10) (hl : ys.length ≤ 1000) (hk : ∀ y ∈ ys, ∃ n, n ∈ dataTys ∧ ∀ μ, kindD μ y n) (bad : ys.all (inTh ns) = true → ∀ xs : List Int, ys = xs.map .int → ¬ xs.Nodup) : OddG ns μ (.lst ys) :=
  ⟨fun ν _ => .inr ⟨ys, rfl, hl, fun y hy => by
    obtain ⟨n, h1, h2⟩ := hk y hy
    exact ⟨n, h1, fun μ _ => h2 μ⟩, bad⟩, _, fun ν _ Q q => .inl (.inl (rd_repr (r ν) sh (by decide) (by decide) q))⟩
theorem og_dat {n : String} (r : ∀ μ, Rs μ z p) (sh : Shw p 1000 10) (h1 : n ∈ dataTys) (h2 : n ≠ "list") (hk : ∀ μ, kindD μ z n) : OddG ns μ z := ⟨fun ν _ => .inl ⟨n, h1, h2, hk ν⟩, _, fun ν _ Q q => .inl (.inl (rd_repr (r ν) sh (by decide) (by decide) q))⟩
theorem og_dict {a : Addr} {kvs : List (Key × Int)} (h : μ a = some (.dK (kvs.map fun q : Key × Int => (q.1, .int q.2)))) (sh : (kvP kvs).showable = true) (dp : (kvP kvs).depth ≤ 60) (sz : (kvP kvs).shown.length ≤ sizeLine) : OddG ns μ (.at a) :=
  ⟨fun ν l => .inl ⟨"dict", by decide, by decide, .inr (.inl ⟨⟨_, less_at l h⟩, rfl⟩)⟩, _, fun ν l Q q => .inl (.inr ⟨a, kvs, rfl, less_at l h, sh, dp, sz, q⟩)⟩
theorem og_ldict {a : Addr} (h : μ a = some (.dK (([] : List (Key × Int)).map fun q : Key × Int => (q.1, .int q.2)))) : OddG ns μ (.lst [.at a]) :=
  ⟨fun ν l => .inr ⟨_, rfl, by simp, fun y hy => by
    cases List.mem_singleton.mp hy
    exact ⟨"dict", by decide, fun μ' l' => .inr (.inl ⟨⟨_, less_at l' (less_at l h)⟩, rfl⟩)⟩, fun c => by simp [inTh] at c⟩, _, fun ν l Q q => .inr ⟨a, [], rfl, less_at l h, by decide +kernel, by decide +kernel, by decide +kernel, q⟩⟩
theorem og_one {y : D} (r : ∀ μ, Rs μ y p) (sh : Shw p 200 4) {n : String} (hn : n ∈ dataTys) (hk : ∀ μ, kindD μ y n) (bad : inTh ns y = false) : OddG ns μ (.lst [y]) :=
  og_lst (p := .list [p]) (fun μ => .lst (.cons (r μ) .nil)) (shw_1 sh).1 (by simp) (fun z hz => by cases List.mem_singleton.mp hz; exact ⟨n, hn, hk⟩) fun c => by simp [bad] at c
end
def hdK (M : MS) : List (Key × D) := (M.ts.map MT.n).map fun n => ((.inl n : Key), D.lst ((M.hs n).map hoD))
theorem rd_hdK {M : MS} {μ : Mu} {hd : Addr} {n : Int} {T : D → Prop} (o : MOk M) (h : μ hd = some (.dK (hdK M))) (m : n ∈ M.ts.map MT.n) (q : T (.lst ((M.hs n).map hoD))) : ∃ v, GetD μ (.at hd) (.int n) (some v) ∧ T v :=
  ⟨_, .inl ⟨_, .inl n, .inl h, rfl, (at_in (κ := Key) (f := fun n : Int => Sum.inl n) (g := fun n => D.lst ((M.hs n).map hoD)) (nodup_inl (f := fun x : Int => x) (by rw [List.map_id']; exact o.tn)) m).symm⟩, q⟩
def sp_pot : SpD := fun ds μ Q _ => match ds with
  | [.at a, .int k] => ∃ ns : List Int, μ a = some (.ro (ns.map .int)) ∧ 0 ≤ k ∧ k ≤ 100 ∧ ∀ p, μ p = none → Q (.at p) (put μ p .pot)
  | _ => False
theorem sc_pot : FnScope ["_law_script", "_law_k", "_law_cell"] ["_law_script", "_law_k"] (defScope s_pot) := ⟨rfl, rfl, rfl, by decide +kernel, rfl, by decide +kernel, by decide +kernel⟩
theorem g_pot (T : Txt K mg C_NoCount C_NoGroup C_NoHold C_NoName C_NoOrder C_NoThing C_Store C_StoreError) (d_pot : Def0 K mg "_law_pot" s_pot)  : CalD P w K mg base 1 "_law_pot" s_pot ["_law_script", "_law_k"] sp_pot := by
  refine calD d_pot sc_pot (fun ds μ Q E h => by unfold sp_pot at h; split at h <;> first | rfl | exact h.elim) ?_
  intro f cdv A outer s H EX ds μ Q E hg hr tk hp h
  obtain ⟨hu, hu1, hu2⟩ := rooms hr
  refine ⟨_, (jss_cons (js_set 2 (je_if (jt_cmp od_lt (je_name 1) (je_cb cd_len T.n_len (ja_cons (je_name 0) ja_nil))) (je_ix id_ix (je_name 0) (je_name 1)) je_int) sc_pot.nd)
      (jss_one (js_ret (je_lst true (ja_cons (je_cb (cd_max2 rfl) T.n_max (ja_cons je_int (ja_cons (je_op od_sub (je_cb cd_abs T.n_abs (ja_cons (je_name 2) ja_nil)) (je_op od_pow je_int je_int)) ja_nil))) (ja_cons (je_op (od_add false) (je_op od_mod (je_op (od_mul false) (je_op (od_add false) (je_op od_mod (je_cb cd_abs T.n_abs (ja_cons (je_name 2) ja_nil)) je_int) je_int) (je_op od_pow (je_op (od_add false) (je_name 1) je_int) je_int)) je_int) je_int) ja_nil)))))), ?_⟩
  clear hr hg tk hp hu hu1 hu2
  unfold sp_pot at h
  split at h
  case h_2 => exact h.elim
  rename_i a k
  obtain ⟨ns, ha, hk, hk2, q⟩ := h
  walk_at "dl go"
  walk_at "dl rd"
  refine rd_brD (fun hl => ?_) fun hl => ?_
  · rw [List.length_map] at hl
    obtain ⟨z, e⟩ : ∃ z, atI (ns.map D.int) k = some (.int z) := by
      refine ⟨ns[k.toNat]'(by omega), ?_⟩
      have e1 : ixN (ns.map D.int).length k = some k.toNat := by
        unfold ixN
        rw [if_pos hk, if_pos (by rw [List.length_map]; exact hl)]
      unfold atI
      rw [e1]
      show (ns.map D.int)[k.toNat]? = _
      rw [List.getElem?_map, List.getElem?_eq_getElem (by omega)]
      rfl
    walk_at "dl rd"
    refine rd_newT fun l hl => ?_
    refine wkR.wk (Wkn.pot put_same ?_) ?_
    · exact ⟨by omega, by omega⟩
    · rw [put_put]
      exact wkR.same (q l hl)
  · walk_at "dl rd"
    refine rd_newT fun l hl => ?_
    refine wkR.wk (Wkn.pot put_same ?_) ?_
    · exact ⟨by omega, by omega⟩
    · rw [put_put]
      exact wkR.same (q l hl)
def sp_take : SpD := fun ds μ Q _ => match ds with
  | [.at p, .int m] => μ p = some .pot ∧ 0 < m ∧ m ≤ 10 ^ 30 ∧ ∀ d : Int, 0 ≤ d → d < m → Q (.int d) μ
  | _ => False
theorem sc_take : FnScope ["_law_pot_here", "_law_many", "_law_digit"] ["_law_pot_here", "_law_many"] (defScope s_take) := ⟨rfl, rfl, rfl, by decide +kernel, rfl, by decide +kernel, by decide +kernel⟩
theorem g_take (T : Txt K mg C_NoCount C_NoGroup C_NoHold C_NoName C_NoOrder C_NoThing C_Store C_StoreError) (d_take : Def0 K mg "_law_take" s_take)  : CalD P w K mg base 1 "_law_take" s_take ["_law_pot_here", "_law_many"] sp_take := by
  refine calD d_take sc_take (fun ds μ Q E h => by unfold sp_take at h; split at h <;> first | rfl | exact h.elim) ?_
  intro f cdv A outer s H EX ds μ Q E hg hr tk hp h
  obtain ⟨hu, hu1, hu2⟩ := rooms hr
  refine ⟨_, jss_pot (jss_cons (js_if (jt_cmp od_gt (je_ix id_ix (je_name 0) je_int) je_int) (jss_cons (js_asg (je_cb cd_divmod T.n_divmod (ja_cons (je_ix id_ix (je_name 0) je_int) (ja_cons (je_name 1) ja_nil))) (jg_tup 2 rfl (jgs_cons (jg_sub (je_name 0) je_int set_lst) (jgs_cons (jg_name 2 sc_take.nd) jgs_nil))))
      (jss_one (js_ret (je_name 2)))) jss_nil)
      (jss_cons (js_asg (je_op od_mod (je_op (od_add false) (je_op (od_mul false) (je_ix id_ix (je_name 0) je_int) je_int) je_int) je_int) (jg_sub (je_name 0) je_int set_lst))
      (jss_one (js_ret (je_op od_mod (je_op od_fdiv (je_op od_mod (je_op (od_mul false) (je_ix id_ix (je_name 0) je_int) (je_ix id_ix (je_name 0) je_int)) je_int) je_int) (je_name 1)))))), ?_⟩
  clear hr hg tk hp hu hu1 hu2
  unfold sp_take at h
  split at h
  case h_2 => exact h.elim
  rename_i p m
  obtain ⟨hp1, h0, h1, q⟩ := h
  have back : ∀ d : Int, 0 ≤ d → d < m → wkR Q (.int d) (put (put (put μ p (.lst [.int 0, .int 0])) p (.lst [.int 0, .int 0])) p .pot) := fun d a b => by
    rw [put_put, put_put, put_self hp1]
    exact wkR.same (q d a b)
  have back2 : ∀ (u v : O) (d : Int), 0 ≤ d → d < m → wkR Q (.int d) (put (put (put μ p u) p v) p .pot) := fun u v d a b => by
    have := back d a b
    rw [put_put, put_put] at this ⊢
    exact this
  walk_at "dl go"
  refine ⟨p, hp1, fun x y ok => ?_⟩
  walk_at "dl rd"
  refine rd_brD (fun hx => ?_) fun hx => ?_
  · have hdv : CDivW x m := divw h0 h1
    walk_at "dl rd"
    refine ⟨x / m, y, put_same, ok, back2 _ _ _ (Int.emod_nonneg _ (by omega)) (Int.emod_lt_of_pos _ h0)⟩
  · have oy := ok.1
    have oy2 := ok.2
    walk_at "dl rd"
    refine ⟨x, (y * 39373 + 7919) % 2147483587, put_same, ⟨by omega, by omega⟩, back2 _ _ _ (Int.emod_nonneg _ (by omega)) (Int.emod_lt_of_pos _ h0)⟩
def sp_name : SpD := fun ds μ Q _ => match ds with
  | [.at p, e] => ∃ xs : List Str, μ p = some .pot ∧ Ls μ e (xs.map .str) ∧ xs.length ≤ 20 ∧ ∀ x, nameB x = true → x ∉ xs → Q (.str x) μ
  | _ => False
theorem sc_name : FnScope ["_law_pot_here", "_law_taken", "_law_letters", "_law_name_here", "_law_k", "_law_one", "_law_letter"] ["_law_pot_here", "_law_taken"] (defScope s_name) := ⟨rfl, rfl, rfl, by decide +kernel, rfl, by decide +kernel, by decide +kernel⟩
theorem g_name (T : Txt K mg C_NoCount C_NoGroup C_NoHold C_NoName C_NoOrder C_NoThing C_Store C_StoreError) (d_name : Def0 K mg "_law_name" s_name) (c_take : CalD P w K mg base 1 "_law_take" s_take ["_law_pot_here", "_law_many"] sp_take) : CalD P w K mg base 2 "_law_name" s_name ["_law_pot_here", "_law_taken"] sp_name := by
  refine calD d_name sc_name (fun ds μ Q E h => by unfold sp_name at h; split at h <;> first | rfl | exact h.elim) ?_
  intro f cdv A outer s H EX ds μ Q E hg hr tk hp h
  obtain ⟨hu, hu1, hu2⟩ := rooms hr
  refine ⟨_, (jss_cons (js_set 2 je_str sc_name.nd)
      (jss_cons (js_set 3 (je_join je_str (je_lc (own := [("_law_k", 4)]) (g := gName 4) sc_name.nd (ji_range1 T.n_range (ja_cons (je_ix id_ix (je_lst false (ja_cons je_int (ja_cons je_int (ja_cons je_int (ja_cons je_int ja_nil))))) (jf (ks := []) (n := 2) (idx := []) c_take hr (by decide) hg tkN (fun _ _ _ _ _ _ us ws h1 h2 => match us, ws, h1, h2 with | [_, _], [], _, _ => rfl) (jc_p (ja_cons (je_name 0) (ja_cons je_int ja_nil))))) ja_nil)) (blkOk_by (own := [("_law_k", 4)]) (sc := defScope s_name) (N := ["_law_pot_here", "_law_taken", "_law_letters", "_law_name_here", "_law_k", "_law_one", "_law_letter"]) (by decide +kernel)) (ct_name 4) (fun _ _ _ _ _ => (pg_name (i := 4) sc_name.nd rfl (by first | exact Or.inl rfl | exact Or.inr rfl))) (fun _ _ _ _ _ => jts_nil) (fun _ _ _ _ _ => (je_ix id_ix (je_name 2) (jf (ks := []) (n := 2) (idx := []) c_take hr (by decide) hg tkN (fun _ _ _ _ _ _ us ws h1 h2 => match us, ws, h1, h2 with | [_, _], [], _, _ => rfl) (jc_p (ja_cons (je_name 0) (ja_cons je_int ja_nil)))))))) sc_name.nd)
      (jss_cons (js_if (jt_cmp (od_in hu) (je_name 3) (je_name 1)) (jss_one (js_set 3 (je_ix id_ix (je_lc (own := [("_law_one", 5)]) (g := gName 5) sc_name.nd (ji_list (je_lc (own := [("_law_letter", 6)]) (g := gName 6) sc_name.nd (ji_str (je_name 2)) (blkOk_by (own := [("_law_letter", 6)]) (sc := defScope s_name) (N := ["_law_pot_here", "_law_taken", "_law_letters", "_law_name_here", "_law_k", "_law_one", "_law_letter"]) (by decide +kernel)) (ct_name 6) (fun _ _ _ _ _ => (pg_name (i := 6) sc_name.nd rfl (by first | exact Or.inl rfl | exact Or.inr rfl))) (fun _ _ _ _ _ => jts_nil) (fun _ _ _ _ _ => (je_op (od_add false) (je_name 6) je_str)))) (blkOk_by (own := [("_law_one", 5)]) (sc := defScope s_name) (N := ["_law_pot_here", "_law_taken", "_law_letters", "_law_name_here", "_law_k", "_law_one", "_law_letter"]) (by decide +kernel)) (ct_name 5) (fun _ _ _ _ _ => (pg_name (i := 5) sc_name.nd rfl (by first | exact Or.inl rfl | exact Or.inr rfl))) (fun _ _ _ _ _ => (jts_one (jt_cmp (od_notin hu) (je_name 5) (je_name 1)))) (fun _ _ _ _ _ => (je_name 5))) je_int) sc_name.nd)) jss_nil)
      (jss_one (js_ret (je_name 3)))))), ?_⟩
  clear hr hg tk hp hu hu1 hu2
  unfold sp_name at h
  split at h
  case h_2 => exact h.elim
  rename_i p e
  obtain ⟨xs, hp, he, h20, q⟩ := h
  walk_at "dl go"
  walk_at "dl rd"
  refine ⟨⟨_, rfl⟩, ?_⟩
  walk_at "dl rd"
  refine ⟨hp, by decide, by decide, fun b b0 b1 => ?_⟩
  obtain ⟨n, hn, n1, n8⟩ : ∃ n, atI [D.int 1, D.int 1, D.int 3, D.int 8] b = some (.int n) ∧ 1 ≤ n ∧ n ≤ 8 := by
    obtain rfl | rfl | rfl | rfl : b = 0 ∨ b = 1 ∨ b = 2 ∨ b = 3 := by omega
    · exact ⟨1, rfl, by decide, by decide⟩
    · exact ⟨1, rfl, by decide, by decide⟩
    · exact ⟨3, rfl, by decide, by decide⟩
    · exact ⟨8, rfl, by decide, by decide⟩
  refine rd_ixl hn ?_
  refine ⟨n, rfl, by omega, by omega, ?_⟩
  refine lc_any (fun c : Nat => .str (one1 c)) (fun c => isLet c = true) (by simp; omega) (fun _ _ _ => trivial) ?_ ?_
  · intro d hd L acc K1 K2 hL k1
    obtain ⟨i, hi, rfl⟩ := List.mem_map.mp hd
    have hp2 : put μ L (.lst acc) p = some .pot := by walk_at "dl mu"
    walk_at "dl rd"
    refine rd_brT rfl ?_
    walk_at "dl rd"
    refine ⟨hp2, by decide, by decide, fun z z0 z1 => ?_⟩
    exact rd_ixLet (k := z) z0 z1 k1
  · intro cs hcs ok
    rw [List.length_map, List.length_range] at hcs
    refine ⟨"", cs.map one1, rfl, by rw [List.map_map]; rfl, sum_ones cs (by omega), ?_⟩
    rw [join_txt]
    have nb := nameB_of ok (by omega) (by omega)
    revert nb
    generalize (⟨cs.toArray⟩ : Str) = x0
    intro nb
    walk_at "dl rd"
    refine rd_inStrs (xs := xs) he ?_
    walk_at "dl rd"
    refine rd_brD (fun hin => ?_) fun hin => ?_
    · walk_at "dl rd"
      refine ⟨letters, rfl, ?_⟩
      rw [chars_let]
      have l26 : letters.cps.toList.length = 26 := by decide +kernel
      refine lc_map (xs := letters.cps.toList) (f := fun c => .str (one1 c)) (h := fun c => .str (nmq c)) (by omega) (fun _ _ _ => trivial) ?_ ?_
      · intro c hc L acc K1 K2 hL k1
        walk_at "dl rd"
        refine rd_brT rfl ?_
        walk_at "dl rd"
        refine rd_adds (show 1 + 1 ≤ sizeLine from by rw [sizeLine_eq]; omega) ?_
        rw [nmq_eq]
        exact k1
      walk_at "dl rd"
      obtain ⟨c2, more, ex, hx2, nb2⟩ := free26 (xs := xs) (by omega)
      refine lc_pure (xs := letters.cps.toList) (f := fun c => .str (nmq c)) (h := fun c => .str (nmq c)) (p := fun c => !decide (nmq c ∈ xs)) (by omega) (fun _ _ _ => rfl) ?_ ?_
      · intro c hc L acc K1 K2 hL k1 k2
        have he2 : Ls (put μ L (.lst acc)) e (xs.map .str) := by
          cases e with
          | lst xs => exact he
          | «at» k => exact put_at he (ne_no he hL)
          | _ => exact he.elim
        walk_at "dl rd"
        refine rd_inStrs (xs := xs) he2 ?_
        refine rd_br (fun c => ?_) fun c => ?_
        · walk_at "dl rd"
          exact k1 c
        · exact k2 c
      · rw [ex, List.map_cons]
        refine rd_ixl (atI_zero _ _) ?_
        walk_at "dl rd"
        exact wkR.same (q _ nb2 hx2)
    · walk_at "dl rd"
      exact wkR.same (q _ nb hin)
def sp_names : SpD := fun ds μ Q _ => match ds with
  | [.at p, .int n] => μ p = some .pot ∧ 0 ≤ n ∧ n ≤ 20 ∧ ∀ (xs : List Str), xs.length = n.toNat → (∀ x ∈ xs, nameB x = true) → xs.Nodup → Q (.lst (xs.map .str)) μ
  | _ => False
theorem sc_names : FnScope ["_law_pot_here", "_law_many", "_law_found", "_law_k"] ["_law_pot_here", "_law_many"] (defScope s_names) := ⟨rfl, rfl, rfl, by decide +kernel, rfl, by decide +kernel, by decide +kernel⟩
theorem g_names (T : Txt K mg C_NoCount C_NoGroup C_NoHold C_NoName C_NoOrder C_NoThing C_Store C_StoreError) (d_names : Def0 K mg "_law_names" s_names) (c_name : CalD P w K mg base 2 "_law_name" s_name ["_law_pot_here", "_law_taken"] sp_name) : CalD P w K mg base 3 "_law_names" s_names ["_law_pot_here", "_law_many"] sp_names := by
  refine calD d_names sc_names (fun ds μ Q E h => by unfold sp_names at h; split at h <;> first | rfl | exact h.elim) ?_
  intro f cdv A outer s H EX ds μ Q E hg hr tk hp h
  obtain ⟨hu, hu1, hu2⟩ := rooms hr
  refine ⟨_, (jss_cons (js_set 2 (je_lst true ja_nil) sc_names.nd)
      (jss_cons (js_for hp (ji_range1 T.n_range (ja_cons (je_name 1) ja_nil)) (jg_name 3 sc_names.nd) (jss_one (js_expr (je_ml PySem.F.slot_list_append PySem.F.type_list_append md_append (je_name 2) (ja_cons (jf (ks := []) (n := 2) (idx := []) c_name hr (by decide) hg tkN (fun _ _ _ _ _ _ us ws h1 h2 => match us, ws, h1, h2 with | [_, _], [], _, _ => rfl) (jc_p (ja_cons (je_name 0) (ja_cons (je_name 2) ja_nil)))) ja_nil)))))
      (jss_one (js_ret (je_name 2))))), ?_⟩
  clear hr hg tk hp hu hu1 hu2
  unfold sp_names at h
  split at h
  case h_2 => exact h.elim
  rename_i p n
  obtain ⟨hp, n0, n1, q⟩ := h
  walk_at "dl go"
  walk_at "dl rd"
  refine rd_newT fun l hl => ?_
  have pl : p ≠ l := ne_no hp hl
  walk_at "dl rd"
  refine ⟨fun i ρ μ' => ∃ (xs : List Str) (y : Option D), ρ = [some (.at p), some (.int n), some (.at l), y] ∧ μ' = put μ l (.lst (xs.map .str)) ∧ xs.length = i ∧ (∀ x ∈ xs, nameB x = true) ∧ xs.Nodup, wk.same ⟨[], _, rfl, rfl, rfl, (fun _ h => by cases h), List.nodup_nil⟩, fun _ _ _ _ _ => trivial, ?_, ?_⟩
  · rintro i d ρ μ' hd ⟨xs, y, rfl, rfl, hi, nb, nd⟩
    have hlt := (List.getElem?_eq_some_iff.mp hd).1
    simp at hlt
    walk_at "dl rd"
    refine ⟨xs, by walk_at "dl mu", put_same, by omega, fun x hx hno => ?_⟩
    walk_at "dl rd"
    rw [put_put]
    refine wk.same ⟨xs ++ [x], _, rfl, by rw [List.map_append]; rfl, by simp [hi], ?_, ?_⟩
    · intro z hz
      rcases List.mem_append.mp hz with m | m
      · exact nb z m
      · cases List.mem_singleton.mp m
        exact hx
    · rw [List.nodup_append]
      refine ⟨nd, by simp, fun a ha b hb => ?_⟩
      cases List.mem_singleton.mp hb
      exact fun e => hno (e ▸ ha)
  · rintro ρ μ' ⟨xs, y, rfl, rfl, hi, nb, nd⟩
    rw [List.length_map, List.length_range] at hi
    walk_at "dl rd"
    exact .froze (less1 hl) put_same hl (q xs hi nb nd)
def sp_begun : SpD := fun ds μ Q _ => match ds with
  | [.at p, .int most] => μ p = some .pot ∧ 1 ≤ most ∧ most ≤ 6 ∧ ∀ (μ' : Mu) (M : MS) (xs : List Str), M.rs = xs.map (fun x => (x, [])) → 1 ≤ xs.length → xs.length ≤ 6 → (∀ x ∈ xs, nameB x = true) → xs.Nodup → M.ts = [] → M.many = 0 → M.names ≠ [] → M.names.length ≤ 8 → (∀ x ∈ M.names, nameB x = true) → M.names.Nodup → GSt fl5 μ' M → (∀ a ∈ foot (gells fl5 M), μ a = none) → Same (foot (gells fl5 M)) μ μ' → Q (.at M.m) μ'
  | _ => False
theorem sc_begun : FnScope ["_law_pot_here", "_law_most_hands", "_law_hands", "_law_rows", "_law_hand"] ["_law_pot_here", "_law_most_hands"] (defScope s_begun) := ⟨rfl, rfl, rfl, by decide +kernel, rfl, by decide +kernel, by decide +kernel⟩
theorem g_begun (T : Txt K mg C_NoCount C_NoGroup C_NoHold C_NoName C_NoOrder C_NoThing C_Store C_StoreError) (d_begun : Def0 K mg "_law_begun" s_begun) (c_names : CalD P w K mg base 3 "_law_names" s_names ["_law_pot_here", "_law_many"] sp_names) (c_take : CalD P w K mg base 1 "_law_take" s_take ["_law_pot_here", "_law_many"] sp_take) : CalD P w K mg base 4 "_law_begun" s_begun ["_law_pot_here", "_law_most_hands"] sp_begun := by
  refine calD d_begun sc_begun (fun ds μ Q E h => by unfold sp_begun at h; split at h <;> first | rfl | exact h.elim) ?_
  intro f cdv A outer s H EX ds μ Q E hg hr tk hp h
  obtain ⟨hu, hu1, hu2⟩ := rooms hr
  refine ⟨_, (jss_cons (js_set 2 (jf (ks := []) (n := 2) (idx := []) c_names hr (by decide) hg tkN (fun _ _ _ _ _ _ us ws h1 h2 => match us, ws, h1, h2 with | [_, _], [], _, _ => rfl) (jc_p (ja_cons (je_name 0) (ja_cons (je_op (od_add false) je_int (jf (ks := []) (n := 2) (idx := []) c_take hr (by decide) hg tkN (fun _ _ _ _ _ _ us ws h1 h2 => match us, ws, h1, h2 with | [_, _], [], _, _ => rfl) (jc_p (ja_cons (je_name 0) (ja_cons (je_name 1) ja_nil))))) ja_nil)))) sc_begun.nd)
      (jss_cons (js_set 3 (je_cty (cd_dictP rfl) T.n_dict (ja_cons (je_lc (own := [("_law_hand", 4)]) (g := gName 4) sc_begun.nd (ji_list (je_name 2)) (blkOk_by (own := [("_law_hand", 4)]) (sc := defScope s_begun) (N := ["_law_pot_here", "_law_most_hands", "_law_hands", "_law_rows", "_law_hand"]) (by decide +kernel)) (ct_name 4) (fun _ _ _ _ _ => (pg_name (i := 4) sc_begun.nd rfl (by first | exact Or.inl rfl | exact Or.inr rfl))) (fun _ _ _ _ _ => jts_nil) (fun _ _ _ _ _ => (je_tup (ja_cons (je_name 4) (ja_cons (je_lst false ja_nil) ja_nil))))) ja_nil)) sc_begun.nd)
      (jss_one (js_ret (je_disp (jps_cons je_str (je_name 2) (jps_cons je_str (je_name 3) (jps_cons je_str je_dnewK (jps_cons je_str je_int (jps_cons je_str (jf (ks := []) (n := 2) (idx := []) c_names hr (by decide) hg tkN (fun _ _ _ _ _ _ us ws h1 h2 => match us, ws, h1, h2 with | [_, _], [], _, _ => rfl) (jc_p (ja_cons (je_name 0) (ja_cons (je_op (od_add false) je_int (jf (ks := []) (n := 2) (idx := []) c_take hr (by decide) hg tkN (fun _ _ _ _ _ _ us ws h1 h2 => match us, ws, h1, h2 with | [_, _], [], _, _ => rfl) (jc_p (ja_cons (je_name 0) (ja_cons je_int ja_nil))))) ja_nil)))) jps_nil)))))))))), ?_⟩
  clear hr hg tk hp hu hu1 hu2
  unfold sp_begun at h
  split at h
  case h_2 => exact h.elim
  rename_i p most
  obtain ⟨hp, m1, m6, q⟩ := h
  walk_at "dl go"
  walk_at "dl rd"
  refine ⟨hp, by omega, by omega, fun a a0 a1 => ?_⟩
  walk_at "dl rd"
  refine ⟨hp, by omega, by omega, fun xs hxl hxn hxd => ?_⟩
  walk_at "dl rd"
  refine lc_map (xs := xs) (f := .str) (h := fun x => .tup [.str x, .lst []]) (by omega) ?_ ?_ ?_
  · intro L acc hL
    rfl
  · intro x hx L acc K1 K2 hL k1
    walk_at "dl rd"
    refine rd_brT rfl ?_
    walk_at "dl rd"
    exact k1
  have ek : xs.map (fun x => D.tup [.str x, .lst []]) = (xs.map fun x => ((.inr x : Key), D.lst [])).map fun q => .tup [Dk q.1, q.2] := by
    rw [List.map_map]
    rfl
  refine ⟨_, xs.map fun x => ((.inr x : Key), D.lst []), rfl, ek, fun mr hmr => ?_⟩
  have emr : mergeD [] (xs.map fun x => ((.inr x : Key), D.lst [])) = xs.map fun x => ((.inr x : Key), D.lst []) := by
    rw [merge_new, List.nil_append]
    rw [List.nil_append, List.map_map]
    exact nodup_inr (f := fun x => x) (by rw [List.map_id']; exact hxd)
  rw [emr]
  walk_at "dl rd"
  intro m hm
  have ⟨mmr, hm0⟩ := no_put hm
  walk_at "dl rd"
  intro ms hms
  have ⟨a1, b1⟩ := no_put hms
  have ⟨a2, b2⟩ := no_put b1
  have pm1 : p ≠ mr := ne_no hp hmr
  have pm2 : p ≠ m := ne_no hp hm0
  have pm3 : p ≠ ms := ne_no hp b2
  walk_at "dl rd"
  refine ⟨by walk_at "dl mu", by omega, by omega, fun c c0 c1 => ?_⟩
  walk_at "dl rd"
  refine ⟨by walk_at "dl mu", by omega, by omega, fun ns hnl hnn hnd => ?_⟩
  walk_at "dl rd"
  refine ⟨by walk_at "dl mu", [((.inr "hands" : Key), .lst (xs.map .str)), ((.inr "rows" : Key), .at mr), ((.inr "slots" : Key), .at ms), ((.inr "made" : Key), .int 0), ((.inr "pool" : Key), .lst (ns.map .str))], rfl, by simp, ?_⟩
  have em : mergeD [] [((.inr "hands" : Key), D.lst (xs.map .str)), ((.inr "rows" : Key), D.at mr), ((.inr "slots" : Key), .at ms), ((.inr "made" : Key), .int 0), ((.inr "pool" : Key), .lst (ns.map .str))] = _ := merge_new (acc := []) (by simp only [List.nil_append, List.map_cons, List.map_nil]; decide +kernel)
  rw [em, List.nil_append]
  have exs : ((xs.map fun x => ((x, []) : Str × List Int)).map fun q : Str × List Int => q.1) = xs := by rw [List.map_map]; exact List.map_id _
  refine wkR.same (q _ ⟨m, mr, ms, 0, 0, xs.map fun x => (x, []), [], 0, ns, .lst [], .lst []⟩ xs rfl (by omega) (by omega) hxn hxd rfl rfl (fun e => by rw [show ns = [] from e] at hnl; simp at hnl; omega) (by show ns.length ≤ 8; omega) hnn hnd (GSt.mk0 _ rfl rfl rfl rfl rfl ?_ ?_ (by walk_at "dl mu") (by walk_at "dl mu")) ?_ ?_)
  · simp only [List.nodup_cons, List.mem_cons, List.not_mem_nil, or_false, not_or, List.nodup_nil, and_true, not_false_eq_true]
    exact ⟨⟨mmr, Ne.symm a1⟩, Ne.symm a2⟩
  · unfold fl5
    rw [exs]
    exact put_same
  · intro a ha
    rw [gfoot_eq] at ha
    simp only [List.map_nil, List.mem_cons, List.not_mem_nil, or_false] at ha
    rcases ha with rfl | rfl | rfl
    · exact hm0
    · exact hmr
    · exact b2
  · intro a ha
    rw [gfoot_eq] at ha
    simp only [List.map_nil, List.mem_cons, List.not_mem_nil, or_false, not_or] at ha
    obtain ⟨c1, c2, c3⟩ := ha
    rw [put_ne c1, put_ne c3, put_ne c1, put_ne c2]
def sp_is_name : SpD := fun ds μ Q _ => match ds with
  | [d] => (∃ x, d = .str x ∧ x.length ≤ 100000 ∧ Q (.bl (nameB x)) μ) ∨ ((∃ n, n ∈ dataTys ∧ n ≠ "str" ∧ kindD μ d n) ∧ Q (.bl false) μ)
  | _ => False
theorem sc_is_name : FnScope ["thing", "sign"] ["thing"] (defScope s_is_name) := ⟨rfl, rfl, rfl, by decide +kernel, rfl, by decide +kernel, by decide +kernel⟩
theorem g_is_name (T : Txt K mg C_NoCount C_NoGroup C_NoHold C_NoName C_NoOrder C_NoThing C_Store C_StoreError) (d_is_name : Def0 K mg "is_name" s_is_name)  : CalD P w K mg base 1 "is_name" s_is_name ["thing"] sp_is_name := by
  refine calD d_is_name sc_is_name (fun ds μ Q E h => by unfold sp_is_name at h; split at h <;> first | rfl | exact h.elim) ?_
  intro f cdv A outer s H EX ds μ Q E hg hr tk hp h
  obtain ⟨hu, hu1, hu2⟩ := rooms hr
  refine ⟨_, (jss_one (js_ret (je_and (je_cb cd_isi T.n_isinstance (ja_cons (je_name 0) (ja_cons (je_ty T.n_str (by rfl)) ja_nil))) (je_and (je_chain od_le od_le je_int (je_cb cd_len T.n_len (ja_cons (je_name 0) ja_nil)) (je_gi T.k_LONGEST)) (je_one (je_cb (cd_all rfl) T.n_all (ja_cons (je_lc (own := [("sign", 1)]) (g := gName 1) sc_is_name.nd (ji_str (je_name 0)) (blkOk_by (own := [("sign", 1)]) (sc := defScope s_is_name) (N := ["thing", "sign"]) (by decide +kernel)) (ct_name 1) (fun _ _ _ _ _ => (pg_name (i := 1) sc_is_name.nd rfl (by first | exact Or.inl rfl | exact Or.inr rfl))) (fun _ _ _ _ _ => jts_nil) (fun _ _ _ _ _ => (je_cmp od_inS (je_name 1) (je_gs T.k_LETTERS)))) ja_nil))))))), ?_⟩
  clear hr hg tk hp hu hu1 hu2
  unfold sp_is_name at h
  split at h
  case h_2 => exact h.elim
  rename_i d
  walk_at "dl go"
  rcases h with ⟨x, rfl, hl, q⟩ | ⟨⟨n, hn, ns, hk⟩, q⟩
  · unfold nameB at q
    have hs := sizeLine_eq
    walk_at "dl rd"
    refine rd_brT rfl ?_
    walk_at "dl rd"
    refine rd_lens (by omega) ?_
    walk_at "dl rd"
    refine rd_br (fun h1 => ?_) fun h1 => ?_
    · walk_at "dl rd"
      have h1' : 1 ≤ x.length := by have := of_decide_eq_true h1; omega
      rw [decide_eq_true h1', Bool.true_and] at q
      refine rd_br (fun h2 => ?_) fun h2 => ?_
      · have h2' : x.length ≤ 8 := by have := of_decide_eq_true h2; omega
        rw [decide_eq_true h2', Bool.true_and] at q
        walk_at "dl rd"
        refine ⟨x, rfl, ?_⟩
        refine lc_map (xs := x.cps.toList) (f := fun c => .str ⟨#[c]⟩) (h := fun c => .bl (isLet c)) ?_ ?_ ?_ ?_
        · rw [← len_cps]
          omega
        · exact fun L acc hL => trivial
        · intro c hc L acc K1 K2 hL k1
          walk_at "dl rd"
          refine rd_brT rfl ?_
          walk_at "dl rd"
          exact rd_inS (z := letters) k1
        · have e : (x.cps.toList.map fun c => D.bl (isLet c)) = (x.cps.toList.map isLet).map .bl := by rw [List.map_map]; rfl
          rw [e]
          refine rd_allB ?_
          rw [List.all_map]
          exact wkR.same q
      · have h2' : ¬ x.length ≤ 8 := by have := of_decide_eq_false h2; omega
        rw [decide_eq_false h2', Bool.false_and] at q
        exact wkR.same q
    · walk_at "dl rd"
      have h1' : ¬ 1 ≤ x.length := by have := of_decide_eq_false h1; omega
      rw [decide_eq_false h1', Bool.false_and, Bool.false_and] at q
      refine rd_brF rfl ?_
      exact wkR.same q
  · walk_at "dl rd"
    have hb : kitB n "str" = some false := by
      simp only [dataTys, List.mem_cons, List.not_mem_nil, or_false] at hn
      rcases hn with rfl | rfl | rfl | rfl | rfl | rfl | rfl
      · decide +kernel
      · decide +kernel
      · decide +kernel
      · exact (ns rfl).elim
      · decide +kernel
      · decide +kernel
      · decide +kernel
    refine rd_isi hk hb ?_
    refine rd_brF rfl ?_
    exact wkR.same q
def sp_want_hands : SpD := fun ds μ Q _ => match ds with
  | [e] => ∃ xs : List Str, Ls μ e (xs.map .str) ∧ 1 ≤ xs.length ∧ xs.length ≤ 6 ∧ (∀ x ∈ xs, nameB x = true) ∧ xs.Nodup ∧ Q .non μ
  | _ => False
theorem sc_want_hands : FnScope ["hands", "place", "hand", "who"] ["hands"] (defScope s_want_hands) := ⟨rfl, rfl, rfl, by decide +kernel, rfl, by decide +kernel, by decide +kernel⟩
theorem g_want_hands (T : Txt K mg C_NoCount C_NoGroup C_NoHold C_NoName C_NoOrder C_NoThing C_Store C_StoreError) (d_want_hands : Def0 K mg "want_hands" s_want_hands) (c_is_name : CalD P w K mg base 1 "is_name" s_is_name ["thing"] sp_is_name) : CalD P w K mg base 2 "want_hands" s_want_hands ["hands"] sp_want_hands := by
  refine calD d_want_hands sc_want_hands (fun ds μ Q E h => by unfold sp_want_hands at h; split at h <;> first | rfl | exact h.elim) ?_
  intro f cdv A outer s H EX ds μ Q E hg hr tk hp h
  obtain ⟨hu, hu1, hu2⟩ := rooms hr
  refine ⟨_, (jss_cons (js_if (jt_w (jw_or (jt_not (jt_val (je_cb cd_isi T.n_isinstance (ja_cons (je_name 0) (ja_cons (je_ty T.n_list (by rfl)) ja_nil))))) (jw_or1 (jt_not (jt_chain od_le od_le je_int (je_cb cd_len T.n_len (ja_cons (je_name 0) ja_nil)) (je_gi T.k_MOST_HANDS)))))) (jss_one js_never) jss_nil)
      (jss_one (js_for hp (ji_enum T.n_enumerate (ja_cons (je_name 0) ja_nil)) (jg_tup 2 rfl (jgs_cons (jg_name 1 sc_want_hands.nd) (jgs_cons (jg_name 2 sc_want_hands.nd) jgs_nil))) (jss_cons (js_set 3 (je_if (jt_val (je_cb cd_isi T.n_isinstance (ja_cons (je_name 2) (ja_cons (je_ty T.n_str (by rfl)) ja_nil)))) (je_name 2) (je_cty cd_str T.n_str (ja_cons (je_name 1) ja_nil))) sc_want_hands.nd)
      (jss_cons (js_if (jt_not (jt_val (jf (ks := []) (n := 1) (idx := []) c_is_name hr (by decide) hg tkN (fun _ _ _ _ _ _ us ws h1 h2 => match us, ws, h1, h2 with | [_], [], _, _ => rfl) (jc_p (ja_cons (je_name 2) ja_nil))))) (jss_one js_never) jss_nil)
      (jss_one (js_if (jt_cmp (od_in hu) (je_name 2) (je_slice false (je_name 0) jo_none (jo_some (je_name 1)))) (jss_one js_never) jss_nil))))))), ?_⟩
  clear hr hg tk hp hu hu1 hu2
  unfold sp_want_hands at h
  split at h
  case h_2 => exact h.elim
  rename_i e
  obtain ⟨xs, he, l1, l6, hx, nd, q⟩ := h
  walk_at "dl go"
  walk_at "dl rd"
  refine rd_isi (b := true) he.kind (by decide +kernel) ?_
  refine rd_brF rfl ?_
  walk_at "dl rd"
  refine rd_lenL he ?_
  rw [List.length_map]
  walk_at "dl rd"
  refine rd_brT (by simp; omega) ?_
  walk_at "dl rd"
  refine rd_brF (by simp; omega) ?_
  refine ⟨e, xs.map .str, rfl, he.lr, ?_⟩
  refine ⟨fun i ρ μ' => μ' = μ ∧ ∃ y z w, ρ = [some e, y, z, w], wk.same ⟨rfl, _, _, _, rfl⟩, ?_, ?_, ?_⟩
  · rintro i ρ μ' hi ⟨hμ, _⟩
    subst μ'
    exact he.lr
  · rintro i d ρ μ' hd ⟨hμ, y, z, w, rfl⟩
    subst μ'
    rw [List.getElem?_map, List.getElem?_zipIdx, List.getElem?_map] at hd
    cases ei : xs[i]? with
    | none => rw [ei] at hd; cases hd
    | some x =>
      rw [ei] at hd
      simp only [Option.map_some, Option.some.injEq, Nat.zero_add] at hd
      subst hd
      have hm := List.mem_of_getElem? ei
      have hi := (List.getElem?_eq_some_iff.mp ei).1
      have hnx := hx x hm
      have hl := nameB_len hnx
      walk_at "dl rd"
      refine rd_brT rfl ?_
      walk_at "dl rd"
      refine .inl ⟨x, rfl, by omega, ?_⟩
      rw [hnx]
      refine rd_brF rfl ?_
      walk_at "dl rd"
      refine ⟨xs.map .str, he.lr, ?_⟩
      rw [cut_map]
      walk_at "dl rd"
      refine rd_inStrs (xs := cutL xs none (some i)) rfl ?_
      have hno : x ∉ cutL xs none (some (i : Int)) := by
        intro hc
        rw [cutL_take (by omega)] at hc
        obtain ⟨j, hj, e1⟩ := List.getElem_of_mem hc
        rw [List.length_take] at hj
        rw [List.getElem_take] at e1
        have e2 := (List.getElem?_eq_some_iff.mp ei).2
        exact List.pairwise_iff_getElem.mp nd j i (by omega) hi (by omega) (e1.trans e2.symm)
      rw [decide_eq_false hno]
      exact rd_brF rfl (wk.same ⟨rfl, _, _, _, rfl⟩)
  · rintro ρ μ' ⟨hμ, _⟩
    subst μ'
    exact wkR.same q
def sp_Store___init__ (C_Store : Addr) : SpD := fun ds μ Q _ => match ds with
  | [.at t, e] => μ t = some (.ins C_Store []) ∧ ∃ xs : List Str, Ls μ e (xs.map .str) ∧ 1 ≤ xs.length ∧ xs.length ≤ 6 ∧ (∀ x ∈ xs, nameB x = true) ∧ xs.Nodup ∧
    ∀ (μ' : Mu) (S : SC), S.t = t → S.ts = [] → S.many = 0 → S.fx = [] → S.xc = [] → S.hs.map Hd.nm = xs → (∀ g ∈ S.hs, g.row = []) → St C_Store μ' S → (∀ a ∈ FT C_Store S, a ≠ t → μ a = none) → Same (FT C_Store S) μ μ' → Q .non μ'
  | _ => False
theorem sc_Store___init__ : FnScope ["self", "hands", "hand"] ["self", "hands"] (defScope s_Store___init__) := ⟨rfl, rfl, rfl, by decide +kernel, rfl, by decide +kernel, by decide +kernel⟩
theorem g_Store___init__ (T : Txt K mg C_NoCount C_NoGroup C_NoHold C_NoName C_NoOrder C_NoThing C_Store C_StoreError) (d_Store___init__ : ∃ (f : Addr) (fd : FuncData), Fun K "__init__" "Store.__init__" s_Store___init__ f fd ∧ Mk K C_Store f ∧ mg "Store" = some (.ref C_Store)) (c_want_hands : CalD P w K mg base 2 "want_hands" s_want_hands ["hands"] sp_want_hands) : MakD P w K mg base 3 "Store" C_Store "Store.__init__" s_Store___init__ ["self", "hands"] (sp_Store___init__ C_Store) := by
  refine makD d_Store___init__ sc_Store___init__ (fun ds μ Q E h => by unfold sp_Store___init__ at h; split at h <;> first | rfl | exact h.elim) ?_
  intro f cdv A outer s H EX ds μ Q E hg hr tk hp h
  obtain ⟨hu, hu1, hu2⟩ := rooms hr
  refine ⟨_, (jss_cons (js_expr (jf (ks := []) (n := 1) (idx := []) c_want_hands hr (by decide) hg tkN (fun _ _ _ _ _ _ us ws h1 h2 => match us, ws, h1, h2 with | [_], [], _, _ => rfl) (jc_p (ja_cons (je_name 1) ja_nil))))
      (jss_cons (js_fld T.cl_Store T.na_Store_rows (je_name 0) (je_dc (own := [("hand", 2)]) (g := gName 2) sc_Store___init__.nd (ji_list (je_name 1)) (blkOk_by (own := [("hand", 2)]) (sc := defScope s_Store___init__) (N := ["self", "hands", "hand"]) (by decide +kernel)) (ct_name 2) (fun _ _ _ _ _ => (pg_name (i := 2) sc_Store___init__.nd rfl (by first | exact Or.inl rfl | exact Or.inr rfl))) (fun _ _ _ _ _ => jts_nil) (fun _ _ _ _ _ => (je_name 2)) (fun _ _ _ _ _ => (je_lst true ja_nil))))
      (jss_cons (js_fld T.cl_Store T.na_Store_filled (je_name 0) je_dnewK)
      (jss_cons (js_fld T.cl_Store T.na_Store_last (je_name 0) je_dnewK)
      (jss_cons (js_fld T.cl_Store T.na_Store_kept (je_name 0) je_dnewK)
      (jss_one (js_fld T.cl_Store T.na_Store_many (je_name 0) je_int))))))), ?_⟩
  clear hr hg tk hp hu hu1 hu2
  unfold sp_Store___init__ at h
  split at h
  case h_2 => exact h.elim
  rename_i t e
  obtain ⟨ht, xs, he, l1, l6, hx, nd, q⟩ := h
  walk_at "dl go"
  walk_at "dl rd"
  refine ⟨xs, he, l1, l6, hx, nd, ?_⟩
  walk_at "dl rd"
  refine rd_itL he ?_
  refine ⟨by simp; omega, fun L hL => ⟨fun i μ' => ∃ hs, Rowing μ μ' L hs (xs.take i), ⟨[], .zero⟩, ?_, ?_, ?_⟩⟩
  · rintro i μ' hi ⟨hs, w⟩
    exact (he.mono (w.keep hL)).lr
  · rintro i d μ' hd ⟨hs, w⟩
    rw [List.getElem?_map] at hd
    cases ei : xs[i]? with
    | none => rw [ei] at hd; cases hd
    | some x =>
      rw [ei] at hd
      simp only [Option.map_some, Option.some.injEq] at hd
      subst hd
      obtain ⟨hi, ex⟩ := List.getElem?_eq_some_iff.mp ei
      have hno : x ∉ xs.take i := by
        intro hc
        obtain ⟨j, hj, e1⟩ := List.getElem_of_mem hc
        rw [List.length_take] at hj
        rw [List.getElem_take] at e1
        exact List.pairwise_iff_getElem.mp nd j i (by omega) hi (by omega) (e1.trans ex.symm)
      walk_at "dl rd"
      refine rd_brT rfl ?_
      walk_at "dl rd"
      refine rd_newT fun p hp => ?_
      have et : xs.take (i + 1) = xs.take i ++ [x] := by
        rw [List.take_succ, ei]
        rfl
      obtain ⟨_, w'⟩ := w.step hno hp
      have hlen : hs.length ≤ i := by
        have := congrArg List.length w.nm
        rw [List.length_map, List.length_take] at this
        omega
      refine ⟨.inr x, _, rfl, ?_, ?_, hs ++ [⟨x, p, []⟩], by rw [et]; exact w'⟩
      · rw [put_ne]
        · exact w.dic
        · intro e
          rw [← e, w.dic] at hp
          cases hp
      · rw [List.length_map]
        exact hlen
  · rintro μ' ⟨hs, w⟩
    rw [List.length_map, List.take_length] at w
    have ht' := w.keep hL t _ ht
    have nL : L ≠ t := Ne.symm (ne_no ht hL)
    refine wkR.same ?_
    walk_at "dl rd"
    intro f hf
    have ⟨f1, f2⟩ := no_put hf
    have fL := ne_no w.dic f2
    walk_at "dl rd"
    intro l hl
    have ⟨l1', l2⟩ := no_put hl
    have ⟨l3, l4⟩ := no_put l2
    have ⟨l5, l6'⟩ := no_put l4
    have lL := ne_no w.dic l6'
    walk_at "dl rd"
    intro k hk
    have ⟨k1, k2⟩ := no_put hk
    have ⟨k3, k4⟩ := no_put k2
    have ⟨k5, k6⟩ := no_put k4
    have ⟨k7, k8⟩ := no_put k6
    have ⟨k9, k10⟩ := no_put k8
    have kL := ne_no w.dic k10
    walk_at "dl rd"
    generalize eμ : put _ t (O.ins C_Store (putFD ("many" : Str) (D.int 0) _)) = μ9
    have oth : ∀ a, a ≠ t → a ≠ f → a ≠ l → a ≠ k → μ9 a = μ' a := fun a a1 a2 a3 a4 => by
      rw [← eμ, put_ne a1, put_ne a1, put_ne a4, put_ne a1, put_ne a3, put_ne a1, put_ne a2, put_ne a1]
    have noR : ∀ b, μ' b = none → b ∉ hs.map Hd.ra := fun b hb m => by
      obtain ⟨g, mg, rfl⟩ := List.mem_map.mp m
      rw [w.at_ g mg] at hb
      cases hb
    have noT : t ∉ hs.map Hd.ra := fun m => by
      obtain ⟨g, mg, rfl⟩ := List.mem_map.mp m
      rw [(w.new g mg).1] at ht
      cases ht
    have noL : L ∉ hs.map Hd.ra := fun m => by
      obtain ⟨g, mg, e⟩ := List.mem_map.mp m
      exact (w.new g mg).2 e
    have s9 : St C_Store μ9 ⟨t, L, f, l, k, hs, [], 0, [], []⟩ := by
      refine St.mk0 ?_ (by rw [w.nm]; exact nd) ?_ ?_ ?_ ?_ ?_ ?_
      · simp only [List.nodup_cons, List.mem_cons, not_or]
        exact ⟨⟨Ne.symm nL, Ne.symm f1, Ne.symm l1', Ne.symm k1, noT⟩, ⟨fL, lL, kL, noL⟩, ⟨Ne.symm l3, Ne.symm k7, noR f f2⟩, ⟨Ne.symm k3, noR l l6'⟩, noR k k10, w.nd⟩
      · rw [← eμ, put_same]
        rfl
      · rw [oth L nL fL lL kL]
        exact w.dic
      · rw [← eμ]
        walk_at "dl mu"
      · rw [← eμ]
        walk_at "dl mu"
      · rw [← eμ]
        walk_at "dl mu"
      · intro g mg
        have m : g.ra ∈ hs.map Hd.ra := List.mem_map.mpr ⟨g, mg, rfl⟩
        rw [oth g.ra (fun e => noT (e ▸ m)) (fun e => noR f f2 (e ▸ m)) (fun e => noR l l6' (e ▸ m)) (fun e => noR k k10 (e ▸ m)), w.at_ g mg, w.row g mg]
        rfl
    refine wkR.same (q μ9 _ rfl rfl rfl rfl rfl w.nm w.row s9 ?_ ?_)
    · intro a ha hat
      replace ha : a ∈ foot (SC.cells C_Store ⟨t, L, f, l, k, hs, [], 0, [], []⟩) := ha
      rw [foot_eq] at ha
      simp only [List.mem_cons, List.mem_append, List.map_nil, List.not_mem_nil, or_false] at ha
      have frsh : ∀ b, μ' b = none → μ b = none := fun b hb => by
        cases e : μ b with
        | none => rfl
        | some o => rw [w.keep hL b o e] at hb; cases hb
      rcases ha with rfl | rfl | rfl | rfl | rfl | m
      · exact (hat rfl).elim
      · exact hL
      · exact frsh _ f2
      · exact frsh _ l6'
      · exact frsh _ k10
      · obtain ⟨g, mg, rfl⟩ := List.mem_map.mp m
        exact (w.new g mg).1
    · intro a ha
      replace ha : a ∉ foot (SC.cells C_Store ⟨t, L, f, l, k, hs, [], 0, [], []⟩) := ha
      rw [foot_eq] at ha
      simp only [List.mem_cons, List.mem_append, List.map_nil, List.not_mem_nil, or_false, not_or] at ha
      obtain ⟨a1, a2, a3, a4, a5, a6⟩ := ha
      rw [oth a a1 a3 a4 a5, w.oth a a2 a6]
def sp_row_in : SpD := fun ds μ Q _ => match ds with
  | [.at m, .tup ds] => ∃ (x6 : Option Addr) (M : MS) (x : MT) (k : Str) (w h : D) (r : List D), m = M.m ∧ ds = w :: h :: .int x.n :: .str k :: r ∧ GSt (fl6 x6) μ M ∧ MOk M ∧ x ∈ M.ts ∧ Q (match getA x.sl k with | some r => r.D | none => .non) μ
  | _ => False
theorem sc_row_in : FnScope ["_law_own", "_law_deed_here"] ["_law_own", "_law_deed_here"] (defScope s_row_in) := ⟨rfl, rfl, rfl, by decide +kernel, rfl, by decide +kernel, by decide +kernel⟩
theorem g_row_in (T : Txt K mg C_NoCount C_NoGroup C_NoHold C_NoName C_NoOrder C_NoThing C_Store C_StoreError) (d_row_in : Def0 K mg "_law_row_in" s_row_in)  : CalD P w K mg base 1 "_law_row_in" s_row_in ["_law_own", "_law_deed_here"] sp_row_in := by
  refine calD d_row_in sc_row_in (fun ds μ Q E h => by unfold sp_row_in at h; split at h <;> first | rfl | exact h.elim) ?_
  intro f cdv A outer s H EX ds μ Q E hg hr tk hp h
  obtain ⟨hu, hu1, hu2⟩ := rooms hr
  refine ⟨_, (jss_one (js_ret (je_dget2 hu1 (je_dget hu1 (je_dget hu1 (je_name 0) je_str) (je_ix id_ix (je_name 1) je_int)) (je_ix id_ix (je_name 1) je_int) je_non ⟨by rfl, by rfl, by rfl, by rfl⟩))), ?_⟩
  clear hr hg tk hp hu hu1 hu2
  unfold sp_row_in at h
  split at h
  case h_2 => exact h.elim
  rename_i m ds0
  obtain ⟨x6, M, x, k, w, h, r, rfl, rfl, s, o, hx, q⟩ := h
  have sx := GSt.sl_ s hx
  walk_at "dl go"
  walk_at "dl rd"
  refine rd_gAt s ((fl6_ok x6).slots M) ?_
  walk_at "dl rd"
  refine rd_ixt at2 ?_
  refine rd_gSl s o.tn hx ?_
  walk_at "dl rd"
  refine rd_ixt at3 ?_
  refine rd_optRw sx ?_
  cases e : getA x.sl k with
  | none =>
    rw [e] at q
    exact wkR.same q
  | some r =>
    rw [e] at q
    exact wkR.same q
def sp_is_let : SpD := fun ds μ Q _ => match ds with
  | [.at m, d] => ∃ (x6 : Option Addr) (M : MS) (dd : Dd), m = M.m ∧ GSt (fl6 x6) μ M ∧ MOk M ∧ Fam M ∧ d = dd.D2 ∧ dd.Sh (M.rs.map (·.1)) M.names ∧ ∀ b, (b = true → dd.Ok M.rs ∧ dd.Rm M.rs M.slOf M.ts.length) → Q (.bl b) μ
  | _ => False
theorem sc_is_let : FnScope ["_law_own", "_law_deed_here", "_law_row", "_law_had", "_law_piece"] ["_law_own", "_law_deed_here"] (defScope s_is_let) := ⟨rfl, rfl, rfl, by decide +kernel, rfl, by decide +kernel, by decide +kernel⟩
theorem g_is_let (T : Txt K mg C_NoCount C_NoGroup C_NoHold C_NoName C_NoOrder C_NoThing C_Store C_StoreError) (d_is_let : Def0 K mg "_law_is_let" s_is_let) (c_row_in : CalD P w K mg base 1 "_law_row_in" s_row_in ["_law_own", "_law_deed_here"] sp_row_in) : CalD P w K mg base 2 "_law_is_let" s_is_let ["_law_own", "_law_deed_here"] sp_is_let := by
  refine calD d_is_let sc_is_let (fun ds μ Q E h => by unfold sp_is_let at h; split at h <;> first | rfl | exact h.elim) ?_
  intro f cdv A outer s H EX ds μ Q E hg hr tk hp h
  obtain ⟨hu, hu1, hu2⟩ := rooms hr
  refine ⟨_, (jss_cons (js_set 2 (je_dget hu1 (je_dget hu1 (je_name 0) je_str) (je_ix id_ix (je_name 1) je_int)) sc_is_let.nd)
      (jss_cons (js_if (jt_cmp (od_eq hu) (je_ix id_ix (je_name 1) je_int) je_str) (jss_one (js_ret (je_and (je_cmp od_lt (je_dget hu1 (je_name 0) je_str) je_int) (je_one (je_cmp od_lt (je_cb cd_len T.n_len (ja_cons (je_name 2) ja_nil)) je_int))))) jss_nil)
      (jss_cons (js_if (jt_not (jt_val (je_cb (cd_all rfl) T.n_all (ja_cons (je_lc (own := [("_law_piece", 4)]) (g := gName 4) sc_is_let.nd (ji_tup (je_sliceT (je_name 1) (jo_some je_int) (jo_some je_int))) (blkOk_by (own := [("_law_piece", 4)]) (sc := defScope s_is_let) (N := ["_law_own", "_law_deed_here", "_law_row", "_law_had", "_law_piece"]) (by decide +kernel)) (ct_name 4) (fun _ _ _ _ _ => (pg_name (i := 4) sc_is_let.nd rfl (by first | exact Or.inl rfl | exact Or.inr rfl))) (fun _ _ _ _ _ => jts_nil) (fun _ _ _ _ _ => (je_cmp (od_in hu) (je_name 4) (je_name 2)))) ja_nil)))) (jss_one (js_ret je_bl)) jss_nil)
      (jss_cons (js_if (jt_cmp (od_in hu) (je_ix id_ix (je_name 1) je_int) (je_tup (ja_cons je_str (ja_cons je_str ja_nil)))) (jss_one (js_ret (je_cmp (od_in hu) (je_ix id_ix (je_name 1) je_int) (je_name 2)))) jss_nil)
      (jss_cons (js_if (jt_cmp (od_eq hu) (je_ix id_ix (je_name 1) je_int) je_str) (jss_one (js_ret (je_and (je_cmp (od_in hu) (je_ix id_ix (je_name 1) je_int) (je_name 2)) (je_one (je_cmp (od_in hu) (je_ix id_ix (je_name 1) je_int) (je_name 2)))))) jss_nil)
      (jss_cons (js_if (jt_cmp (od_eq hu) (je_ix id_ix (je_name 1) je_int) je_str) (jss_one (js_ret (je_cmp od_notN (jf (ks := []) (n := 2) (idx := []) c_row_in hr (by decide) hg tkN (fun _ _ _ _ _ _ us ws h1 h2 => match us, ws, h1, h2 with | [_, _], [], _, _ => rfl) (jc_p (ja_cons (je_name 0) (ja_cons (je_name 1) ja_nil)))) je_non))) jss_nil)
      (jss_cons (js_if (jt_cmp (od_eq hu) (je_ix id_ix (je_name 1) je_int) je_str) (jss_cons (js_set 3 (jf (ks := []) (n := 2) (idx := []) c_row_in hr (by decide) hg tkN (fun _ _ _ _ _ _ us ws h1 h2 => match us, ws, h1, h2 with | [_, _], [], _, _ => rfl) (jc_p (ja_cons (je_name 0) (ja_cons (je_name 1) ja_nil)))) sc_is_let.nd)
      (jss_one (js_ret (je_and (je_cmp od_notN (je_name 3) je_non) (je_and (je_cmp od_lt (je_cb cd_len T.n_len (ja_cons (je_name 2) ja_nil)) je_int) (je_one (je_or (je_cmp (od_ne hu) (je_ix id_ix (je_name 3) je_int) je_str) (je_one (je_cmp (od_in hu) (je_ix id_ix (je_name 3) je_int) (je_name 2)))))))))) jss_nil)
      (jss_one (js_ret (je_or (je_cmp (od_eq hu) (je_ix id_ix (je_name 1) je_int) je_str) (je_or (je_cmp (od_eq hu) (je_ix id_ix (je_name 1) je_int) (je_ix id_ix (je_name 1) je_int)) (je_one (je_cmp od_lt (je_cb cd_len T.n_len (ja_cons (je_dget hu1 (je_dget hu1 (je_name 0) je_str) (je_ix id_ix (je_name 1) je_int)) ja_nil)) je_int))))))))))))), ?_⟩
  clear hr hg tk hp hu hu1 hu2
  unfold sp_is_let at h
  split at h
  case h_2 => exact h.elim
  rename_i m d
  obtain ⟨x6, M, dd, rfl, s, o, f, rfl, sh, q⟩ := h
  have tn := o.tn
  have tl := o.tl
  have no : wkR Q (.bl false) μ := wkR.same (q false fun z => by cases z)
  walk_at "dl go"
  cases dd with
  | make h w =>
    obtain ⟨hh, rfl⟩ := sh
    obtain ⟨row, hr⟩ := mrow_of hh
    unfold Dd.D2
    walk_at "dl kb"
    refine rd_gAt s ((fl6_ok x6).rows M) ?_
    walk_at "dl kb"
    refine rd_gRow s o.hn hr ?_
    walk_at "dl kb"
    refine rd_gAt s ((fl6_ok x6).made M) ?_
    walk_at "dl kb"
    refine rd_brD (fun h40 => ?_) fun h40 => ?_
    · walk_at "dl kb"
      rw [List.length_map]
      refine wkR.same (q _ fun z => ⟨⟨row, hr, .inl rfl⟩, ?_, fun row2 hr2 => ?_⟩)
      · have := f.many
        omega
      · cases o.row1 hr hr2
        have := of_decide_eq_true z
        omega
    · exact no
  | drop h x =>
    obtain ⟨row, hr⟩ := mrow_of sh
    have rl : row.length ≤ 30 := o.rl _ hr
    unfold Dd.D2
    walk_at "dl kb"
    refine rd_gAt s ((fl6_ok x6).rows M) ?_
    walk_at "dl kb"
    refine rd_gRow s o.hn hr ?_
    walk_at "dl kb"
    refine ⟨_, rfl, by simp only [List.length_cons, List.length_nil]; decide, [.int x], by rfl, ?_⟩
    refine lc_map (xs := [x]) (f := .int) (h := fun n => .bl (decide (n ∈ row))) (by simp) ?_ ?_ ?_
    · exact fun _ _ _ => trivial
    · intro n hn L acc K1 K2 hL k1
      walk_at "dl kb"
      refine rd_inInts (xs := row) (n := false) rfl ?_
      exact k1
    walk_at "dl rd"
    refine ⟨_, [decide (x ∈ row)], rfl, rfl, ?_⟩
    by_cases hx : x ∈ row
    case neg =>
      rw [show [decide (x ∈ row)].all id = false from by simp [hx]]
      walk_at "dl kb"
      exact no
    rw [show [decide (x ∈ row)].all id = true from by simp [hx]]
    walk_at "dl kb"
    refine rd_inT (xs := ["put", "show"]) ?_
    walk_at "dl kb"
    exact wkR.same (q true fun _ => ⟨⟨row, hr, hx⟩, trivial⟩)
  | give h x t =>
    obtain ⟨hh, ht⟩ := sh
    obtain ⟨row, hr⟩ := mrow_of hh
    obtain ⟨row2, hr2⟩ := mrow_of ht
    have rl : row.length ≤ 30 := o.rl _ hr
    unfold Dd.D2
    walk_at "dl kb"
    refine rd_gAt s ((fl6_ok x6).rows M) ?_
    walk_at "dl kb"
    refine rd_gRow s o.hn hr ?_
    walk_at "dl kb"
    refine ⟨_, rfl, by simp only [List.length_cons, List.length_nil]; decide, [.int x], by rfl, ?_⟩
    refine lc_map (xs := [x]) (f := .int) (h := fun n => .bl (decide (n ∈ row))) (by simp) ?_ ?_ ?_
    · exact fun _ _ _ => trivial
    · intro n hn L acc K1 K2 hL k1
      walk_at "dl kb"
      refine rd_inInts (xs := row) (n := false) rfl ?_
      exact k1
    walk_at "dl rd"
    refine ⟨_, [decide (x ∈ row)], rfl, rfl, ?_⟩
    by_cases hx : x ∈ row
    case neg =>
      rw [show [decide (x ∈ row)].all id = false from by simp [hx]]
      walk_at "dl kb"
      exact no
    rw [show [decide (x ∈ row)].all id = true from by simp [hx]]
    walk_at "dl kb"
    refine rd_inT (xs := ["put", "show"]) ?_
    walk_at "dl kb"
    refine rd_brD (fun c => ?_) fun c => ?_
    · walk_at "dl kb"
      exact wkR.same (q true fun _ => ⟨⟨row, hr, hx, ht⟩, fun z => absurd c z⟩)
    · walk_at "dl kb"
      refine rd_gAt s ((fl6_ok x6).rows M) ?_
      walk_at "dl kb"
      refine rd_gRow s o.hn hr2 ?_
      walk_at "dl kb"
      rw [List.length_map]
      refine wkR.same (q _ fun z => ⟨⟨row, hr, hx, ht⟩, fun _ row3 hr3 => ?_⟩)
      cases o.row1 hr2 hr3
      have := of_decide_eq_true z
      omega
  | fill h u k r =>
    obtain ⟨hh, hk⟩ := sh
    obtain ⟨row, hr⟩ := mrow_of hh
    have rl : row.length ≤ 30 := o.rl _ hr
    have nk := o.ns k hk
    have rm : u ∈ row → getA (M.slOf u) k = none → (M.slOf u).length < 8 := fun hx z => by
      obtain ⟨y, hy, rfl, ey⟩ := MS.slOf_of tn (o.rows _ hr u hx)
      rw [ey] at z ⊢
      exact f.room o hy hk z
    cases r with
    | plain v =>
      unfold Dd.D2 Rw.deed
      walk_at "dl kb"
      refine rd_gAt s ((fl6_ok x6).rows M) ?_
      walk_at "dl kb"
      refine rd_gRow s o.hn hr ?_
      walk_at "dl kb"
      refine ⟨_, rfl, by simp only [List.length_cons, List.length_nil]; decide, [.int u], by rfl, ?_⟩
      refine lc_map (xs := [u]) (f := .int) (h := fun n => .bl (decide (n ∈ row))) (by simp) ?_ ?_ ?_
      · exact fun _ _ _ => trivial
      · intro n hn L acc K1 K2 hL k1
        walk_at "dl kb"
        refine rd_inInts (xs := row) (n := false) rfl ?_
        exact k1
      walk_at "dl rd"
      refine ⟨_, [decide (u ∈ row)], rfl, rfl, ?_⟩
      by_cases hx : u ∈ row
      case neg =>
        rw [show [decide (u ∈ row)].all id = false from by simp [hx]]
        walk_at "dl kb"
        exact no
      rw [show [decide (u ∈ row)].all id = true from by simp [hx]]
      walk_at "dl kb"
      refine rd_inT (xs := ["put", "show"]) ?_
      walk_at "dl kb"
      refine rd_inInts (xs := row) (n := false) rfl ?_
      exact wkR.same (q _ fun z => ⟨⟨row, hr, hx, nk, of_decide_eq_true z, fun j e => by cases e⟩, rm hx⟩)
    | weak v =>
      unfold Dd.D2 Rw.deed
      walk_at "dl kb"
      refine rd_gAt s ((fl6_ok x6).rows M) ?_
      walk_at "dl kb"
      refine rd_gRow s o.hn hr ?_
      walk_at "dl kb"
      refine ⟨_, rfl, by simp only [List.length_cons, List.length_nil]; decide, [.int u], by rfl, ?_⟩
      refine lc_map (xs := [u]) (f := .int) (h := fun n => .bl (decide (n ∈ row))) (by simp) ?_ ?_ ?_
      · exact fun _ _ _ => trivial
      · intro n hn L acc K1 K2 hL k1
        walk_at "dl kb"
        refine rd_inInts (xs := row) (n := false) rfl ?_
        exact k1
      walk_at "dl rd"
      refine ⟨_, [decide (u ∈ row)], rfl, rfl, ?_⟩
      by_cases hx : u ∈ row
      case neg =>
        rw [show [decide (u ∈ row)].all id = false from by simp [hx]]
        walk_at "dl kb"
        exact no
      rw [show [decide (u ∈ row)].all id = true from by simp [hx]]
      walk_at "dl kb"
      refine rd_inT (xs := ["put", "show"]) ?_
      walk_at "dl kb"
      refine rd_inInts (xs := row) (n := false) rfl ?_
      exact wkR.same (q _ fun z => ⟨⟨row, hr, hx, nk, of_decide_eq_true z, fun j e => by cases e⟩, rm hx⟩)
    | keyed j v =>
      unfold Dd.D2 Rw.deed
      walk_at "dl kb"
      refine rd_gAt s ((fl6_ok x6).rows M) ?_
      walk_at "dl kb"
      refine rd_gRow s o.hn hr ?_
      walk_at "dl kb"
      refine ⟨_, rfl, by simp only [List.length_cons, List.length_nil]; decide, [.int u], by rfl, ?_⟩
      refine lc_map (xs := [u]) (f := .int) (h := fun n => .bl (decide (n ∈ row))) (by simp) ?_ ?_ ?_
      · exact fun _ _ _ => trivial
      · intro n hn L acc K1 K2 hL k1
        walk_at "dl kb"
        refine rd_inInts (xs := row) (n := false) rfl ?_
        exact k1
      walk_at "dl rd"
      refine ⟨_, [decide (u ∈ row)], rfl, rfl, ?_⟩
      by_cases hx : u ∈ row
      case neg =>
        rw [show [decide (u ∈ row)].all id = false from by simp [hx]]
        walk_at "dl kb"
        exact no
      rw [show [decide (u ∈ row)].all id = true from by simp [hx]]
      walk_at "dl kb"
      refine rd_inT (xs := ["put", "show"]) ?_
      walk_at "dl kb"
      refine rd_inInts (xs := row) (n := false) rfl ?_
      walk_at "dl kb"
      refine rd_brD (fun hj => ?_) fun hj => ?_
      · walk_at "dl kb"
        refine rd_inInts (xs := row) (n := false) rfl ?_
        exact wkR.same (q _ fun z => ⟨⟨row, hr, hx, nk, of_decide_eq_true z, fun j2 e => by cases e; exact hj⟩, rm hx⟩)
      · exact no
  | empty h u k =>
    obtain ⟨hh, hk⟩ := sh
    obtain ⟨row, hr⟩ := mrow_of hh
    have rl : row.length ≤ 30 := o.rl _ hr
    have nk := o.ns k hk
    unfold Dd.D2
    walk_at "dl kb"
    refine rd_gAt s ((fl6_ok x6).rows M) ?_
    walk_at "dl kb"
    refine rd_gRow s o.hn hr ?_
    walk_at "dl kb"
    refine ⟨_, rfl, by simp only [List.length_cons, List.length_nil]; decide, [.int u], by rfl, ?_⟩
    refine lc_map (xs := [u]) (f := .int) (h := fun n => .bl (decide (n ∈ row))) (by simp) ?_ ?_ ?_
    · exact fun _ _ _ => trivial
    · intro n hn L acc K1 K2 hL k1
      walk_at "dl kb"
      refine rd_inInts (xs := row) (n := false) rfl ?_
      exact k1
    walk_at "dl rd"
    refine ⟨_, [decide (u ∈ row)], rfl, rfl, ?_⟩
    by_cases hx : u ∈ row
    case neg =>
      rw [show [decide (u ∈ row)].all id = false from by simp [hx]]
      walk_at "dl kb"
      exact no
    rw [show [decide (u ∈ row)].all id = true from by simp [hx]]
    walk_at "dl kb"
    refine rd_inT (xs := ["put", "show"]) ?_
    walk_at "dl kb"
    obtain ⟨y, hy, rfl, ey⟩ := MS.slOf_of tn (o.rows _ hr u hx)
    refine ⟨x6, M, y, k, .str "empty", .str h, [], rfl, rfl, s, o, hy, ?_⟩
    cases e : getA y.sl k with
    | none =>
      walk_at "dl kb"
      exact no
    | some r =>
      have y2 : Dd.Ok M.rs (.empty h y.n k) ∧ Dd.Rm M.rs M.slOf M.ts.length (.empty h y.n k) := ⟨⟨row, hr, hx, nk⟩, fun z => (by rw [ey, e] at z; cases z)⟩
      cases r <;> (unfold Rw.D; walk_at "dl kb"; exact wkR.same (q _ fun _ => y2))
  | take h u k =>
    obtain ⟨hh, hk⟩ := sh
    obtain ⟨row, hr⟩ := mrow_of hh
    have rl : row.length ≤ 30 := o.rl _ hr
    have nk := o.ns k hk
    unfold Dd.D2
    walk_at "dl kb"
    refine rd_gAt s ((fl6_ok x6).rows M) ?_
    walk_at "dl kb"
    refine rd_gRow s o.hn hr ?_
    walk_at "dl kb"
    refine ⟨_, rfl, by simp only [List.length_cons, List.length_nil]; decide, [.int u], by rfl, ?_⟩
    refine lc_map (xs := [u]) (f := .int) (h := fun n => .bl (decide (n ∈ row))) (by simp) ?_ ?_ ?_
    · exact fun _ _ _ => trivial
    · intro n hn L acc K1 K2 hL k1
      walk_at "dl kb"
      refine rd_inInts (xs := row) (n := false) rfl ?_
      exact k1
    walk_at "dl rd"
    refine ⟨_, [decide (u ∈ row)], rfl, rfl, ?_⟩
    by_cases hx : u ∈ row
    case neg =>
      rw [show [decide (u ∈ row)].all id = false from by simp [hx]]
      walk_at "dl kb"
      exact no
    rw [show [decide (u ∈ row)].all id = true from by simp [hx]]
    walk_at "dl kb"
    refine rd_inT (xs := ["put", "show"]) ?_
    walk_at "dl kb"
    obtain ⟨y, hy, rfl, ey⟩ := MS.slOf_of tn (o.rows _ hr u hx)
    refine ⟨x6, M, y, k, .str "take", .str h, [], rfl, rfl, s, o, hy, ?_⟩
    cases e : getA y.sl k with
    | none =>
      walk_at "dl kb"
      exact no
    | some r =>
      have y2 : row.length < 30 → (∀ j, r.key = some j → j ∈ row) → Dd.Ok M.rs (.take h y.n k) ∧ Dd.Rm M.rs M.slOf M.ts.length (.take h y.n k) := fun l30 kj => ⟨⟨row, hr, hx, nk⟩, r, by rw [ey, e], fun row2 hr2 => by
        cases o.row1 hr hr2
        exact ⟨l30, kj⟩⟩
      cases r with
      | plain v =>
        unfold Rw.D
        walk_at "dl kb"
        rw [List.length_map]
        refine rd_brD (fun c => ?_) fun c => ?_
        · walk_at "dl kb"
          exact wkR.same (q _ fun _ => y2 (by omega) fun j e => by cases e)
        · exact no
      | weak v =>
        unfold Rw.D
        walk_at "dl kb"
        rw [List.length_map]
        refine rd_brD (fun c => ?_) fun c => ?_
        · walk_at "dl kb"
          exact wkR.same (q _ fun _ => y2 (by omega) fun j e => by cases e)
        · exact no
      | keyed j v =>
        unfold Rw.D
        walk_at "dl kb"
        rw [List.length_map]
        refine rd_brD (fun c => ?_) fun c => ?_
        · walk_at "dl kb"
          refine rd_inInts (xs := row) (n := false) rfl ?_
          exact wkR.same (q _ fun z => y2 (by omega) fun j2 e => by cases e; exact of_decide_eq_true z)
        · exact no
def sp_Store_want_hand (C_Store : Addr) : SpD := fun ds μ Q _ => match ds with
  | [.at t, .str x] => ∃ S : SC, t = S.t ∧ St C_Store μ S ∧ nameB x = true ∧ x ∈ S.hs.map Hd.nm ∧ Q .non μ
  | _ => False
theorem sc_Store_want_hand : FnScope ["self", "hand"] ["self", "hand"] (defScope s_Store_want_hand) := ⟨rfl, rfl, rfl, by decide +kernel, rfl, by decide +kernel, by decide +kernel⟩
theorem g_Store_want_hand (T : Txt K mg C_NoCount C_NoGroup C_NoHold C_NoName C_NoOrder C_NoThing C_Store C_StoreError) (d_Store_want_hand : Met0 K C_Store "want_hand" "Store.want_hand" s_Store_want_hand) (c_is_name : CalD P w K mg base 1 "is_name" s_is_name ["thing"] sp_is_name) : MetD P w K mg base 2 C_Store "want_hand" "Store.want_hand" s_Store_want_hand ["self", "hand"] (sp_Store_want_hand C_Store) := by
  refine metD d_Store_want_hand sc_Store_want_hand (fun ds μ Q E h => by unfold sp_Store_want_hand at h; split at h <;> first | rfl | exact h.elim) ?_
  intro f cdv A outer s H EX ds μ Q E hg hr tk hp h
  obtain ⟨hu, hu1, hu2⟩ := rooms hr
  refine ⟨_, (jss_one (js_if (jt_w (jw_or (jt_not (jt_val (jf (ks := []) (n := 1) (idx := []) c_is_name hr (by decide) hg tkN (fun _ _ _ _ _ _ us ws h1 h2 => match us, ws, h1, h2 with | [_], [], _, _ => rfl) (jc_p (ja_cons (je_name 1) ja_nil))))) (jw_or1 (jt_dnotin hu1 (je_name 1) (je_fld T.cl_Store T.na_Store_rows (je_name 0)))))) (jss_one js_never) jss_nil)), ?_⟩
  clear hr hg tk hp hu hu1 hu2
  unfold sp_Store_want_hand at h
  split at h
  case h_2 => exact h.elim
  rename_i t x
  obtain ⟨S, rfl, s, hx, hm, q⟩ := h
  have ob := s.ob
  have hl := nameB_len hx
  walk_at "dl go"
  walk_at "dl rd"
  refine .inl ⟨x, rfl, by omega, ?_⟩
  rw [hx]
  refine rd_brF rfl ?_
  walk_at "dl rd"
  refine rd_hasRow s fun o e => ?_
  rw [e, decide_eq_true hm]
  exact rd_brF rfl (wkR.same q)
def sp_want_word : SpD := fun ds μ Q _ => match ds with
  | [.str x] => (x = "" ∨ nameB x = true) ∧ Q .non μ
  | _ => False
theorem sc_want_word : FnScope ["thing"] ["thing"] (defScope s_want_word) := ⟨rfl, rfl, rfl, by decide +kernel, rfl, by decide +kernel, by decide +kernel⟩
theorem g_want_word (T : Txt K mg C_NoCount C_NoGroup C_NoHold C_NoName C_NoOrder C_NoThing C_Store C_StoreError) (d_want_word : Def0 K mg "want_word" s_want_word) (c_is_name : CalD P w K mg base 1 "is_name" s_is_name ["thing"] sp_is_name) : CalD P w K mg base 2 "want_word" s_want_word ["thing"] sp_want_word := by
  refine calD d_want_word sc_want_word (fun ds μ Q E h => by unfold sp_want_word at h; split at h <;> first | rfl | exact h.elim) ?_
  intro f cdv A outer s H EX ds μ Q E hg hr tk hp h
  obtain ⟨hu, hu1, hu2⟩ := rooms hr
  refine ⟨_, (jss_one (js_if (jt_w (jw_and (jt_cmp (od_ne hu) (je_name 0) je_str) (jw_and1 (jt_not (jt_val (jf (ks := []) (n := 1) (idx := []) c_is_name hr (by decide) hg tkN (fun _ _ _ _ _ _ us ws h1 h2 => match us, ws, h1, h2 with | [_], [], _, _ => rfl) (jc_p (ja_cons (je_name 0) ja_nil)))))))) (jss_one js_never) jss_nil)), ?_⟩
  clear hr hg tk hp hu hu1 hu2
  unfold sp_want_word at h
  split at h
  case h_2 => exact h.elim
  rename_i x
  obtain ⟨hx, q⟩ := h
  walk_at "dl go"
  walk_at "dl rd"
  refine rd_br (fun h1 => ?_) fun h1 => rd_brF rfl (wkR.same q)
  have hx : nameB x = true := by
    rcases hx with rfl | hx
    · simp at h1
    · exact hx
  have hl := nameB_len hx
  walk_at "dl rd"
  refine .inl ⟨x, rfl, by omega, ?_⟩
  rw [hx]
  exact rd_brF rfl (wkR.same q)
def sp_Store_want_room (C_Store : Addr) : SpD := fun ds μ Q _ => match ds with
  | [.at t, .str x] => ∃ (S : SC) (g : Hd), t = S.t ∧ St C_Store μ S ∧ g ∈ S.hs ∧ g.nm = x ∧ g.row.length < 30 ∧ Q .non μ
  | _ => False
theorem sc_Store_want_room : FnScope ["self", "hand"] ["self", "hand"] (defScope s_Store_want_room) := ⟨rfl, rfl, rfl, by decide +kernel, rfl, by decide +kernel, by decide +kernel⟩
theorem g_Store_want_room (T : Txt K mg C_NoCount C_NoGroup C_NoHold C_NoName C_NoOrder C_NoThing C_Store C_StoreError) (d_Store_want_room : Met0 K C_Store "want_room" "Store.want_room" s_Store_want_room)  : MetD P w K mg base 1 C_Store "want_room" "Store.want_room" s_Store_want_room ["self", "hand"] (sp_Store_want_room C_Store) := by
  refine metD d_Store_want_room sc_Store_want_room (fun ds μ Q E h => by unfold sp_Store_want_room at h; split at h <;> first | rfl | exact h.elim) ?_
  intro f cdv A outer s H EX ds μ Q E hg hr tk hp h
  obtain ⟨hu, hu1, hu2⟩ := rooms hr
  refine ⟨_, (jss_one (js_if (jt_cmp od_ge (je_cb cd_len T.n_len (ja_cons (je_dget hu1 (je_fld T.cl_Store T.na_Store_rows (je_name 0)) (je_name 1)) ja_nil)) (je_gi T.k_MOST_HAD)) (jss_one js_never) jss_nil)), ?_⟩
  clear hr hg tk hp hu hu1 hu2
  unfold sp_Store_want_room at h
  split at h
  case h_2 => exact h.elim
  rename_i t x
  obtain ⟨S, g, rfl, s, m, rfl, hl, q⟩ := h
  have ob := s.ob
  have hr := s.row m
  walk_at "dl go"
  walk_at "dl rd"
  refine rd_getRow s m ?_
  walk_at "dl rd"
  rw [List.length_map]
  refine rd_brF (by simp; omega) ?_
  exact wkR.same q
def sp_Store_come_in : SpD := fun ds μ Q _ => match ds with
  | [.at _, .int _] => Q .non μ
  | _ => False
theorem sc_Store_come_in : FnScope ["self", "thing"] ["self", "thing"] (defScope s_Store_come_in) := ⟨rfl, rfl, rfl, by decide +kernel, rfl, by decide +kernel, by decide +kernel⟩
theorem g_Store_come_in (T : Txt K mg C_NoCount C_NoGroup C_NoHold C_NoName C_NoOrder C_NoThing C_Store C_StoreError) (d_Store_come_in : Met0 K C_Store "come_in" "Store.come_in" s_Store_come_in)  : MetD P w K mg base 1 C_Store "come_in" "Store.come_in" s_Store_come_in ["self", "thing"] sp_Store_come_in := by
  refine metD d_Store_come_in sc_Store_come_in (fun ds μ Q E h => by unfold sp_Store_come_in at h; split at h <;> first | rfl | exact h.elim) ?_
  intro f cdv A outer s H EX ds μ Q E hg hr tk hp h
  obtain ⟨hu, hu1, hu2⟩ := rooms hr
  refine ⟨_, (jss_one js_pass), ?_⟩
  clear hr hg tk hp hu hu1 hu2
  unfold sp_Store_come_in at h
  split at h
  case h_2 => exact h.elim
  walk_at "dl go"
  exact wkR.same h
def sp_Store_add_hold (C_Store : Addr) : SpD := fun ds μ Q _ => match ds with
  | [.at t, .int n, .tup hd] => ∃ (S : SC) (x : Th) (g : List Int), t = S.t ∧ St C_Store μ S ∧ x ∈ S.ts ∧ x.n = n ∧ hd = g.map .int ∧ x.ke.length ≤ 100000 ∧ ∀ μ', St C_Store μ' (S.addKe n g) → Same (FT C_Store S) μ μ' → Q .non μ'
  | _ => False
theorem sc_Store_add_hold : FnScope ["self", "thing", "hold"] ["self", "thing", "hold"] (defScope s_Store_add_hold) := ⟨rfl, rfl, rfl, by decide +kernel, rfl, by decide +kernel, by decide +kernel⟩
theorem g_Store_add_hold (T : Txt K mg C_NoCount C_NoGroup C_NoHold C_NoName C_NoOrder C_NoThing C_Store C_StoreError) (d_Store_add_hold : Met0 K C_Store "add_hold" "Store.add_hold" s_Store_add_hold)  : MetD P w K mg base 1 C_Store "add_hold" "Store.add_hold" s_Store_add_hold ["self", "thing", "hold"] (sp_Store_add_hold C_Store) := by
  refine metD d_Store_add_hold sc_Store_add_hold (fun ds μ Q E h => by unfold sp_Store_add_hold at h; split at h <;> first | rfl | exact h.elim) ?_
  intro f cdv A outer s H EX ds μ Q E hg hr tk hp h
  obtain ⟨hu, hu1, hu2⟩ := rooms hr
  refine ⟨_, (jss_one (js_expr (je_ml PySem.F.slot_list_append PySem.F.type_list_append md_append (je_dget hu1 (je_fld T.cl_Store T.na_Store_kept (je_name 0)) (je_name 1)) (ja_cons (je_name 2) ja_nil)))), ?_⟩
  clear hr hg tk hp hu hu1 hu2
  unfold sp_Store_add_hold at h
  split at h
  case h_2 => exact h.elim
  rename_i t n hd
  obtain ⟨S, x, g, rfl, s, m, rfl, rfl, hl, q⟩ := h
  have ob := s.ob
  have hk := s.holds m
  walk_at "dl go"
  walk_at "dl rd"
  refine rd_getKe s m ?_
  walk_at "dl rd"
  refine wkR.same (q _ ?_ (sameKa m))
  have := s.stepKe m (· ++ [g])
  rw [List.map_append] at this
  exact this
def sp_Store_have (C_Store : Addr) : SpD := fun ds μ Q _ => match ds with
  | [.at t, .str x, .int n] => ∃ (S : SC) (g : Hd) (y : Th), t = S.t ∧ St C_Store μ S ∧ g ∈ S.hs ∧ g.nm = x ∧ y ∈ S.ts ∧ y.n = n ∧ g.row.length ≤ 100 ∧ y.ke.length ≤ 100000 ∧ ∀ μ', St C_Store μ' (S.have_ x n) → Same (FT C_Store S) μ μ' → Q .non μ'
  | _ => False
theorem sc_Store_have : FnScope ["self", "hand", "thing"] ["self", "hand", "thing"] (defScope s_Store_have) := ⟨rfl, rfl, rfl, by decide +kernel, rfl, by decide +kernel, by decide +kernel⟩
theorem g_Store_have (T : Txt K mg C_NoCount C_NoGroup C_NoHold C_NoName C_NoOrder C_NoThing C_Store C_StoreError) (d_Store_have : Met0 K C_Store "have" "Store.have" s_Store_have) (c_Store_add_hold : MetD P w K mg base 1 C_Store "add_hold" "Store.add_hold" s_Store_add_hold ["self", "thing", "hold"] (sp_Store_add_hold C_Store)) : MetD P w K mg base 2 C_Store "have" "Store.have" s_Store_have ["self", "hand", "thing"] (sp_Store_have C_Store) := by
  refine metD d_Store_have sc_Store_have (fun ds μ Q E h => by unfold sp_Store_have at h; split at h <;> first | rfl | exact h.elim) ?_
  intro f cdv A outer s H EX ds μ Q E hg hr tk hp h
  obtain ⟨hu, hu1, hu2⟩ := rooms hr
  refine ⟨_, (jss_cons (js_expr (je_ml PySem.F.slot_list_append PySem.F.type_list_append md_append (je_dget hu1 (je_fld T.cl_Store T.na_Store_rows (je_name 0)) (je_name 1)) (ja_cons (je_name 2) ja_nil)))
      (jss_one (js_expr (jm (ks := []) (n := 3) (idx := []) (je_name 0) T.cl_Store c_Store_add_hold hr (by decide) hg tkN (fun _ _ _ _ _ _ us ws h1 h2 => match us, ws, h1, h2 with | [_, _, _], [], _, _ => rfl) (jc_p (ja_cons (je_name 2) (ja_cons (je_tup ja_nil) ja_nil))))))), ?_⟩
  clear hr hg tk hp hu hu1 hu2
  unfold sp_Store_have at h
  split at h
  case h_2 => exact h.elim
  rename_i t x n
  obtain ⟨S, g, y, rfl, s, m, rfl, my, rfl, l1, l2, q⟩ := h
  have ob := s.ob
  have hr := s.row m
  have s1 := s.stepRow m (· ++ [y.n])
  rw [List.map_append] at s1
  have ob1 := s1.ob
  walk_at "dl go"
  walk_at "dl rd"
  refine rd_getRow s m ?_
  walk_at "dl rd"
  refine ⟨S.setRow g.nm (· ++ [y.n]), y, [], rfl, s1, my, rfl, rfl, l2, fun μ' h1 h2 => ?_⟩
  refine wkR.same (q μ' h1 ?_)
  have e : FT C_Store (S.setRow g.nm (· ++ [y.n])) = FT C_Store S := foot_setRow
  rw [e] at h2
  exact (sameRa m).trans h2
def sp_Store_done : SpD := fun ds μ Q _ => match ds with
  | [.at _] => Q .non μ
  | _ => False
theorem sc_Store_done : FnScope ["self"] ["self"] (defScope s_Store_done) := ⟨rfl, rfl, rfl, by decide +kernel, rfl, by decide +kernel, by decide +kernel⟩
theorem g_Store_done (T : Txt K mg C_NoCount C_NoGroup C_NoHold C_NoName C_NoOrder C_NoThing C_Store C_StoreError) (d_Store_done : Met0 K C_Store "done" "Store.done" s_Store_done)  : MetD P w K mg base 1 C_Store "done" "Store.done" s_Store_done ["self"] sp_Store_done := by
  refine metD d_Store_done sc_Store_done (fun ds μ Q E h => by unfold sp_Store_done at h; split at h <;> first | rfl | exact h.elim) ?_
  intro f cdv A outer s H EX ds μ Q E hg hr tk hp h
  obtain ⟨hu, hu1, hu2⟩ := rooms hr
  refine ⟨_, (jss_one js_pass), ?_⟩
  clear hr hg tk hp hu hu1 hu2
  unfold sp_Store_done at h
  split at h
  case h_2 => exact h.elim
  walk_at "dl go"
  exact wkR.same h
def sp_Store_make (C_Store : Addr) : SpD := fun ds μ Q _ => match ds with
  | [.at t, .str x, .str w] => ∃ (S : SC) (g : Hd) (B : Nat), t = S.t ∧ St C_Store μ S ∧ OkN S B ∧ B ≤ 90000 ∧ g ∈ S.hs ∧ g.nm = x ∧ g.row.length < 30 ∧ S.ts.length < 40 ∧ S.many < 100000 ∧ S.fx.length ≤ 100 ∧ (w = "" ∨ nameB w = true) ∧
    ∀ μ' y, y.n = S.many → y.sl = [] → y.w = w → y.ke = [] → μ y.sa = none → μ y.ka = none → St C_Store μ' ((S.addTh y).have_ x S.many) → Same (FT C_Store (S.addTh y)) μ μ' → Q (.int S.many) μ'
  | _ => False
theorem sc_Store_make : FnScope ["self", "hand", "word", "thing"] ["self", "hand", "word"] (defScope s_Store_make) := ⟨rfl, rfl, rfl, by decide +kernel, rfl, by decide +kernel, by decide +kernel⟩
theorem g_Store_make (T : Txt K mg C_NoCount C_NoGroup C_NoHold C_NoName C_NoOrder C_NoThing C_Store C_StoreError) (d_Store_make : Met0 K C_Store "make" "Store.make" s_Store_make) (c_Store_want_hand : MetD P w K mg base 2 C_Store "want_hand" "Store.want_hand" s_Store_want_hand ["self", "hand"] (sp_Store_want_hand C_Store)) (c_want_word : CalD P w K mg base 2 "want_word" s_want_word ["thing"] sp_want_word) (c_Store_want_room : MetD P w K mg base 1 C_Store "want_room" "Store.want_room" s_Store_want_room ["self", "hand"] (sp_Store_want_room C_Store)) (c_Store_come_in : MetD P w K mg base 1 C_Store "come_in" "Store.come_in" s_Store_come_in ["self", "thing"] sp_Store_come_in) (c_Store_have : MetD P w K mg base 2 C_Store "have" "Store.have" s_Store_have ["self", "hand", "thing"] (sp_Store_have C_Store)) (c_Store_done : MetD P w K mg base 1 C_Store "done" "Store.done" s_Store_done ["self"] sp_Store_done) : MetD P w K mg base 3 C_Store "make" "Store.make" s_Store_make ["self", "hand", "word"] (sp_Store_make C_Store) := by
  refine metD d_Store_make sc_Store_make (fun ds μ Q E h => by unfold sp_Store_make at h; split at h <;> first | rfl | exact h.elim) ?_
  intro f cdv A outer s H EX ds μ Q E hg hr tk hp h
  obtain ⟨hu, hu1, hu2⟩ := rooms hr
  refine ⟨_, (jss_cons (js_expr (jm (ks := []) (n := 2) (idx := []) (je_name 0) T.cl_Store c_Store_want_hand hr (by decide) hg tkN (fun _ _ _ _ _ _ us ws h1 h2 => match us, ws, h1, h2 with | [_, _], [], _, _ => rfl) (jc_p (ja_cons (je_name 1) ja_nil))))
      (jss_cons (js_expr (jf (ks := []) (n := 1) (idx := []) c_want_word hr (by decide) hg tkN (fun _ _ _ _ _ _ us ws h1 h2 => match us, ws, h1, h2 with | [_], [], _, _ => rfl) (jc_p (ja_cons (je_name 2) ja_nil))))
      (jss_cons (js_if (jt_cmp od_ge (je_cb cd_lenD T.n_len (ja_cons (je_fld T.cl_Store T.na_Store_filled (je_name 0)) ja_nil)) (je_gi T.k_MOST_THINGS)) (jss_one js_never) jss_nil)
      (jss_cons (js_expr (jm (ks := []) (n := 2) (idx := []) (je_name 0) T.cl_Store c_Store_want_room hr (by decide) hg tkN (fun _ _ _ _ _ _ us ws h1 h2 => match us, ws, h1, h2 with | [_, _], [], _, _ => rfl) (jc_p (ja_cons (je_name 1) ja_nil))))
      (jss_cons (js_set 3 (je_fld T.cl_Store T.na_Store_many (je_name 0)) sc_Store_make.nd)
      (jss_cons (js_fldAdd T.cl_Store T.na_Store_many (je_name 0) je_int)
      (jss_cons (js_dput hu1 (je_fld T.cl_Store T.na_Store_filled (je_name 0)) (je_name 3) je_dnewK)
      (jss_cons (js_dput hu1 (je_fld T.cl_Store T.na_Store_last (je_name 0)) (je_name 3) (je_name 2))
      (jss_cons (js_dput hu1 (je_fld T.cl_Store T.na_Store_kept (je_name 0)) (je_name 3) (je_lst true ja_nil))
      (jss_cons (js_expr (jm (ks := []) (n := 2) (idx := []) (je_name 0) T.cl_Store c_Store_come_in hr (by decide) hg tkN (fun _ _ _ _ _ _ us ws h1 h2 => match us, ws, h1, h2 with | [_, _], [], _, _ => rfl) (jc_p (ja_cons (je_name 3) ja_nil))))
      (jss_cons (js_expr (jm (ks := []) (n := 3) (idx := []) (je_name 0) T.cl_Store c_Store_have hr (by decide) hg tkN (fun _ _ _ _ _ _ us ws h1 h2 => match us, ws, h1, h2 with | [_, _, _], [], _, _ => rfl) (jc_p (ja_cons (je_name 1) (ja_cons (je_name 3) ja_nil)))))
      (jss_cons (js_expr (jm (ks := []) (n := 1) (idx := []) (je_name 0) T.cl_Store c_Store_done hr (by decide) hg tkN (fun _ _ _ _ _ _ us ws h1 h2 => match us, ws, h1, h2 with | [_], [], _, _ => rfl) jc_0))
      (jss_one (js_ret (je_name 3))))))))))))))), ?_⟩
  clear hr hg tk hp hu hu1 hu2
  unfold sp_Store_make at h
  split at h
  case h_2 => exact h.elim
  rename_i t x w
  obtain ⟨S, g, B, rfl, s, o, hB, mg, rfl, h30, h40, hm, hfx, hw, q⟩ := h
  have ob := s.ob
  have h0 := o.n0
  have hx := o.nm g mg
  have l := o.rl g mg
  walk_at "dl go"
  walk_at "dl rd"
  refine ⟨S, rfl, s, hx, List.mem_map.mpr ⟨g, mg, rfl⟩, ?_⟩
  walk_at "dl rd"
  refine ⟨hw, ?_⟩
  walk_at "dl rd"
  refine rd_lenD s.filled ?_
  walk_at "dl rd"
  have eL : S.df.length = S.ts.length := by unfold SC.df; rw [List.length_map]
  rw [eL]
  refine rd_brF (by simp; omega) ?_
  walk_at "dl rd"
  refine ⟨S, g, rfl, s, mg, rfl, h30, ?_⟩
  walk_at "dl rd"
  have hno : S.many ∉ S.ts.map Th.n := fun m => by
    obtain ⟨x, mx, e⟩ := th_of m
    have := (o.ok.many x mx).2
    omega
  obtain ⟨n1, n2, n3, n4, n5, n6, n7, n8, n9, n10⟩ := s.five
  have hf := s.filled
  have hl' := s.last
  have hk := s.kept
  have eL2 : S.flds.length < 1000 := by
    show S.fx.length + 5 < 1000
    omega
  refine ⟨S.t, S.flds, S.many, rfl, ob, rfl, 1, S.flds, rfl, ob, eL2, ?_⟩
  rw [flds_many]
  intro p1 hp1
  obtain ⟨p1t, p1n⟩ := no_put hp1
  walk_at "dl rd"
  have p1f := ne_no hf p1n
  have p1l := ne_no hl' p1n
  have p1k := ne_no hk p1n
  refine rd_putNew (l := S.ts) (f := Th.n) (g := fun x => .at x.sa) (by walk_at "dl mu") hno (by omega) ?_
  walk_at "dl rd"
  refine rd_putNew (l := S.ts) (f := Th.n) (g := fun x => .str x.w) (by walk_at "dl mu") hno (by omega) ?_
  walk_at "dl rd"
  refine rd_newT fun p2 hp2 => ?_
  have ⟨p2l, hp2a⟩ := no_put hp2
  have ⟨p2f, hp2b⟩ := no_put hp2a
  have ⟨p21, hp2c⟩ := no_put hp2b
  have ⟨p2t, p2n⟩ := no_put hp2c
  have p2k := ne_no hk p2n
  walk_at "dl rd"
  refine rd_putNew (l := S.ts) (f := Th.n) (g := fun x => .at x.ka) (by walk_at "dl mu") hno (by omega) ?_
  generalize eμ : put _ S.k (O.dK (_ ++ [(_, D.at p2)])) = μ9
  have s1 : St C_Store μ9 (S.addTh ⟨S.many, p1, p2, [], w, []⟩) := by
    refine s.addTh (x := ⟨S.many, p1, p2, [], w, []⟩) p1n p2n p21 hno ?_ ?_ ?_ ?_ ?_ ?_ ?_
    · intro a a1 a2 a3 a4 a5 a6
      rw [← eμ, put_ne a4, put_ne a6, put_ne a3, put_ne a2, put_ne a5, put_ne a1]
    · rw [← eμ]
      walk_at "dl mu"
    · rw [← eμ]
      unfold SC.df SC.addTh
      rw [List.map_append]
      walk_at "dl mu"
    · rw [← eμ]
      unfold SC.dl SC.addTh
      rw [List.map_append]
      walk_at "dl mu"
    · rw [← eμ]
      unfold SC.dk SC.addTh
      rw [List.map_append]
      walk_at "dl mu"
    · rw [← eμ]
      walk_at "dl mu"
    · rw [← eμ]
      walk_at "dl mu"
  have ob1 : μ9 S.t = _ := s1.ob
  have sm1 : Same (FT C_Store (S.addTh ⟨S.many, p1, p2, [], w, []⟩)) μ μ9 := fun a ha => by
    replace ha : a ∉ foot ((S.addTh ⟨S.many, p1, p2, [], w, []⟩).cells C_Store) := ha
    rw [foot_eq] at ha
    simp only [SC.addTh, List.mem_cons, List.mem_append, List.map_append, List.map_cons, List.map_nil, List.mem_singleton, not_or] at ha
    obtain ⟨a1, a2, a3, a4, a5, a6, ⟨a7, a8⟩, ⟨a9, a10⟩, a11⟩ := ha
    rw [← eμ, put_ne a5, put_ne a10.1, put_ne a4, put_ne a3, put_ne a8.1, put_ne a1]
  walk_at "dl rd"
  have hm' : (⟨S.many, p1, p2, [], w, []⟩ : Th) ∈ (S.addTh ⟨S.many, p1, p2, [], w, []⟩).ts := List.mem_append.mpr (.inr (List.mem_singleton.mpr rfl))
  show sp_Store_come_in [.at S.t, .int S.many] _ _ _
  unfold sp_Store_come_in
  walk_at "dl rd"
  refine ⟨S.addTh ⟨S.many, p1, p2, [], w, []⟩, g, _, rfl, s1, mg, rfl, hm', rfl, by omega, Nat.zero_le _, fun μ' h1 h2 => ?_⟩
  have ob2 : μ' S.t = _ := h1.ob
  have f1 : FT C_Store ((S.addTh ⟨S.many, p1, p2, [], w, []⟩).have_ g.nm S.many) = FT C_Store (S.addTh ⟨S.many, p1, p2, [], w, []⟩) := foot_have
  walk_at "dl rd"
  show sp_Store_done [.at S.t] _ _ _
  unfold sp_Store_done
  walk_at "dl rd"
  exact wkR.same (q μ' _ rfl rfl rfl rfl p1n p2n h1 (sm1.trans h2))
def sp_is_whole : SpD := fun ds μ Q _ => match ds with
  | [d] => (∃ n, n ∈ dataTys ∧ kindD μ d n) ∧ Q (.bl (wholeB d)) μ
  | _ => False
theorem sc_is_whole : FnScope ["thing"] ["thing"] (defScope s_is_whole) := ⟨rfl, rfl, rfl, by decide +kernel, rfl, by decide +kernel, by decide +kernel⟩
theorem g_is_whole (T : Txt K mg C_NoCount C_NoGroup C_NoHold C_NoName C_NoOrder C_NoThing C_Store C_StoreError) (d_is_whole : Def0 K mg "is_whole" s_is_whole)  : CalD P w K mg base 1 "is_whole" s_is_whole ["thing"] sp_is_whole := by
  refine calD d_is_whole sc_is_whole (fun ds μ Q E h => by unfold sp_is_whole at h; split at h <;> first | rfl | exact h.elim) ?_
  intro f cdv A outer s H EX ds μ Q E hg hr tk hp h
  obtain ⟨hu, hu1, hu2⟩ := rooms hr
  refine ⟨_, (jss_one (js_ret (je_and (je_cb cd_isi T.n_isinstance (ja_cons (je_name 0) (ja_cons (je_ty T.n_int (by rfl)) ja_nil))) (je_one (je_not (je_cb cd_isi T.n_isinstance (ja_cons (je_name 0) (ja_cons (je_ty T.n_bool (by rfl)) ja_nil)))))))), ?_⟩
  clear hr hg tk hp hu hu1 hu2
  unfold sp_is_whole at h
  split at h
  case h_2 => exact h.elim
  rename_i d
  obtain ⟨⟨n, hn, hk⟩, q⟩ := h
  walk_at "dl go"
  walk_at "dl rd"
  rcases kind_cases hk hn with ⟨i, rfl, rfl⟩ | ⟨e, ni⟩
  · walk_at "dl rd"
    refine rd_brT rfl ?_
    walk_at "dl rd"
    exact wkR.same q
  · rw [e] at q
    simp only [dataTys, List.mem_cons, List.not_mem_nil, or_false] at hn
    rcases hn with rfl | rfl | rfl | rfl | rfl | rfl | rfl
    · exact rd_isi (b := false) hk (by decide +kernel) (rd_brF rfl (wkR.same q))
    · refine rd_isi (b := true) hk (by decide +kernel) (rd_brT rfl ?_)
      walk_at "dl rd"
      refine rd_isi (b := true) hk (by decide +kernel) ?_
      exact wkR.same q
    · exact (ni rfl).elim
    · exact rd_isi (b := false) hk (by decide +kernel) (rd_brF rfl (wkR.same q))
    · exact rd_isi (b := false) hk (by decide +kernel) (rd_brF rfl (wkR.same q))
    · exact rd_isi (b := false) hk (by decide +kernel) (rd_brF rfl (wkR.same q))
    · exact rd_isi (b := false) hk (by decide +kernel) (rd_brF rfl (wkR.same q))
def sp_is_count : SpD := fun ds μ Q _ => match ds with
  | [d] => (∃ n, n ∈ dataTys ∧ kindD μ d n) ∧ Q (.bl (countB d)) μ
  | _ => False
theorem sc_is_count : FnScope ["thing"] ["thing"] (defScope s_is_count) := ⟨rfl, rfl, rfl, by decide +kernel, rfl, by decide +kernel, by decide +kernel⟩
theorem g_is_count (T : Txt K mg C_NoCount C_NoGroup C_NoHold C_NoName C_NoOrder C_NoThing C_Store C_StoreError) (d_is_count : Def0 K mg "is_count" s_is_count) (c_is_whole : CalD P w K mg base 1 "is_whole" s_is_whole ["thing"] sp_is_whole) : CalD P w K mg base 2 "is_count" s_is_count ["thing"] sp_is_count := by
  refine calD d_is_count sc_is_count (fun ds μ Q E h => by unfold sp_is_count at h; split at h <;> first | rfl | exact h.elim) ?_
  intro f cdv A outer s H EX ds μ Q E hg hr tk hp h
  obtain ⟨hu, hu1, hu2⟩ := rooms hr
  refine ⟨_, (jss_one (js_ret (je_and (jf (ks := []) (n := 1) (idx := []) c_is_whole hr (by decide) hg tkN (fun _ _ _ _ _ _ us ws h1 h2 => match us, ws, h1, h2 with | [_], [], _, _ => rfl) (jc_p (ja_cons (je_name 0) ja_nil))) (je_one (je_cmp od_ge (je_name 0) je_int))))), ?_⟩
  clear hr hg tk hp hu hu1 hu2
  unfold sp_is_count at h
  split at h
  case h_2 => exact h.elim
  rename_i d
  obtain ⟨⟨n, hn, hk⟩, q⟩ := h
  walk_at "dl go"
  walk_at "dl rd"
  refine ⟨⟨n, hn, hk⟩, ?_⟩
  rcases kind_cases hk hn with ⟨i, rfl, rfl⟩ | ⟨e, ni⟩
  · refine rd_brT rfl ?_
    walk_at "dl rd"
    exact wkR.same q
  · have e2 : countB d = false := by
      cases d with
      | int i => cases e
      | _ => rfl
    rw [e2] at q
    rw [e]
    exact rd_brF rfl (wkR.same q)
def sp_Store_want_had (C_Store : Addr) : SpD := fun ds μ Q _ => match ds with
  | [.at t, .str x, .int n] => ∃ (S : SC) (g : Hd), t = S.t ∧ St C_Store μ S ∧ g ∈ S.hs ∧ g.nm = x ∧ n ∈ g.row ∧ 0 ≤ n ∧ Q .non μ
  | _ => False
theorem sc_Store_want_had : FnScope ["self", "hand", "thing"] ["self", "hand", "thing"] (defScope s_Store_want_had) := ⟨rfl, rfl, rfl, by decide +kernel, rfl, by decide +kernel, by decide +kernel⟩
theorem g_Store_want_had (T : Txt K mg C_NoCount C_NoGroup C_NoHold C_NoName C_NoOrder C_NoThing C_Store C_StoreError) (d_Store_want_had : Met0 K C_Store "want_had" "Store.want_had" s_Store_want_had) (c_is_count : CalD P w K mg base 2 "is_count" s_is_count ["thing"] sp_is_count) : MetD P w K mg base 3 C_Store "want_had" "Store.want_had" s_Store_want_had ["self", "hand", "thing"] (sp_Store_want_had C_Store) := by
  refine metD d_Store_want_had sc_Store_want_had (fun ds μ Q E h => by unfold sp_Store_want_had at h; split at h <;> first | rfl | exact h.elim) ?_
  intro f cdv A outer s H EX ds μ Q E hg hr tk hp h
  obtain ⟨hu, hu1, hu2⟩ := rooms hr
  refine ⟨_, (jss_one (js_if (jt_w (jw_or (jt_not (jt_val (jf (ks := []) (n := 1) (idx := []) c_is_count hr (by decide) hg tkN (fun _ _ _ _ _ _ us ws h1 h2 => match us, ws, h1, h2 with | [_], [], _, _ => rfl) (jc_p (ja_cons (je_name 2) ja_nil))))) (jw_or1 (jt_cmp (od_notin hu) (je_name 2) (je_dget hu1 (je_fld T.cl_Store T.na_Store_rows (je_name 0)) (je_name 1)))))) (jss_one js_never) jss_nil)), ?_⟩
  clear hr hg tk hp hu hu1 hu2
  unfold sp_Store_want_had at h
  split at h
  case h_2 => exact h.elim
  rename_i t x n
  obtain ⟨S, g, rfl, s, m, rfl, hn, h0, q⟩ := h
  have ob := s.ob
  have hr := s.row m
  walk_at "dl go"
  walk_at "dl rd"
  refine ⟨⟨"int", by decide, rfl⟩, ?_⟩
  refine rd_brF (by simp [countB, h0]) ?_
  walk_at "dl rd"
  refine rd_getRow s m ?_
  refine rd_inInts (xs := g.row) hr ?_
  rw [decide_eq_true hn]
  exact rd_brF rfl (wkR.same q)
def sp_want_name : SpD := fun ds μ Q _ => match ds with
  | [d] => ∃ x, d = .str x ∧ nameB x = true ∧ Q .non μ
  | _ => False
theorem sc_want_name : FnScope ["thing"] ["thing"] (defScope s_want_name) := ⟨rfl, rfl, rfl, by decide +kernel, rfl, by decide +kernel, by decide +kernel⟩
theorem g_want_name (T : Txt K mg C_NoCount C_NoGroup C_NoHold C_NoName C_NoOrder C_NoThing C_Store C_StoreError) (d_want_name : Def0 K mg "want_name" s_want_name) (c_is_name : CalD P w K mg base 1 "is_name" s_is_name ["thing"] sp_is_name) : CalD P w K mg base 2 "want_name" s_want_name ["thing"] sp_want_name := by
  refine calD d_want_name sc_want_name (fun ds μ Q E h => by unfold sp_want_name at h; split at h <;> first | rfl | exact h.elim) ?_
  intro f cdv A outer s H EX ds μ Q E hg hr tk hp h
  obtain ⟨hu, hu1, hu2⟩ := rooms hr
  refine ⟨_, (jss_one (js_if (jt_not (jt_val (jf (ks := []) (n := 1) (idx := []) c_is_name hr (by decide) hg tkN (fun _ _ _ _ _ _ us ws h1 h2 => match us, ws, h1, h2 with | [_], [], _, _ => rfl) (jc_p (ja_cons (je_name 0) ja_nil))))) (jss_one js_never) jss_nil)), ?_⟩
  clear hr hg tk hp hu hu1 hu2
  unfold sp_want_name at h
  split at h
  case h_2 => exact h.elim
  rename_i d
  obtain ⟨x, rfl, hx, q⟩ := h
  have hl := nameB_len hx
  walk_at "dl go"
  walk_at "dl rd"
  refine .inl ⟨x, rfl, by omega, ?_⟩
  rw [hx]
  exact rd_brF rfl (wkR.same q)
def sp_Store_want_owner (C_Store : Addr) : SpD := fun ds μ Q _ => match ds with
  | [.at t, .str x, .int n, .str k] => ∃ (S : SC) (g : Hd), t = S.t ∧ St C_Store μ S ∧ g ∈ S.hs ∧ g.nm = x ∧ nameB x = true ∧ n ∈ g.row ∧ 0 ≤ n ∧ nameB k = true ∧ Q .non μ
  | _ => False
theorem sc_Store_want_owner : FnScope ["self", "hand", "owner", "slot"] ["self", "hand", "owner", "slot"] (defScope s_Store_want_owner) := ⟨rfl, rfl, rfl, by decide +kernel, rfl, by decide +kernel, by decide +kernel⟩
theorem g_Store_want_owner (T : Txt K mg C_NoCount C_NoGroup C_NoHold C_NoName C_NoOrder C_NoThing C_Store C_StoreError) (d_Store_want_owner : Met0 K C_Store "want_owner" "Store.want_owner" s_Store_want_owner) (c_Store_want_hand : MetD P w K mg base 2 C_Store "want_hand" "Store.want_hand" s_Store_want_hand ["self", "hand"] (sp_Store_want_hand C_Store)) (c_Store_want_had : MetD P w K mg base 3 C_Store "want_had" "Store.want_had" s_Store_want_had ["self", "hand", "thing"] (sp_Store_want_had C_Store)) (c_want_name : CalD P w K mg base 2 "want_name" s_want_name ["thing"] sp_want_name) : MetD P w K mg base 4 C_Store "want_owner" "Store.want_owner" s_Store_want_owner ["self", "hand", "owner", "slot"] (sp_Store_want_owner C_Store) := by
  refine metD d_Store_want_owner sc_Store_want_owner (fun ds μ Q E h => by unfold sp_Store_want_owner at h; split at h <;> first | rfl | exact h.elim) ?_
  intro f cdv A outer s H EX ds μ Q E hg hr tk hp h
  obtain ⟨hu, hu1, hu2⟩ := rooms hr
  refine ⟨_, (jss_cons (js_expr (jm (ks := []) (n := 2) (idx := []) (je_name 0) T.cl_Store c_Store_want_hand hr (by decide) hg tkN (fun _ _ _ _ _ _ us ws h1 h2 => match us, ws, h1, h2 with | [_, _], [], _, _ => rfl) (jc_p (ja_cons (je_name 1) ja_nil))))
      (jss_cons (js_expr (jm (ks := []) (n := 3) (idx := []) (je_name 0) T.cl_Store c_Store_want_had hr (by decide) hg tkN (fun _ _ _ _ _ _ us ws h1 h2 => match us, ws, h1, h2 with | [_, _, _], [], _, _ => rfl) (jc_p (ja_cons (je_name 1) (ja_cons (je_name 2) ja_nil)))))
      (jss_one (js_expr (jf (ks := []) (n := 1) (idx := []) c_want_name hr (by decide) hg tkN (fun _ _ _ _ _ _ us ws h1 h2 => match us, ws, h1, h2 with | [_], [], _, _ => rfl) (jc_p (ja_cons (je_name 3) ja_nil))))))), ?_⟩
  clear hr hg tk hp hu hu1 hu2
  unfold sp_Store_want_owner at h
  split at h
  case h_2 => exact h.elim
  rename_i t x n k
  obtain ⟨S, g, rfl, s, m, rfl, hx, hn, h0, hk, q⟩ := h
  have ob := s.ob
  walk_at "dl go"
  walk_at "dl rd"
  refine ⟨S, rfl, s, hx, List.mem_map.mpr ⟨g, m, rfl⟩, ?_⟩
  walk_at "dl rd"
  refine ⟨S, g, rfl, s, m, rfl, hn, h0, ?_⟩
  walk_at "dl rd"
  exact ⟨k, rfl, hk, wkR.same q⟩
def sp_joint : SpD := fun ds μ Q _ => match ds with
  | [.int o, .int k] => Q (hoD (joint o k)) μ
  | _ => False
theorem sc_joint : FnScope ["owner", "key"] ["owner", "key"] (defScope s_joint) := ⟨rfl, rfl, rfl, by decide +kernel, rfl, by decide +kernel, by decide +kernel⟩
theorem g_joint (T : Txt K mg C_NoCount C_NoGroup C_NoHold C_NoName C_NoOrder C_NoThing C_Store C_StoreError) (d_joint : Def0 K mg "joint" s_joint)  : CalD P w K mg base 1 "joint" s_joint ["owner", "key"] sp_joint := by
  refine calD d_joint sc_joint (fun ds μ Q E h => by unfold sp_joint at h; split at h <;> first | rfl | exact h.elim) ?_
  intro f cdv A outer s H EX ds μ Q E hg hr tk hp h
  obtain ⟨hu, hu1, hu2⟩ := rooms hr
  refine ⟨_, (jss_one (js_ret (je_if (jt_cmp (od_eq hu) (je_name 0) (je_name 1)) (je_tup (ja_cons (je_name 0) ja_nil)) (je_tupOf T.n_tuple (je_cb (cd_sorted false hu) T.n_sorted (ja_cons (je_lst false (ja_cons (je_name 0) (ja_cons (je_name 1) ja_nil))) ja_nil)))))), ?_⟩
  clear hr hg tk hp hu hu1 hu2
  unfold sp_joint at h
  split at h
  case h_2 => exact h.elim
  rename_i o k
  walk_at "dl go"
  walk_at "dl rd"
  refine rd_brD (fun e => ?_) fun e => ?_
  · have e2 : joint o k = [o] := by unfold joint; rw [if_pos e]
    rw [e2] at h
    walk_at "dl rd"
    exact wkR.same h
  · rw [← sort_joint o k e] at h
    walk_at "dl rd"
    refine rd_sortedInts (ns := [o, k]) (by simp) ?_
    walk_at "dl rd"
    exact wkR.same h
def sp_Store_holds_by : SpD := fun ds μ Q _ => match ds with
  | [.at _, .int o, d] => ∃ r : Rw, d = r.D ∧ Q (.lst ((r.holds o).map hpD)) μ
  | _ => False
theorem sc_Store_holds_by : FnScope ["self", "owner", "row"] ["self", "owner", "row"] (defScope s_Store_holds_by) := ⟨rfl, rfl, rfl, by decide +kernel, rfl, by decide +kernel, by decide +kernel⟩
theorem g_Store_holds_by (T : Txt K mg C_NoCount C_NoGroup C_NoHold C_NoName C_NoOrder C_NoThing C_Store C_StoreError) (d_Store_holds_by : Met0 K C_Store "holds_by" "Store.holds_by" s_Store_holds_by) (c_joint : CalD P w K mg base 1 "joint" s_joint ["owner", "key"] sp_joint) : MetD P w K mg base 2 C_Store "holds_by" "Store.holds_by" s_Store_holds_by ["self", "owner", "row"] sp_Store_holds_by := by
  refine metD d_Store_holds_by sc_Store_holds_by (fun ds μ Q E h => by unfold sp_Store_holds_by at h; split at h <;> first | rfl | exact h.elim) ?_
  intro f cdv A outer s H EX ds μ Q E hg hr tk hp h
  obtain ⟨hu, hu1, hu2⟩ := rooms hr
  refine ⟨_, (jss_cons (js_if (jt_cmp (od_eq hu) (je_ix id_ix (je_name 2) je_int) (je_gs T.k_PLAIN)) (jss_one (js_ret (je_lst false (ja_cons (je_tup (ja_cons (je_ix id_ix (je_name 2) je_int) (ja_cons (je_tup (ja_cons (je_name 1) ja_nil)) ja_nil))) ja_nil)))) jss_nil)
      (jss_one (js_ret (je_if (jt_cmp (od_eq hu) (je_ix id_ix (je_name 2) je_int) (je_gs T.k_KEYED)) (je_lst false (ja_cons (je_tup (ja_cons (je_ix id_ix (je_name 2) je_int) (ja_cons (jf (ks := []) (n := 2) (idx := []) c_joint hr (by decide) hg tkN (fun _ _ _ _ _ _ us ws h1 h2 => match us, ws, h1, h2 with | [_, _], [], _, _ => rfl) (jc_p (ja_cons (je_name 1) (ja_cons (je_ix id_ix (je_name 2) je_int) ja_nil)))) ja_nil))) ja_nil)) (je_lst false ja_nil))))), ?_⟩
  clear hr hg tk hp hu hu1 hu2
  unfold sp_Store_holds_by at h
  split at h
  case h_2 => exact h.elim
  rename_i t o d
  obtain ⟨r, rfl, q⟩ := h
  walk_at "dl go"
  cases r with
  | plain x =>
    unfold Rw.D
    walk_at "dl rd"
    refine rd_brT (by decide) ?_
    walk_at "dl rd"
    exact wkR.same q
  | weak x =>
    unfold Rw.D
    walk_at "dl rd"
    refine rd_brF (by decide) ?_
    walk_at "dl rd"
    refine rd_brF (by decide) ?_
    walk_at "dl rd"
    exact wkR.same q
  | keyed k v =>
    unfold Rw.D
    walk_at "dl rd"
    refine rd_brF (by decide) ?_
    walk_at "dl rd"
    refine rd_brT (by decide) ?_
    walk_at "dl rd"
    show sp_joint [.int o, .int k] _ _ _
    unfold sp_joint
    walk_at "dl rd"
    exact wkR.same q
def sp_Store_end_hold (C_Store : Addr) : SpD := fun ds μ Q _ => match ds with
  | [.at t, .int n, .tup hd] => ∃ (S : SC) (x : Th) (g : List Int), t = S.t ∧ St C_Store μ S ∧ x ∈ S.ts ∧ x.n = n ∧ hd = g.map .int ∧ g ∈ x.ke ∧ ∀ μ', St C_Store μ' (S.delKe n g) → Same (FT C_Store S) μ μ' → Q .non μ'
  | _ => False
theorem sc_Store_end_hold : FnScope ["self", "thing", "hold"] ["self", "thing", "hold"] (defScope s_Store_end_hold) := ⟨rfl, rfl, rfl, by decide +kernel, rfl, by decide +kernel, by decide +kernel⟩
theorem g_Store_end_hold (T : Txt K mg C_NoCount C_NoGroup C_NoHold C_NoName C_NoOrder C_NoThing C_Store C_StoreError) (d_Store_end_hold : Met0 K C_Store "end_hold" "Store.end_hold" s_Store_end_hold)  : MetD P w K mg base 1 C_Store "end_hold" "Store.end_hold" s_Store_end_hold ["self", "thing", "hold"] (sp_Store_end_hold C_Store) := by
  refine metD d_Store_end_hold sc_Store_end_hold (fun ds μ Q E h => by unfold sp_Store_end_hold at h; split at h <;> first | rfl | exact h.elim) ?_
  intro f cdv A outer s H EX ds μ Q E hg hr tk hp h
  obtain ⟨hu, hu1, hu2⟩ := rooms hr
  refine ⟨_, (jss_one (js_expr (je_ml PySem.F.slot_list_remove PySem.F.type_list_remove (md_remove hu) (je_dget hu1 (je_fld T.cl_Store T.na_Store_kept (je_name 0)) (je_name 1)) (ja_cons (je_name 2) ja_nil)))), ?_⟩
  clear hr hg tk hp hu hu1 hu2
  unfold sp_Store_end_hold at h
  split at h
  case h_2 => exact h.elim
  rename_i t n hd
  obtain ⟨S, x, g, rfl, s, m, rfl, rfl, hg', q⟩ := h
  have ob := s.ob
  have hk := s.holds m
  walk_at "dl go"
  walk_at "dl rd"
  refine rd_getKe s m ?_
  walk_at "dl rd"
  refine rd_removeH hk hg' ?_
  exact wkR.same (q _ (s.stepKe m (fun ke => ke.erase g)) (sameKa m))
def sp_Store_clear_slot (C_Store : Addr) : SpD := fun ds μ Q _ => match ds with
  | [.at t, .int n, .str k] => ∃ (S : SC) (y : Th), t = S.t ∧ St C_Store μ S ∧ OkS S ∧ y ∈ S.ts ∧ y.n = n ∧ ∀ μ', St C_Store μ' (S.clrO n k) → Same (FT C_Store S) μ μ' → Q .non μ'
  | _ => False
theorem sc_Store_clear_slot : FnScope ["self", "owner", "slot", "thing", "hold"] ["self", "owner", "slot"] (defScope s_Store_clear_slot) := ⟨rfl, rfl, rfl, by decide +kernel, rfl, by decide +kernel, by decide +kernel⟩
theorem g_Store_clear_slot (T : Txt K mg C_NoCount C_NoGroup C_NoHold C_NoName C_NoOrder C_NoThing C_Store C_StoreError) (d_Store_clear_slot : Met0 K C_Store "clear_slot" "Store.clear_slot" s_Store_clear_slot) (c_Store_holds_by : MetD P w K mg base 2 C_Store "holds_by" "Store.holds_by" s_Store_holds_by ["self", "owner", "row"] sp_Store_holds_by) (c_Store_end_hold : MetD P w K mg base 1 C_Store "end_hold" "Store.end_hold" s_Store_end_hold ["self", "thing", "hold"] (sp_Store_end_hold C_Store)) : MetD P w K mg base 3 C_Store "clear_slot" "Store.clear_slot" s_Store_clear_slot ["self", "owner", "slot"] (sp_Store_clear_slot C_Store) := by
  refine metD d_Store_clear_slot sc_Store_clear_slot (fun ds μ Q E h => by unfold sp_Store_clear_slot at h; split at h <;> first | rfl | exact h.elim) ?_
  intro f cdv A outer s H EX ds μ Q E hg hr tk hp h
  obtain ⟨hu, hu1, hu2⟩ := rooms hr
  refine ⟨_, (jss_one (js_if (jt_din hu1 (je_name 2) (je_dget hu1 (je_fld T.cl_Store T.na_Store_filled (je_name 0)) (je_name 1))) (jss_one (js_for hp (ji_list (jm (ks := []) (n := 3) (idx := []) (je_name 0) T.cl_Store c_Store_holds_by hr (by decide) hg tkN (fun _ _ _ _ _ _ us ws h1 h2 => match us, ws, h1, h2 with | [_, _, _], [], _, _ => rfl) (jc_p (ja_cons (je_name 1) (ja_cons (je_dpop (je_dget hu1 (je_fld T.cl_Store T.na_Store_filled (je_name 0)) (je_name 1)) (je_name 2) ⟨by rfl, by rfl, by rfl, by rfl⟩) ja_nil))))) (jg_tup 2 rfl (jgs_cons (jg_name 3 sc_Store_clear_slot.nd) (jgs_cons (jg_name 4 sc_Store_clear_slot.nd) jgs_nil))) (jss_one (js_expr (jm (ks := []) (n := 3) (idx := []) (je_name 0) T.cl_Store c_Store_end_hold hr (by decide) hg tkN (fun _ _ _ _ _ _ us ws h1 h2 => match us, ws, h1, h2 with | [_, _, _], [], _, _ => rfl) (jc_p (ja_cons (je_name 3) (ja_cons (je_name 4) ja_nil)))))))) jss_nil)), ?_⟩
  clear hr hg tk hp hu hu1 hu2
  unfold sp_Store_clear_slot at h
  split at h
  case h_2 => exact h.elim
  rename_i t n k
  obtain ⟨S, y, rfl, s, o, m, rfl, q⟩ := h
  have ob := s.ob
  walk_at "dl go"
  walk_at "dl rd"
  refine rd_getSl s m ?_
  refine rd_optRw (s.slots m) ?_
  have eS := slOf_at s.tn m
  unfold SC.clrO at q
  rw [eS] at q
  cases er : getA y.sl k with
  | none =>
    rw [er] at q
    refine rd_brF rfl ?_
    exact wkR.same (q μ s (Same.refl _ _))
  | some r =>
    rw [er] at q
    refine rd_brT rfl ?_
    walk_at "dl rd"
    refine rd_getSl s m ?_
    refine ⟨⟨_, _, rfl, s.slots m⟩, ?_⟩
    walk_at "dl rd"
    refine ⟨y.sa, _, .inr k, r.D, rfl, s.slots m, rfl, by rw [slK_at, er]; rfl, ?_⟩
    rw [slK_drop]
    walk_at "dl rd"
    have s1 := s.stepSl m fun sl => dropA sl k
    have ob1 := s1.ob
    have e1 : FT C_Store (S.setSl y.n fun sl => dropA sl k) = FT C_Store S := foot_setSl
    refine ⟨r, rfl, ?_⟩
    rcases holds_le (o := y.n) (r := r) with e | ⟨p, e⟩
    · rw [e]
      refine rd_itl ?_
      refine ⟨fun i ρ μ' => St C_Store μ' (S.setSl y.n fun sl => dropA sl k) ∧ Same (FT C_Store S) μ μ', wk.same ⟨s1, sameSa m⟩, ?_, ?_, ?_⟩
      · rintro i ρ μ' hi h'
        rfl
      · rintro i d ρ μ' hd h'
        cases hd
      · rintro ρ μ' ⟨h1, h2⟩
        refine wkR.same (q μ' ?_ h2)
        show St C_Store μ' (S.clr y.n k r)
        unfold SC.clr
        rw [e]
        exact h1
    · rw [e]
      obtain ⟨x, hx, x1, x2⟩ := hold_in o m er (p := p) (by rw [e]; exact List.mem_singleton.mpr rfl) fun sl => dropA sl k
      refine rd_itl ?_
      refine ⟨fun i ρ μ' => (i = 0 → μ' = put μ y.sa (.dK (slK (dropA y.sl k))) ∧ ∃ a b, ρ = [some (.at S.t), some (.int y.n), some (.str k), a, b]) ∧ (i = 1 → St C_Store μ' (S.clr y.n k r) ∧ Same (FT C_Store S) μ μ'), wk.same ⟨fun _ => ⟨rfl, _, _, rfl⟩, fun z => by cases z⟩, ?_, ?_, ?_⟩
      · rintro i ρ μ' hi h'
        rfl
      · rintro i d ρ μ' hd ⟨h0, _⟩
        have hi := (List.getElem?_eq_some_iff.mp hd).1
        have i0 : i = 0 := by simp at hi; omega
        subst i0
        obtain ⟨e2, a, b, rfl⟩ := h0 rfl
        subst e2
        simp only [List.map_cons, List.map_nil, List.getElem?_cons_zero, Option.some.injEq] at hd
        subst hd
        unfold hpD
        walk_at "dl rd"
        refine ⟨S.setSl y.n fun sl => dropA sl k, x, p.2, rfl, s1, hx, x1, rfl, x2, fun μ' g1 g2 => ?_⟩
        refine wk.same ⟨fun z => (by cases z), fun _ => ⟨?_, ?_⟩⟩
        · unfold SC.clr
          rw [e]
          exact g1
        · rw [e1] at g2
          exact (sameSa m).trans g2
      · rintro ρ μ' ⟨_, h1⟩
        obtain ⟨h1, h2⟩ := h1 rfl
        exact wkR.same (q μ' h1 h2)
def sp_Store_fill (C_Store : Addr) : SpD := fun ds μ Q _ => match ds with
  | [.at t, .int n, .str k, d] => ∃ (S : SC) (y : Th) (r : Rw) (B : Nat), t = S.t ∧ d = r.D ∧ St C_Store μ S ∧ OkN S B ∧ B ≤ 90000 ∧ y ∈ S.ts ∧ y.n = n ∧ (getA y.sl k = none → y.sl.length < 8) ∧ (∀ p ∈ r.holds n, p.1 ∈ S.ts.map Th.n) ∧ ∀ μ', St C_Store μ' (S.put_ n k r) → Same (FT C_Store S) μ μ' → Q .non μ'
  | _ => False
theorem sc_Store_fill : FnScope ["self", "owner", "slot", "row", "thing", "hold"] ["self", "owner", "slot", "row"] (defScope s_Store_fill) := ⟨rfl, rfl, rfl, by decide +kernel, rfl, by decide +kernel, by decide +kernel⟩
theorem g_Store_fill (T : Txt K mg C_NoCount C_NoGroup C_NoHold C_NoName C_NoOrder C_NoThing C_Store C_StoreError) (d_Store_fill : Met0 K C_Store "fill" "Store.fill" s_Store_fill) (c_Store_clear_slot : MetD P w K mg base 3 C_Store "clear_slot" "Store.clear_slot" s_Store_clear_slot ["self", "owner", "slot"] (sp_Store_clear_slot C_Store)) (c_Store_holds_by : MetD P w K mg base 2 C_Store "holds_by" "Store.holds_by" s_Store_holds_by ["self", "owner", "row"] sp_Store_holds_by) (c_Store_add_hold : MetD P w K mg base 1 C_Store "add_hold" "Store.add_hold" s_Store_add_hold ["self", "thing", "hold"] (sp_Store_add_hold C_Store)) (c_Store_done : MetD P w K mg base 1 C_Store "done" "Store.done" s_Store_done ["self"] sp_Store_done) : MetD P w K mg base 4 C_Store "fill" "Store.fill" s_Store_fill ["self", "owner", "slot", "row"] (sp_Store_fill C_Store) := by
  refine metD d_Store_fill sc_Store_fill (fun ds μ Q E h => by unfold sp_Store_fill at h; split at h <;> first | rfl | exact h.elim) ?_
  intro f cdv A outer s H EX ds μ Q E hg hr tk hp h
  obtain ⟨hu, hu1, hu2⟩ := rooms hr
  refine ⟨_, (jss_cons (js_if (jt_w (jw_and (jt_dnotin hu1 (je_name 2) (je_dget hu1 (je_fld T.cl_Store T.na_Store_filled (je_name 0)) (je_name 1))) (jw_and1 (jt_cmp od_ge (je_cb cd_lenD T.n_len (ja_cons (je_dget hu1 (je_fld T.cl_Store T.na_Store_filled (je_name 0)) (je_name 1)) ja_nil)) (je_gi T.k_MOST_SLOTS))))) (jss_one js_never) jss_nil)
      (jss_cons (js_expr (jm (ks := []) (n := 3) (idx := []) (je_name 0) T.cl_Store c_Store_clear_slot hr (by decide) hg tkN (fun _ _ _ _ _ _ us ws h1 h2 => match us, ws, h1, h2 with | [_, _, _], [], _, _ => rfl) (jc_p (ja_cons (je_name 1) (ja_cons (je_name 2) ja_nil)))))
      (jss_cons (js_dput hu1 (je_dget hu1 (je_fld T.cl_Store T.na_Store_filled (je_name 0)) (je_name 1)) (je_name 2) (je_name 3))
      (jss_cons (js_for hp (ji_list (jm (ks := []) (n := 3) (idx := []) (je_name 0) T.cl_Store c_Store_holds_by hr (by decide) hg tkN (fun _ _ _ _ _ _ us ws h1 h2 => match us, ws, h1, h2 with | [_, _, _], [], _, _ => rfl) (jc_p (ja_cons (je_name 1) (ja_cons (je_name 3) ja_nil))))) (jg_tup 2 rfl (jgs_cons (jg_name 4 sc_Store_fill.nd) (jgs_cons (jg_name 5 sc_Store_fill.nd) jgs_nil))) (jss_one (js_expr (jm (ks := []) (n := 3) (idx := []) (je_name 0) T.cl_Store c_Store_add_hold hr (by decide) hg tkN (fun _ _ _ _ _ _ us ws h1 h2 => match us, ws, h1, h2 with | [_, _, _], [], _, _ => rfl) (jc_p (ja_cons (je_name 4) (ja_cons (je_name 5) ja_nil)))))))
      (jss_one (js_expr (jm (ks := []) (n := 1) (idx := []) (je_name 0) T.cl_Store c_Store_done hr (by decide) hg tkN (fun _ _ _ _ _ _ us ws h1 h2 => match us, ws, h1, h2 with | [_], [], _, _ => rfl) jc_0))))))), ?_⟩
  clear hr hg tk hp hu hu1 hu2
  unfold sp_Store_fill at h
  split at h
  case h_2 => exact h.elim
  rename_i t n k d
  obtain ⟨S, y, r, B, rfl, rfl, s, o, hB, m, rfl, h8, hr', q⟩ := h
  have ob := s.ob
  rw [put_eq' s.tn m] at q
  walk_at "dl go"
  walk_at "dl rd"
  refine rd_getSl s m ?_
  refine rd_optRw (s.slots m) ?_
  have h8' : (getA y.sl k).map Rw.D = none → y.sl.length < 8 := fun e => h8 (by
    cases c : getA y.sl k with
    | none => rfl
    | some r => rw [c] at e; cases e)
  have o1 := o.clrO m k
  obtain ⟨y', m', n', k', l1, l2⟩ := clrO_at s.tn m (k := k)
  have l8 := o.sl y m
  have f1 : FT C_Store (S.clrO y.n k) = FT C_Store S := foot_clrO
  refine rd_brOne ?_ fun c1 rest => ?_
  · refine rd_brF rfl ?_
    walk_at "dl rd"
    refine ⟨S, y, rfl, s, o.ok, m, rfl, fun μ1 s1 sm1 => ?_⟩
    obtain ⟨t1, t2, t3, t4⟩ := t_clrO (S := S) (o := y.n) (k := k)
    have ob1 := s1.ob
    rw [t1, t4] at ob1
    walk_at "dl rd"
    rw [← n', ← t3]
    refine rd_getSl s1 m' ?_
    walk_at "dl rd"
    refine rd_putRw (s1.slots m') (by omega) ?_
    have s2 := s1.stepSl m' fun sl => putA sl k r
    have sm2 : Same (FT C_Store S) μ1 (put μ1 y'.sa (.dK (slK (putA y'.sl k r)))) := by
      rw [← f1]
      exact sameSa m'
    have ob2 := s2.ob
    have e3 : ((S.clrO y.n k).setSl y'.n fun sl => putA sl k r).t = S.t := t1
    have e4 : ((S.clrO y.n k).setSl y'.n fun sl => putA sl k r).flds = S.flds := t4
    rw [e3, e4] at ob2
    walk_at "dl rd"
    rw [n'] at e4 e3 s2 ⊢
    refine ⟨r, rfl, ?_⟩
    rcases holds_le (o := y.n) (r := r) with e | ⟨p, e⟩
    · rw [e]
      refine rd_itl ?_
      refine ⟨fun i ρ μ' => μ' = put μ1 y'.sa (.dK (slK (putA y'.sl k r))) ∧ ∃ a b, ρ = [some (.at S.t), some (.int y.n), some (.str k), some r.D, a, b], wk.same ⟨rfl, _, _, rfl⟩, ?_, ?_, ?_⟩
      · rintro i ρ μ' hi h'
        rfl
      · rintro i d ρ μ' hd h'
        cases hd
      · rintro ρ μ' ⟨rfl, a, b, rfl⟩
        walk_at "dl rd"
        refine wkR.same (q _ ?_ (sm1.trans sm2))
        unfold SC.fill
        rw [e]
        exact s2
    · rw [e]
      obtain ⟨x, hx, x1, x2⟩ := room_in o1 (n := p.1) (by rw [ns_clrO]; exact hr' p (by rw [e]; exact List.mem_singleton.mpr rfl)) y.n fun sl => putA sl k r
      refine rd_itl ?_
      refine ⟨fun i ρ μ' => (∃ a b, ρ = [some (.at S.t), some (.int y.n), some (.str k), some r.D, a, b]) ∧ (i = 0 → μ' = put μ1 y'.sa (.dK (slK (putA y'.sl k r)))) ∧ (i = 1 → St C_Store μ' ((S.clrO y.n k).fill y.n k r) ∧ Same (FT C_Store S) μ μ'), wk.same ⟨⟨_, _, rfl⟩, fun _ => rfl, fun z => by cases z⟩, ?_, ?_, ?_⟩
      · rintro i ρ μ' hi h'
        rfl
      · rintro i d ρ μ' hd ⟨⟨a, b, rfl⟩, h0, _⟩
        have hi := (List.getElem?_eq_some_iff.mp hd).1
        have i0 : i = 0 := by simp at hi; omega
        subst i0
        have e2 := h0 rfl
        subst e2
        simp only [List.map_cons, List.map_nil, List.getElem?_cons_zero, Option.some.injEq] at hd
        subst hd
        unfold hpD
        walk_at "dl rd"
        refine ⟨(S.clrO y.n k).setSl y.n fun sl => putA sl k r, x, p.2, e3.symm, s2, hx, x1, rfl, by omega, fun μ' g1 g2 => ?_⟩
        refine wk.same ⟨⟨_, _, rfl⟩, fun z => (by cases z), fun _ => ⟨?_, ?_⟩⟩
        · unfold SC.fill
          rw [e]
          exact g1
        · have e5 : FT C_Store ((S.clrO y.n k).setSl y.n fun sl => putA sl k r) = FT C_Store S := foot_setSl.trans f1
          rw [e5] at g2
          exact (sm1.trans sm2).trans g2
      · rintro ρ μ' ⟨⟨a, b, rfl⟩, _, h1⟩
        obtain ⟨h1, h2⟩ := h1 rfl
        have ob3 := h1.ob
        rw [t_fill.1, t_fill.2, t1, t4] at ob3
        walk_at "dl rd"
        exact wkR.same (q μ' h1 h2)
  · walk_at "dl rd"
    refine rd_getSl s m ?_
    refine rd_lenD (s.slots m) ?_
    walk_at "dl rd"
    have h8' := h8' (by
      revert c1
      cases (getA y.sl k).map Rw.D with
      | none => exact fun _ => rfl
      | some r => exact fun c => by cases c)
    unfold slK
    rw [List.length_map]
    exact rd_brF (by simp; omega) (rest.2 rfl)
def sp_Store_put (C_Store : Addr) : SpD := fun ds μ Q _ => match ds with
  | [.at t, .str x, .int n, .str k, .int v] => ∃ (S : SC) (g : Hd) (y : Th) (B : Nat), t = S.t ∧ St C_Store μ S ∧ OkN S B ∧ B ≤ 90000 ∧ g ∈ S.hs ∧ g.nm = x ∧ n ∈ g.row ∧ v ∈ g.row ∧ nameB k = true ∧ y ∈ S.ts ∧ y.n = n ∧ (getA y.sl k = none → y.sl.length < 8) ∧ ∀ μ', St C_Store μ' (S.put_ n k (.plain v)) → Same (FT C_Store S) μ μ' → Q .non μ'
  | _ => False
theorem sc_Store_put : FnScope ["self", "hand", "owner", "slot", "thing"] ["self", "hand", "owner", "slot", "thing"] (defScope s_Store_put) := ⟨rfl, rfl, rfl, by decide +kernel, rfl, by decide +kernel, by decide +kernel⟩
theorem g_Store_put (T : Txt K mg C_NoCount C_NoGroup C_NoHold C_NoName C_NoOrder C_NoThing C_Store C_StoreError) (d_Store_put : Met0 K C_Store "put" "Store.put" s_Store_put) (c_Store_want_owner : MetD P w K mg base 4 C_Store "want_owner" "Store.want_owner" s_Store_want_owner ["self", "hand", "owner", "slot"] (sp_Store_want_owner C_Store)) (c_Store_want_had : MetD P w K mg base 3 C_Store "want_had" "Store.want_had" s_Store_want_had ["self", "hand", "thing"] (sp_Store_want_had C_Store)) (c_Store_fill : MetD P w K mg base 4 C_Store "fill" "Store.fill" s_Store_fill ["self", "owner", "slot", "row"] (sp_Store_fill C_Store)) : MetD P w K mg base 5 C_Store "put" "Store.put" s_Store_put ["self", "hand", "owner", "slot", "thing"] (sp_Store_put C_Store) := by
  refine metD d_Store_put sc_Store_put (fun ds μ Q E h => by unfold sp_Store_put at h; split at h <;> first | rfl | exact h.elim) ?_
  intro f cdv A outer s H EX ds μ Q E hg hr tk hp h
  obtain ⟨hu, hu1, hu2⟩ := rooms hr
  refine ⟨_, (jss_cons (js_expr (jm (ks := []) (n := 4) (idx := []) (je_name 0) T.cl_Store c_Store_want_owner hr (by decide) hg tkN (fun _ _ _ _ _ _ us ws h1 h2 => match us, ws, h1, h2 with | [_, _, _, _], [], _, _ => rfl) (jc_p (ja_cons (je_name 1) (ja_cons (je_name 2) (ja_cons (je_name 3) ja_nil))))))
      (jss_cons (js_expr (jm (ks := []) (n := 3) (idx := []) (je_name 0) T.cl_Store c_Store_want_had hr (by decide) hg tkN (fun _ _ _ _ _ _ us ws h1 h2 => match us, ws, h1, h2 with | [_, _, _], [], _, _ => rfl) (jc_p (ja_cons (je_name 1) (ja_cons (je_name 4) ja_nil)))))
      (jss_one (js_expr (jm (ks := []) (n := 4) (idx := []) (je_name 0) T.cl_Store c_Store_fill hr (by decide) hg tkN (fun _ _ _ _ _ _ us ws h1 h2 => match us, ws, h1, h2 with | [_, _, _, _], [], _, _ => rfl) (jc_p (ja_cons (je_name 2) (ja_cons (je_name 3) (ja_cons (je_tup (ja_cons (je_gs T.k_PLAIN) (ja_cons (je_name 4) ja_nil))) ja_nil))))))))), ?_⟩
  clear hr hg tk hp hu hu1 hu2
  unfold sp_Store_put at h
  split at h
  case h_2 => exact h.elim
  rename_i t x n k v
  obtain ⟨S, g, y, B, rfl, s, o, hB, mg, rfl, hn, hv, hk, m, rfl, h8, q⟩ := h
  have ob := s.ob
  have h0 := o.n0
  have hx := o.nm g mg
  have v0 : 0 ≤ v := by
    obtain ⟨x, hx, rfl⟩ := th_of (o.ok.rows g mg v hv)
    exact h0 x hx
  walk_at "dl go"
  walk_at "dl rd"
  refine ⟨S, g, rfl, s, mg, rfl, hx, hn, h0 y m, hk, ?_⟩
  walk_at "dl rd"
  refine ⟨S, g, rfl, s, mg, rfl, hv, v0, ?_⟩
  walk_at "dl rd"
  refine ⟨S, y, .plain v, B, rfl, rfl, s, o, hB, m, rfl, h8, ?_, ?_⟩
  · intro p hp
    cases List.mem_singleton.mp hp
    exact o.ok.rows g mg v hv
  · exact fun μ' h1 h2 => wkR.same (q μ' h1 h2)
def sp_Store_show (C_Store : Addr) : SpD := fun ds μ Q _ => match ds with
  | [.at t, .str x, .int n, .str k, .int v] => ∃ (S : SC) (g : Hd) (y : Th) (B : Nat), t = S.t ∧ St C_Store μ S ∧ OkN S B ∧ B ≤ 90000 ∧ g ∈ S.hs ∧ g.nm = x ∧ n ∈ g.row ∧ v ∈ g.row ∧ nameB k = true ∧ y ∈ S.ts ∧ y.n = n ∧ (getA y.sl k = none → y.sl.length < 8) ∧ ∀ μ', St C_Store μ' (S.put_ n k (.weak v)) → Same (FT C_Store S) μ μ' → Q .non μ'
  | _ => False
theorem sc_Store_show : FnScope ["self", "hand", "owner", "slot", "thing"] ["self", "hand", "owner", "slot", "thing"] (defScope s_Store_show) := ⟨rfl, rfl, rfl, by decide +kernel, rfl, by decide +kernel, by decide +kernel⟩
theorem g_Store_show (T : Txt K mg C_NoCount C_NoGroup C_NoHold C_NoName C_NoOrder C_NoThing C_Store C_StoreError) (d_Store_show : Met0 K C_Store "show" "Store.show" s_Store_show) (c_Store_want_owner : MetD P w K mg base 4 C_Store "want_owner" "Store.want_owner" s_Store_want_owner ["self", "hand", "owner", "slot"] (sp_Store_want_owner C_Store)) (c_Store_want_had : MetD P w K mg base 3 C_Store "want_had" "Store.want_had" s_Store_want_had ["self", "hand", "thing"] (sp_Store_want_had C_Store)) (c_Store_fill : MetD P w K mg base 4 C_Store "fill" "Store.fill" s_Store_fill ["self", "owner", "slot", "row"] (sp_Store_fill C_Store)) : MetD P w K mg base 5 C_Store "show" "Store.show" s_Store_show ["self", "hand", "owner", "slot", "thing"] (sp_Store_show C_Store) := by
  refine metD d_Store_show sc_Store_show (fun ds μ Q E h => by unfold sp_Store_show at h; split at h <;> first | rfl | exact h.elim) ?_
  intro f cdv A outer s H EX ds μ Q E hg hr tk hp h
  obtain ⟨hu, hu1, hu2⟩ := rooms hr
  refine ⟨_, (jss_cons (js_expr (jm (ks := []) (n := 4) (idx := []) (je_name 0) T.cl_Store c_Store_want_owner hr (by decide) hg tkN (fun _ _ _ _ _ _ us ws h1 h2 => match us, ws, h1, h2 with | [_, _, _, _], [], _, _ => rfl) (jc_p (ja_cons (je_name 1) (ja_cons (je_name 2) (ja_cons (je_name 3) ja_nil))))))
      (jss_cons (js_expr (jm (ks := []) (n := 3) (idx := []) (je_name 0) T.cl_Store c_Store_want_had hr (by decide) hg tkN (fun _ _ _ _ _ _ us ws h1 h2 => match us, ws, h1, h2 with | [_, _, _], [], _, _ => rfl) (jc_p (ja_cons (je_name 1) (ja_cons (je_name 4) ja_nil)))))
      (jss_one (js_expr (jm (ks := []) (n := 4) (idx := []) (je_name 0) T.cl_Store c_Store_fill hr (by decide) hg tkN (fun _ _ _ _ _ _ us ws h1 h2 => match us, ws, h1, h2 with | [_, _, _, _], [], _, _ => rfl) (jc_p (ja_cons (je_name 2) (ja_cons (je_name 3) (ja_cons (je_tup (ja_cons (je_gs T.k_WEAK) (ja_cons (je_name 4) ja_nil))) ja_nil))))))))), ?_⟩
  clear hr hg tk hp hu hu1 hu2
  unfold sp_Store_show at h
  split at h
  case h_2 => exact h.elim
  rename_i t x n k v
  obtain ⟨S, g, y, B, rfl, s, o, hB, mg, rfl, hn, hv, hk, m, rfl, h8, q⟩ := h
  have ob := s.ob
  have h0 := o.n0
  have hx := o.nm g mg
  have v0 : 0 ≤ v := by
    obtain ⟨x, hx, rfl⟩ := th_of (o.ok.rows g mg v hv)
    exact h0 x hx
  walk_at "dl go"
  walk_at "dl rd"
  refine ⟨S, g, rfl, s, mg, rfl, hx, hn, h0 y m, hk, ?_⟩
  walk_at "dl rd"
  refine ⟨S, g, rfl, s, mg, rfl, hv, v0, ?_⟩
  walk_at "dl rd"
  refine ⟨S, y, .weak v, B, rfl, rfl, s, o, hB, m, rfl, h8, ?_, ?_⟩
  · intro p hp
    cases hp
  · exact fun μ' h1 h2 => wkR.same (q μ' h1 h2)
def sp_Store_tie (C_Store : Addr) : SpD := fun ds μ Q _ => match ds with
  | [.at t, .str x, .int n, .str k, .int j, .int v] => ∃ (S : SC) (g : Hd) (y : Th) (B : Nat), t = S.t ∧ St C_Store μ S ∧ OkN S B ∧ B ≤ 90000 ∧ g ∈ S.hs ∧ g.nm = x ∧ n ∈ g.row ∧ j ∈ g.row ∧ v ∈ g.row ∧ nameB k = true ∧ y ∈ S.ts ∧ y.n = n ∧ (getA y.sl k = none → y.sl.length < 8) ∧ ∀ μ', St C_Store μ' (S.put_ n k (.keyed j v)) → Same (FT C_Store S) μ μ' → Q .non μ'
  | _ => False
theorem sc_Store_tie : FnScope ["self", "hand", "owner", "slot", "key", "value"] ["self", "hand", "owner", "slot", "key", "value"] (defScope s_Store_tie) := ⟨rfl, rfl, rfl, by decide +kernel, rfl, by decide +kernel, by decide +kernel⟩
theorem g_Store_tie (T : Txt K mg C_NoCount C_NoGroup C_NoHold C_NoName C_NoOrder C_NoThing C_Store C_StoreError) (d_Store_tie : Met0 K C_Store "tie" "Store.tie" s_Store_tie) (c_Store_want_owner : MetD P w K mg base 4 C_Store "want_owner" "Store.want_owner" s_Store_want_owner ["self", "hand", "owner", "slot"] (sp_Store_want_owner C_Store)) (c_Store_want_had : MetD P w K mg base 3 C_Store "want_had" "Store.want_had" s_Store_want_had ["self", "hand", "thing"] (sp_Store_want_had C_Store)) (c_Store_fill : MetD P w K mg base 4 C_Store "fill" "Store.fill" s_Store_fill ["self", "owner", "slot", "row"] (sp_Store_fill C_Store)) : MetD P w K mg base 5 C_Store "tie" "Store.tie" s_Store_tie ["self", "hand", "owner", "slot", "key", "value"] (sp_Store_tie C_Store) := by
  refine metD d_Store_tie sc_Store_tie (fun ds μ Q E h => by unfold sp_Store_tie at h; split at h <;> first | rfl | exact h.elim) ?_
  intro f cdv A outer s H EX ds μ Q E hg hr tk hp h
  obtain ⟨hu, hu1, hu2⟩ := rooms hr
  refine ⟨_, (jss_cons (js_expr (jm (ks := []) (n := 4) (idx := []) (je_name 0) T.cl_Store c_Store_want_owner hr (by decide) hg tkN (fun _ _ _ _ _ _ us ws h1 h2 => match us, ws, h1, h2 with | [_, _, _, _], [], _, _ => rfl) (jc_p (ja_cons (je_name 1) (ja_cons (je_name 2) (ja_cons (je_name 3) ja_nil))))))
      (jss_cons (js_expr (jm (ks := []) (n := 3) (idx := []) (je_name 0) T.cl_Store c_Store_want_had hr (by decide) hg tkN (fun _ _ _ _ _ _ us ws h1 h2 => match us, ws, h1, h2 with | [_, _, _], [], _, _ => rfl) (jc_p (ja_cons (je_name 1) (ja_cons (je_name 4) ja_nil)))))
      (jss_cons (js_expr (jm (ks := []) (n := 3) (idx := []) (je_name 0) T.cl_Store c_Store_want_had hr (by decide) hg tkN (fun _ _ _ _ _ _ us ws h1 h2 => match us, ws, h1, h2 with | [_, _, _], [], _, _ => rfl) (jc_p (ja_cons (je_name 1) (ja_cons (je_name 5) ja_nil)))))
      (jss_one (js_expr (jm (ks := []) (n := 4) (idx := []) (je_name 0) T.cl_Store c_Store_fill hr (by decide) hg tkN (fun _ _ _ _ _ _ us ws h1 h2 => match us, ws, h1, h2 with | [_, _, _, _], [], _, _ => rfl) (jc_p (ja_cons (je_name 2) (ja_cons (je_name 3) (ja_cons (je_tup (ja_cons (je_gs T.k_KEYED) (ja_cons (je_name 4) (ja_cons (je_name 5) ja_nil)))) ja_nil)))))))))), ?_⟩
  clear hr hg tk hp hu hu1 hu2
  unfold sp_Store_tie at h
  split at h
  case h_2 => exact h.elim
  rename_i t x n k j v
  obtain ⟨S, g, y, B, rfl, s, o, hB, mg, rfl, hn, hj, hv, hk, m, rfl, h8, q⟩ := h
  have ob := s.ob
  have h0 := o.n0
  have hx := o.nm g mg
  have hi : ∀ i ∈ g.row, 0 ≤ i := fun i hi => by
    obtain ⟨x, hx, rfl⟩ := th_of (o.ok.rows g mg i hi)
    exact h0 x hx
  walk_at "dl go"
  walk_at "dl rd"
  refine ⟨S, g, rfl, s, mg, rfl, hx, hn, h0 y m, hk, ?_⟩
  walk_at "dl rd"
  refine ⟨S, g, rfl, s, mg, rfl, hj, hi j hj, ?_⟩
  walk_at "dl rd"
  refine ⟨S, g, rfl, s, mg, rfl, hv, hi v hv, ?_⟩
  walk_at "dl rd"
  refine ⟨S, y, .keyed j v, B, rfl, rfl, s, o, hB, m, rfl, h8, ?_, ?_⟩
  · intro p hp
    cases List.mem_singleton.mp hp
    exact o.ok.rows g mg v hv
  · exact fun μ' h1 h2 => wkR.same (q μ' h1 h2)
def sp_Store_empty (C_Store : Addr) : SpD := fun ds μ Q _ => match ds with
  | [.at t, .str x, .int n, .str k] => ∃ (S : SC) (g : Hd) (y : Th) (B : Nat), t = S.t ∧ St C_Store μ S ∧ OkN S B ∧ B ≤ 90000 ∧ g ∈ S.hs ∧ g.nm = x ∧ n ∈ g.row ∧ nameB k = true ∧ y ∈ S.ts ∧ y.n = n ∧ getA y.sl k ≠ none ∧ ∀ μ', St C_Store μ' (S.clrO n k) → Same (FT C_Store S) μ μ' → Q .non μ'
  | _ => False
theorem sc_Store_empty : FnScope ["self", "hand", "owner", "slot"] ["self", "hand", "owner", "slot"] (defScope s_Store_empty) := ⟨rfl, rfl, rfl, by decide +kernel, rfl, by decide +kernel, by decide +kernel⟩
theorem g_Store_empty (T : Txt K mg C_NoCount C_NoGroup C_NoHold C_NoName C_NoOrder C_NoThing C_Store C_StoreError) (d_Store_empty : Met0 K C_Store "empty" "Store.empty" s_Store_empty) (c_Store_want_owner : MetD P w K mg base 4 C_Store "want_owner" "Store.want_owner" s_Store_want_owner ["self", "hand", "owner", "slot"] (sp_Store_want_owner C_Store)) (c_Store_clear_slot : MetD P w K mg base 3 C_Store "clear_slot" "Store.clear_slot" s_Store_clear_slot ["self", "owner", "slot"] (sp_Store_clear_slot C_Store)) (c_Store_done : MetD P w K mg base 1 C_Store "done" "Store.done" s_Store_done ["self"] sp_Store_done) : MetD P w K mg base 5 C_Store "empty" "Store.empty" s_Store_empty ["self", "hand", "owner", "slot"] (sp_Store_empty C_Store) := by
  refine metD d_Store_empty sc_Store_empty (fun ds μ Q E h => by unfold sp_Store_empty at h; split at h <;> first | rfl | exact h.elim) ?_
  intro f cdv A outer s H EX ds μ Q E hg hr tk hp h
  obtain ⟨hu, hu1, hu2⟩ := rooms hr
  refine ⟨_, (jss_cons (js_expr (jm (ks := []) (n := 4) (idx := []) (je_name 0) T.cl_Store c_Store_want_owner hr (by decide) hg tkN (fun _ _ _ _ _ _ us ws h1 h2 => match us, ws, h1, h2 with | [_, _, _, _], [], _, _ => rfl) (jc_p (ja_cons (je_name 1) (ja_cons (je_name 2) (ja_cons (je_name 3) ja_nil))))))
      (jss_cons (js_if (jt_dnotin hu1 (je_name 3) (je_dget hu1 (je_fld T.cl_Store T.na_Store_filled (je_name 0)) (je_name 2))) (jss_one js_never) jss_nil)
      (jss_cons (js_expr (jm (ks := []) (n := 3) (idx := []) (je_name 0) T.cl_Store c_Store_clear_slot hr (by decide) hg tkN (fun _ _ _ _ _ _ us ws h1 h2 => match us, ws, h1, h2 with | [_, _, _], [], _, _ => rfl) (jc_p (ja_cons (je_name 2) (ja_cons (je_name 3) ja_nil)))))
      (jss_one (js_expr (jm (ks := []) (n := 1) (idx := []) (je_name 0) T.cl_Store c_Store_done hr (by decide) hg tkN (fun _ _ _ _ _ _ us ws h1 h2 => match us, ws, h1, h2 with | [_], [], _, _ => rfl) jc_0)))))), ?_⟩
  clear hr hg tk hp hu hu1 hu2
  unfold sp_Store_empty at h
  split at h
  case h_2 => exact h.elim
  rename_i t x n k
  obtain ⟨S, g, y, B, rfl, s, o, hB, mg, rfl, hn, hk, m, rfl, h8, q⟩ := h
  have ob := s.ob
  have h0 := o.n0
  have hx := o.nm g mg
  obtain ⟨t1, t2, t3, t4⟩ := t_clrO (S := S) (o := y.n) (k := k)
  walk_at "dl go"
  walk_at "dl rd"
  refine ⟨S, g, rfl, s, mg, rfl, hx, hn, h0 y m, hk, ?_⟩
  walk_at "dl rd"
  refine rd_getSl s m ?_
  refine rd_optRw (s.slots m) ?_
  refine rd_brF (by
    cases e : getA y.sl k with
    | none => exact (h8 e).elim
    | some r => rfl) ?_
  walk_at "dl rd"
  refine ⟨S, y, rfl, s, o.ok, m, rfl, fun μ1 s1 sm1 => ?_⟩
  have ob1 := s1.ob
  rw [t1, t4] at ob1
  walk_at "dl rd"
  exact wkR.same (q μ1 s1 sm1)
def sp_Store_take (C_Store : Addr) : SpD := fun ds μ Q _ => match ds with
  | [.at t, .str x, .int n, .str k] => ∃ (S : SC) (g : Hd) (y : Th) (r : Rw) (B : Nat), t = S.t ∧ St C_Store μ S ∧ OkN S B ∧ B ≤ 90000 ∧ g ∈ S.hs ∧ g.nm = x ∧ n ∈ g.row ∧ nameB k = true ∧ y ∈ S.ts ∧ y.n = n ∧ getA y.sl k = some r ∧ g.row.length < 30 ∧ r.val ∈ S.ts.map Th.n ∧ (∀ j, r.key = some j → j ∈ g.row) ∧ ∀ μ', St C_Store μ' (S.have_ x r.val) → Same (FT C_Store S) μ μ' → Q (.int r.val) μ'
  | _ => False
theorem sc_Store_take : FnScope ["self", "hand", "owner", "slot", "row"] ["self", "hand", "owner", "slot"] (defScope s_Store_take) := ⟨rfl, rfl, rfl, by decide +kernel, rfl, by decide +kernel, by decide +kernel⟩
theorem g_Store_take (T : Txt K mg C_NoCount C_NoGroup C_NoHold C_NoName C_NoOrder C_NoThing C_Store C_StoreError) (d_Store_take : Met0 K C_Store "take" "Store.take" s_Store_take) (c_Store_want_owner : MetD P w K mg base 4 C_Store "want_owner" "Store.want_owner" s_Store_want_owner ["self", "hand", "owner", "slot"] (sp_Store_want_owner C_Store)) (c_Store_want_had : MetD P w K mg base 3 C_Store "want_had" "Store.want_had" s_Store_want_had ["self", "hand", "thing"] (sp_Store_want_had C_Store)) (c_Store_want_room : MetD P w K mg base 1 C_Store "want_room" "Store.want_room" s_Store_want_room ["self", "hand"] (sp_Store_want_room C_Store)) (c_Store_have : MetD P w K mg base 2 C_Store "have" "Store.have" s_Store_have ["self", "hand", "thing"] (sp_Store_have C_Store)) (c_Store_done : MetD P w K mg base 1 C_Store "done" "Store.done" s_Store_done ["self"] sp_Store_done) : MetD P w K mg base 5 C_Store "take" "Store.take" s_Store_take ["self", "hand", "owner", "slot"] (sp_Store_take C_Store) := by
  refine metD d_Store_take sc_Store_take (fun ds μ Q E h => by unfold sp_Store_take at h; split at h <;> first | rfl | exact h.elim) ?_
  intro f cdv A outer s H EX ds μ Q E hg hr tk hp h
  obtain ⟨hu, hu1, hu2⟩ := rooms hr
  refine ⟨_, (jss_cons (js_expr (jm (ks := []) (n := 4) (idx := []) (je_name 0) T.cl_Store c_Store_want_owner hr (by decide) hg tkN (fun _ _ _ _ _ _ us ws h1 h2 => match us, ws, h1, h2 with | [_, _, _, _], [], _, _ => rfl) (jc_p (ja_cons (je_name 1) (ja_cons (je_name 2) (ja_cons (je_name 3) ja_nil))))))
      (jss_cons (js_if (jt_dnotin hu1 (je_name 3) (je_dget hu1 (je_fld T.cl_Store T.na_Store_filled (je_name 0)) (je_name 2))) (jss_one js_never) jss_nil)
      (jss_cons (js_set 4 (je_dget hu1 (je_dget hu1 (je_fld T.cl_Store T.na_Store_filled (je_name 0)) (je_name 2)) (je_name 3)) sc_Store_take.nd)
      (jss_cons (js_if (jt_cmp (od_eq hu) (je_ix id_ix (je_name 4) je_int) (je_gs T.k_KEYED)) (jss_one (js_expr (jm (ks := []) (n := 3) (idx := []) (je_name 0) T.cl_Store c_Store_want_had hr (by decide) hg tkN (fun _ _ _ _ _ _ us ws h1 h2 => match us, ws, h1, h2 with | [_, _, _], [], _, _ => rfl) (jc_p (ja_cons (je_name 1) (ja_cons (je_ix id_ix (je_name 4) je_int) ja_nil)))))) jss_nil)
      (jss_cons (js_expr (jm (ks := []) (n := 2) (idx := []) (je_name 0) T.cl_Store c_Store_want_room hr (by decide) hg tkN (fun _ _ _ _ _ _ us ws h1 h2 => match us, ws, h1, h2 with | [_, _], [], _, _ => rfl) (jc_p (ja_cons (je_name 1) ja_nil))))
      (jss_cons (js_expr (jm (ks := []) (n := 3) (idx := []) (je_name 0) T.cl_Store c_Store_have hr (by decide) hg tkN (fun _ _ _ _ _ _ us ws h1 h2 => match us, ws, h1, h2 with | [_, _, _], [], _, _ => rfl) (jc_p (ja_cons (je_name 1) (ja_cons (je_ix id_ix (je_name 4) (je_un ud_neg je_int)) ja_nil)))))
      (jss_cons (js_expr (jm (ks := []) (n := 1) (idx := []) (je_name 0) T.cl_Store c_Store_done hr (by decide) hg tkN (fun _ _ _ _ _ _ us ws h1 h2 => match us, ws, h1, h2 with | [_], [], _, _ => rfl) jc_0))
      (jss_one (js_ret (je_ix id_ix (je_name 4) (je_un ud_neg je_int))))))))))), ?_⟩
  clear hr hg tk hp hu hu1 hu2
  unfold sp_Store_take at h
  split at h
  case h_2 => exact h.elim
  rename_i t x n k
  obtain ⟨S, g, y, r, B, rfl, s, o, hB, mg, rfl, hn, hk, m, rfl, er, h30, hv, hj, q⟩ := h
  have ob := s.ob
  have h0 := o.n0
  have hx := o.nm g mg
  obtain ⟨z, mz, ez⟩ := th_of hv
  have z2 := o.kl z mz
  walk_at "dl go"
  walk_at "dl rd"
  refine ⟨S, g, rfl, s, mg, rfl, hx, hn, h0 y m, hk, ?_⟩
  walk_at "dl rd"
  refine rd_getSl s m ?_
  refine rd_optRw (s.slots m) ?_
  rw [er]
  refine rd_brF rfl ?_
  walk_at "dl rd"
  refine rd_getSl s m ?_
  refine rd_getRw (s.slots m) er ?_
  cases r with
  | plain v =>
    unfold Rw.D
    walk_at "dl rd"
    refine rd_brF (by decide) ?_
    walk_at "dl rd"
    refine ⟨S, g, rfl, s, mg, rfl, h30, ?_⟩
    walk_at "dl rd"
    refine ⟨S, g, z, rfl, s, mg, rfl, mz, ez, by omega, by omega, fun μ' h1 h2 => ?_⟩
    have ob1 := h1.ob
    have e3 : (S.have_ g.nm v).t = S.t := rfl
    have e4 : (S.have_ g.nm v).flds = S.flds := rfl
    rw [e3, e4] at ob1
    walk_at "dl rd"
    show sp_Store_done [.at S.t] _ _ _
    unfold sp_Store_done
    walk_at "dl rd"
    exact wkR.same (q μ' h1 h2)
  | weak v =>
    unfold Rw.D
    walk_at "dl rd"
    refine rd_brF (by decide) ?_
    walk_at "dl rd"
    refine ⟨S, g, rfl, s, mg, rfl, h30, ?_⟩
    walk_at "dl rd"
    refine ⟨S, g, z, rfl, s, mg, rfl, mz, ez, by omega, by omega, fun μ' h1 h2 => ?_⟩
    have ob1 := h1.ob
    have e3 : (S.have_ g.nm v).t = S.t := rfl
    have e4 : (S.have_ g.nm v).flds = S.flds := rfl
    rw [e3, e4] at ob1
    walk_at "dl rd"
    show sp_Store_done [.at S.t] _ _ _
    unfold sp_Store_done
    walk_at "dl rd"
    exact wkR.same (q μ' h1 h2)
  | keyed j v =>
    have hj := hj j rfl
    have j0 : 0 ≤ j := by
      obtain ⟨x, hx, rfl⟩ := th_of (o.ok.rows g mg j hj)
      exact h0 x hx
    unfold Rw.D
    walk_at "dl rd"
    refine rd_brT (by decide) ?_
    walk_at "dl rd"
    refine ⟨S, g, rfl, s, mg, rfl, hj, j0, ?_⟩
    walk_at "dl rd"
    refine ⟨S, g, rfl, s, mg, rfl, h30, ?_⟩
    walk_at "dl rd"
    refine ⟨S, g, z, rfl, s, mg, rfl, mz, ez, by omega, by omega, fun μ' h1 h2 => ?_⟩
    have ob1 := h1.ob
    have e3 : (S.have_ g.nm v).t = S.t := rfl
    have e4 : (S.have_ g.nm v).flds = S.flds := rfl
    rw [e3, e4] at ob1
    walk_at "dl rd"
    show sp_Store_done [.at S.t] _ _ _
    unfold sp_Store_done
    walk_at "dl rd"
    exact wkR.same (q μ' h1 h2)
def sp_Store_lose (C_Store : Addr) : SpD := fun ds μ Q _ => match ds with
  | [.at t, .str x, .int n] => ∃ (S : SC) (g : Hd) (y : Th), t = S.t ∧ St C_Store μ S ∧ g ∈ S.hs ∧ g.nm = x ∧ n ∈ g.row ∧ y ∈ S.ts ∧ y.n = n ∧ g.row.length ≤ 100 ∧ ([] : List Int) ∈ y.ke ∧ ∀ μ', St C_Store μ' (S.lose x n) → Same (FT C_Store S) μ μ' → Q .non μ'
  | _ => False
theorem sc_Store_lose : FnScope ["self", "hand", "thing", "row"] ["self", "hand", "thing"] (defScope s_Store_lose) := ⟨rfl, rfl, rfl, by decide +kernel, rfl, by decide +kernel, by decide +kernel⟩
theorem g_Store_lose (T : Txt K mg C_NoCount C_NoGroup C_NoHold C_NoName C_NoOrder C_NoThing C_Store C_StoreError) (d_Store_lose : Met0 K C_Store "lose" "Store.lose" s_Store_lose) (c_Store_end_hold : MetD P w K mg base 1 C_Store "end_hold" "Store.end_hold" s_Store_end_hold ["self", "thing", "hold"] (sp_Store_end_hold C_Store)) : MetD P w K mg base 2 C_Store "lose" "Store.lose" s_Store_lose ["self", "hand", "thing"] (sp_Store_lose C_Store) := by
  refine metD d_Store_lose sc_Store_lose (fun ds μ Q E h => by unfold sp_Store_lose at h; split at h <;> first | rfl | exact h.elim) ?_
  intro f cdv A outer s H EX ds μ Q E hg hr tk hp h
  obtain ⟨hu, hu1, hu2⟩ := rooms hr
  refine ⟨_, (jss_cons (js_set 3 (je_dget hu1 (je_fld T.cl_Store T.na_Store_rows (je_name 0)) (je_name 1)) sc_Store_lose.nd)
      (jss_cons (js_delL (je_name 3) (je_op od_sub (je_op od_sub (je_cb cd_len T.n_len (ja_cons (je_name 3) ja_nil)) je_int) (je_ml PySem.F.slot_list_index PySem.F.type_list_index (md_index hu) (je_rev false (je_name 3)) (ja_cons (je_name 2) ja_nil))))
      (jss_one (js_expr (jm (ks := []) (n := 3) (idx := []) (je_name 0) T.cl_Store c_Store_end_hold hr (by decide) hg tkN (fun _ _ _ _ _ _ us ws h1 h2 => match us, ws, h1, h2 with | [_, _, _], [], _, _ => rfl) (jc_p (ja_cons (je_name 2) (ja_cons (je_tup ja_nil) ja_nil)))))))), ?_⟩
  clear hr hg tk hp hu hu1 hu2
  unfold sp_Store_lose at h
  split at h
  case h_2 => exact h.elim
  rename_i t x n
  obtain ⟨S, g, y, rfl, s, m, rfl, hn, my, rfl, l1, l2, q⟩ := h
  have ob := s.ob
  have hr := s.row m
  have s1 := s.stepRow m (fun r => woLast r y.n)
  have ob1 := s1.ob
  have hj := List.idxOf_lt_length_of_mem (List.mem_reverse.mpr hn)
  rw [List.length_reverse] at hj
  have h63 : (100 : Int) < 2 ^ 63 := by decide
  walk_at "dl go"
  walk_at "dl rd"
  refine rd_getRow s m ?_
  walk_at "dl rd"
  rw [← List.map_reverse]
  refine ⟨⟨_, rfl⟩, ?_⟩
  walk_at "dl rd"
  refine rd_indexI (xs := g.row.reverse) rfl (List.mem_reverse.mpr hn) ?_
  walk_at "dl rd"
  rw [List.length_map]
  refine ⟨g.ra, g.row.map .int, _, g.row.length - 1 - g.row.reverse.idxOf y.n, rfl, rfl, hr, by omega, by omega, ?_, ?_⟩
  · unfold ixN
    rw [List.length_map, if_pos (by omega), if_pos (by omega)]
    congr 1
    omega
  · rw [map_erase]
    walk_at "dl rd"
    refine ⟨S.setRow g.nm (fun r => woLast r y.n), y, [], rfl, s1, my, rfl, rfl, l2, fun μ' h1 h2 => ?_⟩
    refine wkR.same (q μ' h1 ?_)
    have e : FT C_Store (S.setRow g.nm (fun r => woLast r y.n)) = FT C_Store S := foot_setRow
    rw [e] at h2
    exact (sameRa m).trans h2
def sp_Store_give (C_Store : Addr) : SpD := fun ds μ Q _ => match ds with
  | [.at t, .str x, .int n, .str to] => ∃ (S : SC) (g g' : Hd) (B : Nat), t = S.t ∧ St C_Store μ S ∧ OkN S B ∧ B ≤ 90000 ∧ g ∈ S.hs ∧ g.nm = x ∧ n ∈ g.row ∧ g' ∈ S.hs ∧ g'.nm = to ∧ (to ≠ x → g'.row.length < 30) ∧ ∀ μ', St C_Store μ' ((S.lose x n).have_ to n) → Same (FT C_Store S) μ μ' → Q .non μ'
  | _ => False
theorem sc_Store_give : FnScope ["self", "hand", "thing", "to"] ["self", "hand", "thing", "to"] (defScope s_Store_give) := ⟨rfl, rfl, rfl, by decide +kernel, rfl, by decide +kernel, by decide +kernel⟩
theorem g_Store_give (T : Txt K mg C_NoCount C_NoGroup C_NoHold C_NoName C_NoOrder C_NoThing C_Store C_StoreError) (d_Store_give : Met0 K C_Store "give" "Store.give" s_Store_give) (c_Store_want_hand : MetD P w K mg base 2 C_Store "want_hand" "Store.want_hand" s_Store_want_hand ["self", "hand"] (sp_Store_want_hand C_Store)) (c_Store_want_had : MetD P w K mg base 3 C_Store "want_had" "Store.want_had" s_Store_want_had ["self", "hand", "thing"] (sp_Store_want_had C_Store)) (c_Store_want_room : MetD P w K mg base 1 C_Store "want_room" "Store.want_room" s_Store_want_room ["self", "hand"] (sp_Store_want_room C_Store)) (c_Store_lose : MetD P w K mg base 2 C_Store "lose" "Store.lose" s_Store_lose ["self", "hand", "thing"] (sp_Store_lose C_Store)) (c_Store_have : MetD P w K mg base 2 C_Store "have" "Store.have" s_Store_have ["self", "hand", "thing"] (sp_Store_have C_Store)) (c_Store_done : MetD P w K mg base 1 C_Store "done" "Store.done" s_Store_done ["self"] sp_Store_done) : MetD P w K mg base 4 C_Store "give" "Store.give" s_Store_give ["self", "hand", "thing", "to"] (sp_Store_give C_Store) := by
  refine metD d_Store_give sc_Store_give (fun ds μ Q E h => by unfold sp_Store_give at h; split at h <;> first | rfl | exact h.elim) ?_
  intro f cdv A outer s H EX ds μ Q E hg hr tk hp h
  obtain ⟨hu, hu1, hu2⟩ := rooms hr
  refine ⟨_, (jss_cons (js_expr (jm (ks := []) (n := 2) (idx := []) (je_name 0) T.cl_Store c_Store_want_hand hr (by decide) hg tkN (fun _ _ _ _ _ _ us ws h1 h2 => match us, ws, h1, h2 with | [_, _], [], _, _ => rfl) (jc_p (ja_cons (je_name 1) ja_nil))))
      (jss_cons (js_expr (jm (ks := []) (n := 3) (idx := []) (je_name 0) T.cl_Store c_Store_want_had hr (by decide) hg tkN (fun _ _ _ _ _ _ us ws h1 h2 => match us, ws, h1, h2 with | [_, _, _], [], _, _ => rfl) (jc_p (ja_cons (je_name 1) (ja_cons (je_name 2) ja_nil)))))
      (jss_cons (js_expr (jm (ks := []) (n := 2) (idx := []) (je_name 0) T.cl_Store c_Store_want_hand hr (by decide) hg tkN (fun _ _ _ _ _ _ us ws h1 h2 => match us, ws, h1, h2 with | [_, _], [], _, _ => rfl) (jc_p (ja_cons (je_name 3) ja_nil))))
      (jss_cons (js_if (jt_cmp (od_ne hu) (je_name 3) (je_name 1)) (jss_one (js_expr (jm (ks := []) (n := 2) (idx := []) (je_name 0) T.cl_Store c_Store_want_room hr (by decide) hg tkN (fun _ _ _ _ _ _ us ws h1 h2 => match us, ws, h1, h2 with | [_, _], [], _, _ => rfl) (jc_p (ja_cons (je_name 3) ja_nil))))) jss_nil)
      (jss_cons (js_expr (jm (ks := []) (n := 3) (idx := []) (je_name 0) T.cl_Store c_Store_lose hr (by decide) hg tkN (fun _ _ _ _ _ _ us ws h1 h2 => match us, ws, h1, h2 with | [_, _, _], [], _, _ => rfl) (jc_p (ja_cons (je_name 1) (ja_cons (je_name 2) ja_nil)))))
      (jss_cons (js_expr (jm (ks := []) (n := 3) (idx := []) (je_name 0) T.cl_Store c_Store_have hr (by decide) hg tkN (fun _ _ _ _ _ _ us ws h1 h2 => match us, ws, h1, h2 with | [_, _, _], [], _, _ => rfl) (jc_p (ja_cons (je_name 3) (ja_cons (je_name 2) ja_nil)))))
      (jss_one (js_expr (jm (ks := []) (n := 1) (idx := []) (je_name 0) T.cl_Store c_Store_done hr (by decide) hg tkN (fun _ _ _ _ _ _ us ws h1 h2 => match us, ws, h1, h2 with | [_], [], _, _ => rfl) jc_0))))))))), ?_⟩
  clear hr hg tk hp hu hu1 hu2
  unfold sp_Store_give at h
  split at h
  case h_2 => exact h.elim
  rename_i t x n to
  obtain ⟨S, g, g', B, rfl, s, o, hB, mg, rfl, hn, mg', rfl, h30, q⟩ := h
  have ob := s.ob
  have h0 := o.n0
  have hx := o.nm g mg
  have hx' := o.nm g' mg'
  obtain ⟨z, mz, ez⟩ := th_of (o.ok.rows g mg n hn)
  have n0 : 0 ≤ n := by rw [← ez]; exact h0 z mz
  have l := o.rl g mg
  have o1 := o.lose mg hn
  have e3 : (S.lose g.nm n).t = S.t := rfl
  have e4 : (S.lose g.nm n).flds = S.flds := rfl
  have f1 : FT C_Store (S.lose g.nm n) = FT C_Store S := foot_lose
  obtain ⟨u, mu_, eu⟩ : ∃ u ∈ (S.lose g.nm n).hs, u.nm = g'.nm := by
    have : g'.nm ∈ (S.lose g.nm n).hs.map Hd.nm := by
      have e : (S.lose g.nm n).hs.map Hd.nm = S.hs.map Hd.nm := nms_setRow (S := S) (f := fun r => woLast r n)
      rw [e]
      exact List.mem_map.mpr ⟨g', mg', rfl⟩
    exact List.mem_map.mp this
  obtain ⟨w, mw, ew⟩ : ∃ w ∈ (S.lose g.nm n).ts, w.n = n := by
    have : n ∈ (S.lose g.nm n).ts.map Th.n := by
      have e : (S.lose g.nm n).ts.map Th.n = S.ts.map Th.n := ns_delKe (S := S.setRow g.nm _)
      rw [e]
      exact o.ok.rows g mg n hn
    exact List.mem_map.mp this
  have lu := o1.rl u mu_
  have lw := o1.kl w mw
  walk_at "dl go"
  walk_at "dl rd"
  refine ⟨S, rfl, s, hx, List.mem_map.mpr ⟨g, mg, rfl⟩, ?_⟩
  walk_at "dl rd"
  refine ⟨S, g, rfl, s, mg, rfl, hn, n0, ?_⟩
  walk_at "dl rd"
  refine ⟨S, rfl, s, hx', List.mem_map.mpr ⟨g', mg', rfl⟩, ?_⟩
  walk_at "dl rd"
  refine rd_brOne ?_ fun c rest => ?_
  · walk_at "dl rd"
    refine ⟨S, g, z, rfl, s, mg, rfl, hn, mz, ez, by omega, o.ok.has_nil mg hn z mz ez, fun μ' h1 h2 => ?_⟩
    have ob1 := h1.ob
    rw [e3, e4] at ob1
    walk_at "dl rd"
    refine ⟨S.lose g.nm n, u, w, rfl, h1, mu_, eu, mw, ew, by omega, by omega, fun μ2 h3 h4 => ?_⟩
    have ob2 := h3.ob
    have e5 : ((S.lose g.nm n).have_ g'.nm n).t = S.t := rfl
    have e6 : ((S.lose g.nm n).have_ g'.nm n).flds = S.flds := rfl
    rw [e5, e6] at ob2
    rw [f1] at h4
    walk_at "dl rd"
    exact wkR.same (q μ2 h3 (h2.trans h4))
  · walk_at "dl rd"
    exact ⟨S, g', rfl, s, mg', rfl, h30 (by simpa using c), rest⟩
def sp_Store_drop (C_Store : Addr) : SpD := fun ds μ Q _ => match ds with
  | [.at t, .str x, .int n] => ∃ (S : SC) (g : Hd) (B : Nat), t = S.t ∧ St C_Store μ S ∧ OkN S B ∧ g ∈ S.hs ∧ g.nm = x ∧ n ∈ g.row ∧ ∀ μ', St C_Store μ' (S.lose x n) → Same (FT C_Store S) μ μ' → Q .non μ'
  | _ => False
theorem sc_Store_drop : FnScope ["self", "hand", "thing"] ["self", "hand", "thing"] (defScope s_Store_drop) := ⟨rfl, rfl, rfl, by decide +kernel, rfl, by decide +kernel, by decide +kernel⟩
theorem g_Store_drop (T : Txt K mg C_NoCount C_NoGroup C_NoHold C_NoName C_NoOrder C_NoThing C_Store C_StoreError) (d_Store_drop : Met0 K C_Store "drop" "Store.drop" s_Store_drop) (c_Store_want_hand : MetD P w K mg base 2 C_Store "want_hand" "Store.want_hand" s_Store_want_hand ["self", "hand"] (sp_Store_want_hand C_Store)) (c_Store_want_had : MetD P w K mg base 3 C_Store "want_had" "Store.want_had" s_Store_want_had ["self", "hand", "thing"] (sp_Store_want_had C_Store)) (c_Store_lose : MetD P w K mg base 2 C_Store "lose" "Store.lose" s_Store_lose ["self", "hand", "thing"] (sp_Store_lose C_Store)) (c_Store_done : MetD P w K mg base 1 C_Store "done" "Store.done" s_Store_done ["self"] sp_Store_done) : MetD P w K mg base 4 C_Store "drop" "Store.drop" s_Store_drop ["self", "hand", "thing"] (sp_Store_drop C_Store) := by
  refine metD d_Store_drop sc_Store_drop (fun ds μ Q E h => by unfold sp_Store_drop at h; split at h <;> first | rfl | exact h.elim) ?_
  intro f cdv A outer s H EX ds μ Q E hg hr tk hp h
  obtain ⟨hu, hu1, hu2⟩ := rooms hr
  refine ⟨_, (jss_cons (js_expr (jm (ks := []) (n := 2) (idx := []) (je_name 0) T.cl_Store c_Store_want_hand hr (by decide) hg tkN (fun _ _ _ _ _ _ us ws h1 h2 => match us, ws, h1, h2 with | [_, _], [], _, _ => rfl) (jc_p (ja_cons (je_name 1) ja_nil))))
      (jss_cons (js_expr (jm (ks := []) (n := 3) (idx := []) (je_name 0) T.cl_Store c_Store_want_had hr (by decide) hg tkN (fun _ _ _ _ _ _ us ws h1 h2 => match us, ws, h1, h2 with | [_, _, _], [], _, _ => rfl) (jc_p (ja_cons (je_name 1) (ja_cons (je_name 2) ja_nil)))))
      (jss_cons (js_expr (jm (ks := []) (n := 3) (idx := []) (je_name 0) T.cl_Store c_Store_lose hr (by decide) hg tkN (fun _ _ _ _ _ _ us ws h1 h2 => match us, ws, h1, h2 with | [_, _, _], [], _, _ => rfl) (jc_p (ja_cons (je_name 1) (ja_cons (je_name 2) ja_nil)))))
      (jss_one (js_expr (jm (ks := []) (n := 1) (idx := []) (je_name 0) T.cl_Store c_Store_done hr (by decide) hg tkN (fun _ _ _ _ _ _ us ws h1 h2 => match us, ws, h1, h2 with | [_], [], _, _ => rfl) jc_0)))))), ?_⟩
  clear hr hg tk hp hu hu1 hu2
  unfold sp_Store_drop at h
  split at h
  case h_2 => exact h.elim
  rename_i t x n
  obtain ⟨S, g, B, rfl, s, o, mg, rfl, hn, q⟩ := h
  have ob := s.ob
  have h0 := o.n0
  have hx := o.nm g mg
  obtain ⟨z, mz, ez⟩ := th_of (o.ok.rows g mg n hn)
  have n0 : 0 ≤ n := by rw [← ez]; exact h0 z mz
  have l := o.rl g mg
  walk_at "dl go"
  walk_at "dl rd"
  refine ⟨S, rfl, s, hx, List.mem_map.mpr ⟨g, mg, rfl⟩, ?_⟩
  walk_at "dl rd"
  refine ⟨S, g, rfl, s, mg, rfl, hn, n0, ?_⟩
  walk_at "dl rd"
  refine ⟨S, g, z, rfl, s, mg, rfl, hn, mz, ez, by omega, o.ok.has_nil mg hn z mz ez, fun μ' h1 h2 => ?_⟩
  have ob1 := h1.ob
  have e3 : (S.lose g.nm n).t = S.t := rfl
  have e4 : (S.lose g.nm n).flds = S.flds := rfl
  rw [e3, e4] at ob1
  walk_at "dl rd"
  exact wkR.same (q μ' h1 h2)
def sp_store_done (C_Store : Addr) : SpD := fun ds μ Q _ => match ds with
  | [.at t, d] => ∃ (S : SC) (B : Nat) (dd : Dd), t = S.t ∧ St C_Store μ S ∧ OkN S B ∧ B ≤ 80000 ∧ SlQ S ∧ S.fx.length ≤ 100 ∧ S.many < 90000 ∧ d = dd.D2 ∧ (∀ h w, dd = .make h w → w = "") ∧ dd.Ok S.rws ∧ dd.Rm S.rws S.slOf S.ts.length ∧ ∀ μ' y v, NewTh S.many y dd → St C_Store μ' (S.did y dd) → Stp (FT C_Store S) (FT C_Store (S.did y dd)) μ μ' → Q v μ'
  | _ => False
theorem sc_store_done : FnScope ["_law_den", "_law_deed_here", "_law_word", "_law_hand"] ["_law_den", "_law_deed_here"] (defScope s_store_done) := ⟨rfl, rfl, rfl, by decide +kernel, rfl, by decide +kernel, by decide +kernel⟩
theorem g_store_done (T : Txt K mg C_NoCount C_NoGroup C_NoHold C_NoName C_NoOrder C_NoThing C_Store C_StoreError) (d_store_done : Def0 K mg "_law_store_done" s_store_done) (c_Store_make : MetD P w K mg base 3 C_Store "make" "Store.make" s_Store_make ["self", "hand", "word"] (sp_Store_make C_Store)) (c_Store_put : MetD P w K mg base 5 C_Store "put" "Store.put" s_Store_put ["self", "hand", "owner", "slot", "thing"] (sp_Store_put C_Store)) (c_Store_show : MetD P w K mg base 5 C_Store "show" "Store.show" s_Store_show ["self", "hand", "owner", "slot", "thing"] (sp_Store_show C_Store)) (c_Store_tie : MetD P w K mg base 5 C_Store "tie" "Store.tie" s_Store_tie ["self", "hand", "owner", "slot", "key", "value"] (sp_Store_tie C_Store)) (c_Store_empty : MetD P w K mg base 5 C_Store "empty" "Store.empty" s_Store_empty ["self", "hand", "owner", "slot"] (sp_Store_empty C_Store)) (c_Store_take : MetD P w K mg base 5 C_Store "take" "Store.take" s_Store_take ["self", "hand", "owner", "slot"] (sp_Store_take C_Store)) (c_Store_give : MetD P w K mg base 4 C_Store "give" "Store.give" s_Store_give ["self", "hand", "thing", "to"] (sp_Store_give C_Store)) (c_Store_drop : MetD P w K mg base 4 C_Store "drop" "Store.drop" s_Store_drop ["self", "hand", "thing"] (sp_Store_drop C_Store)) : CalD P w K mg base 6 "_law_store_done" s_store_done ["_law_den", "_law_deed_here"] (sp_store_done C_Store) := by
  refine calD d_store_done sc_store_done (fun ds μ Q E h => by unfold sp_store_done at h; split at h <;> first | rfl | exact h.elim) ?_
  intro f cdv A outer s H EX ds μ Q E hg hr tk hp h
  obtain ⟨hu, hu1, hu2⟩ := rooms hr
  refine ⟨_, (jss_cons (js_par 2 3 (ja_cons (je_ix id_ix (je_name 1) je_int) (ja_cons (je_ix id_ix (je_name 1) je_int) ja_nil)) sc_store_done.nd)
      (jss_cons (js_if (jt_cmp (od_eq hu) (je_name 2) je_str) (jss_one (js_ret (jmK (n := 2) (je_name 0) T.cl_Store c_Store_make T.kw_Store_make hr (by decide) hg tkN (fun _ _ _ _ _ _ us u h => match us, h with | [_, _], _ => ⟨_, _, _, _, _, _, rfl, rfl, rfl⟩) (jc_p (ja_cons (je_name 3) ja_nil))))) jss_nil)
      (jss_cons (js_if (jt_cmp (od_eq hu) (je_name 2) je_str) (jss_one (js_ret (jm (ks := []) (n := 5) (idx := []) (je_name 0) T.cl_Store c_Store_put hr (by decide) hg tkN (fun _ _ _ _ _ _ us ws h1 h2 => match us, ws, h1, h2 with | [_, _, _, _, _], [], _, _ => rfl) (jc_p (ja_cons (je_name 3) (ja_cons (je_ix id_ix (je_name 1) je_int) (ja_cons (je_ix id_ix (je_name 1) je_int) (ja_cons (je_ix id_ix (je_name 1) je_int) ja_nil)))))))) jss_nil)
      (jss_cons (js_if (jt_cmp (od_eq hu) (je_name 2) je_str) (jss_one (js_ret (jm (ks := []) (n := 5) (idx := []) (je_name 0) T.cl_Store c_Store_show hr (by decide) hg tkN (fun _ _ _ _ _ _ us ws h1 h2 => match us, ws, h1, h2 with | [_, _, _, _, _], [], _, _ => rfl) (jc_p (ja_cons (je_name 3) (ja_cons (je_ix id_ix (je_name 1) je_int) (ja_cons (je_ix id_ix (je_name 1) je_int) (ja_cons (je_ix id_ix (je_name 1) je_int) ja_nil)))))))) jss_nil)
      (jss_cons (js_if (jt_cmp (od_eq hu) (je_name 2) je_str) (jss_one (js_ret (jm (ks := []) (n := 6) (idx := []) (je_name 0) T.cl_Store c_Store_tie hr (by decide) hg tkN (fun _ _ _ _ _ _ us ws h1 h2 => match us, ws, h1, h2 with | [_, _, _, _, _, _], [], _, _ => rfl) (jc_p (ja_cons (je_name 3) (ja_cons (je_ix id_ix (je_name 1) je_int) (ja_cons (je_ix id_ix (je_name 1) je_int) (ja_cons (je_ix id_ix (je_name 1) je_int) (ja_cons (je_ix id_ix (je_name 1) je_int) ja_nil))))))))) jss_nil)
      (jss_cons (js_if (jt_cmp (od_eq hu) (je_name 2) je_str) (jss_one (js_ret (jm (ks := []) (n := 4) (idx := []) (je_name 0) T.cl_Store c_Store_empty hr (by decide) hg tkN (fun _ _ _ _ _ _ us ws h1 h2 => match us, ws, h1, h2 with | [_, _, _, _], [], _, _ => rfl) (jc_p (ja_cons (je_name 3) (ja_cons (je_ix id_ix (je_name 1) je_int) (ja_cons (je_ix id_ix (je_name 1) je_int) ja_nil))))))) jss_nil)
      (jss_cons (js_if (jt_cmp (od_eq hu) (je_name 2) je_str) (jss_one (js_ret (jm (ks := []) (n := 4) (idx := []) (je_name 0) T.cl_Store c_Store_take hr (by decide) hg tkN (fun _ _ _ _ _ _ us ws h1 h2 => match us, ws, h1, h2 with | [_, _, _, _], [], _, _ => rfl) (jc_p (ja_cons (je_name 3) (ja_cons (je_ix id_ix (je_name 1) je_int) (ja_cons (je_ix id_ix (je_name 1) je_int) ja_nil))))))) jss_nil)
      (jss_cons (js_if (jt_cmp (od_eq hu) (je_name 2) je_str) (jss_one (js_ret (jm (ks := ["to"]) (n := 3) (idx := [0]) (je_name 0) T.cl_Store c_Store_give hr (by decide) hg tkN (fun _ _ _ _ _ _ us ws h1 h2 => match us, ws, h1, h2 with | [_, _, _], [_], _, _ => rfl) (jc_pk (ja_cons (je_name 3) (ja_cons (je_ix id_ix (je_name 1) je_int) ja_nil)) (jk_cons (je_ix id_ix (je_name 1) je_int) jk_nil))))) jss_nil)
      (jss_one (js_ret (jm (ks := []) (n := 3) (idx := []) (je_name 0) T.cl_Store c_Store_drop hr (by decide) hg tkN (fun _ _ _ _ _ _ us ws h1 h2 => match us, ws, h1, h2 with | [_, _, _], [], _, _ => rfl) (jc_p (ja_cons (je_name 3) (ja_cons (je_ix id_ix (je_name 1) je_int) ja_nil)))))))))))))), ?_⟩
  clear hr hg tk hp hu hu1 hu2
  unfold sp_store_done at h
  split at h
  case h_2 => exact h.elim
  rename_i t d
  obtain ⟨S, B, dd, rfl, s, o, hB, sq, hfx, hm, rfl, hw, ok, rm, q⟩ := h
  have ob := s.ob
  have hin : ∀ {h row x}, (h, row) ∈ S.rws → x ∈ row → x ∈ S.ts.map Th.n := fun {h row x} m hx => by
    obtain ⟨g, hg, _, rfl⟩ := rws_in m
    exact o.ok.rows g hg x hx
  walk_at "dl go"
  cases dd with
  | make h w =>
    cases hw h w rfl
    obtain ⟨row, hr, hw⟩ := ok
    obtain ⟨h40, h30⟩ := rm
    obtain ⟨g, hg, rfl, rfl⟩ := rws_in hr
    unfold Dd.D2
    walk_at "dl kb"
    try (refine ⟨_, _, rfl, ?_⟩; walk_at "dl kb")
    refine ⟨S, g, B, rfl, s, o, by omega, hg, rfl, h30 _ hr, h40, by omega, hfx, .inl rfl, fun μ1 y yn ysl yw yke n1 n2 s1 sm1 => ?_⟩
    exact wkR.same (q μ1 y _ ⟨yn, ysl, yw, yke⟩ s1 (stp_make n1 n2 sm1))
  | give h x t =>
    obtain ⟨row, hr, hx, ht⟩ := ok
    obtain ⟨g, hg, rfl, rfl⟩ := rws_in hr
    obtain ⟨⟨t', row'⟩, ht', rfl⟩ := List.mem_map.mp ht
    obtain ⟨g', hg', rfl, rfl⟩ := rws_in ht'
    unfold Dd.D2
    walk_at "dl kb"
    try (refine ⟨_, _, rfl, ?_⟩; walk_at "dl kb")
    refine ⟨S, g, g', B, rfl, s, o, by omega, hg, rfl, hx, hg', rfl, (fun c => rm c _ ht'), fun μ1 s1 sm1 => ?_⟩
    have f1 : foot (((S.lose g.nm x).have_ g'.nm x).cells C_Store) = foot (S.cells C_Store) := foot_have.trans foot_lose
    exact wkR.same (q μ1 ⟨0, 0, 0, [], "", []⟩ _ trivial s1 (sm1.stp.eq f1))
  | drop h x =>
    obtain ⟨row, hr, hx⟩ := ok
    obtain ⟨g, hg, rfl, rfl⟩ := rws_in hr
    unfold Dd.D2
    walk_at "dl kb"
    try (refine ⟨_, _, rfl, ?_⟩; walk_at "dl kb")
    refine ⟨S, g, B, rfl, s, o, hg, rfl, hx, fun μ1 s1 sm1 => ?_⟩
    exact wkR.same (q μ1 ⟨0, 0, 0, [], "", []⟩ _ trivial s1 (sm1.stp.eq foot_lose))
  | fill h u k r =>
    obtain ⟨row, hr, hu, hk, hv, hj⟩ := ok
    have rm' : getA (S.slOf u) k = none → (S.slOf u).length < 8 := rm
    obtain ⟨g, hg, rfl, rfl⟩ := rws_in hr
    obtain ⟨z, hz, rfl, ez⟩ := slOf_of (hin hr hu) o.tn
    rw [ez] at rm'
    cases r with
    | plain x =>
      unfold Dd.D2 Rw.deed
      walk_at "dl kb"
      try (refine ⟨_, _, rfl, ?_⟩; walk_at "dl kb")
      refine ⟨S, g, z, B, rfl, s, o, by omega, hg, rfl, hu, hv, hk, hz, rfl, rm', fun μ1 s1 sm1 => ?_⟩
      exact wkR.same (q μ1 ⟨0, 0, 0, [], "", []⟩ _ trivial s1 (sm1.stp.eq foot_put))
    | weak x =>
      unfold Dd.D2 Rw.deed
      walk_at "dl kb"
      try (refine ⟨_, _, rfl, ?_⟩; walk_at "dl kb")
      refine ⟨S, g, z, B, rfl, s, o, by omega, hg, rfl, hu, hv, hk, hz, rfl, rm', fun μ1 s1 sm1 => ?_⟩
      exact wkR.same (q μ1 ⟨0, 0, 0, [], "", []⟩ _ trivial s1 (sm1.stp.eq foot_put))
    | keyed j x =>
      unfold Dd.D2 Rw.deed
      walk_at "dl kb"
      try (refine ⟨_, _, rfl, ?_⟩; walk_at "dl kb")
      refine ⟨S, g, z, B, rfl, s, o, by omega, hg, rfl, hu, hj j rfl, hv, hk, hz, rfl, rm', fun μ1 s1 sm1 => ?_⟩
      exact wkR.same (q μ1 ⟨0, 0, 0, [], "", []⟩ _ trivial s1 (sm1.stp.eq foot_put))
  | empty h u k =>
    obtain ⟨row, hr, hu, hk⟩ := ok
    have rm' : getA (S.slOf u) k ≠ none := rm
    obtain ⟨g, hg, rfl, rfl⟩ := rws_in hr
    obtain ⟨z, hz, rfl, ez⟩ := slOf_of (hin hr hu) o.tn
    rw [ez] at rm'
    unfold Dd.D2
    walk_at "dl kb"
    try (refine ⟨_, _, rfl, ?_⟩; walk_at "dl kb")
    refine ⟨S, g, z, B, rfl, s, o, by omega, hg, rfl, hu, hk, hz, rfl, rm', fun μ1 s1 sm1 => ?_⟩
    exact wkR.same (q μ1 ⟨0, 0, 0, [], "", []⟩ _ trivial s1 (sm1.stp.eq foot_clrO))
  | take h u k =>
    obtain ⟨row, hr, hu, hk⟩ := ok
    obtain ⟨r, er, h30⟩ := rm
    obtain ⟨g, hg, rfl, rfl⟩ := rws_in hr
    have ev : valOf (S.slOf u) k = r.val := by unfold valOf; rw [er]
    have sv := sq u _ (getA_some er)
    obtain ⟨z, hz, rfl, ez⟩ := slOf_of (hin hr hu) o.tn
    have er2 := er
    rw [ez] at er2
    unfold Dd.D2
    walk_at "dl kb"
    try (refine ⟨_, _, rfl, ?_⟩; walk_at "dl kb")
    refine ⟨S, g, z, r, B, rfl, s, o, by omega, hg, rfl, hu, hk, hz, rfl, er2, (h30 _ hr).1, sv.2.1, (h30 _ hr).2, fun μ1 s1 sm1 => ?_⟩
    have q' := q μ1 ⟨0, 0, 0, [], "", []⟩ (.int r.val) trivial
    unfold SC.did at q'
    simp only [ev] at q'
    exact wkR.same (q' s1 (sm1.stp.eq foot_have))
def sp_less : SpD := fun ds μ Q _ => match ds with
  | [.lst es, .int n] => ∃ xs : List Int, es = xs.map .int ∧ n ∈ xs ∧ xs.length ≤ 1000 ∧ Q (.lst ((woLast xs n).map .int)) μ
  | _ => False
theorem sc_less : FnScope ["_law_row", "_law_piece", "_law_at", "_law_k"] ["_law_row", "_law_piece"] (defScope s_less) := ⟨rfl, rfl, rfl, by decide +kernel, rfl, by decide +kernel, by decide +kernel⟩
theorem g_less (T : Txt K mg C_NoCount C_NoGroup C_NoHold C_NoName C_NoOrder C_NoThing C_Store C_StoreError) (d_less : Def0 K mg "_law_less" s_less)  : CalD P w K mg base 1 "_law_less" s_less ["_law_row", "_law_piece"] sp_less := by
  refine calD d_less sc_less (fun ds μ Q E h => by unfold sp_less at h; split at h <;> first | rfl | exact h.elim) ?_
  intro f cdv A outer s H EX ds μ Q E hg hr tk hp h
  obtain ⟨hu, hu1, hu2⟩ := rooms hr
  refine ⟨_, (jss_cons (js_set 2 (je_ix id_ix (je_lc (own := [("_law_k", 3)]) (g := gName 3) sc_less.nd (ji_range1 T.n_range (ja_cons (je_cb cd_len T.n_len (ja_cons (je_name 0) ja_nil)) ja_nil)) (blkOk_by (own := [("_law_k", 3)]) (sc := defScope s_less) (N := ["_law_row", "_law_piece", "_law_at", "_law_k"]) (by decide +kernel)) (ct_name 3) (fun _ _ _ _ _ => (pg_name (i := 3) sc_less.nd rfl (by first | exact Or.inl rfl | exact Or.inr rfl))) (fun _ _ _ _ _ => (jts_one (jt_cmp (od_eq hu) (je_ix id_ix (je_name 0) (je_name 3)) (je_name 1)))) (fun _ _ _ _ _ => (je_name 3))) (je_un ud_neg je_int)) sc_less.nd)
      (jss_one (js_ret (je_op (od_add false) (je_slice false (je_name 0) jo_none (jo_some (je_name 2))) (je_slice false (je_name 0) (jo_some (je_op (od_add false) (je_name 2) je_int)) jo_none))))), ?_⟩
  clear hr hg tk hp hu hu1 hu2
  unfold sp_less at h
  split at h
  case h_2 => exact h.elim
  rename_i es n
  obtain ⟨xs, rfl, hn, hl, q⟩ := h
  obtain ⟨A, eA⟩ := last_at xs n hn
  have hj := List.idxOf_lt_length_of_mem (List.mem_reverse.mpr hn)
  rw [List.length_reverse] at hj
  walk_at "dl go"
  walk_at "dl rd"
  refine rd_rng ⟨by rw [List.length_map]; omega, by rw [List.length_map]; omega⟩ ?_
  have e9 : ((xs.map D.int).length : Int).toNat = xs.length := by rw [List.length_map]; rfl
  rw [e9]
  refine lc_pure (xs := List.range xs.length) (f := fun k : Nat => .int k) (h := fun k : Nat => .int k) (p := fun k => decide (xs[k]? = some n)) (by rw [List.length_range]; omega) ?_ ?_ ?_
  · exact fun _ _ _ => trivial
  · intro k hk L acc K1 K2 hL k1 k2
    have hk := List.mem_range.mp hk
    have e1 : atI (xs.map D.int) (k : Int) = some (.int xs[k]) := by
      have e2 : ixN (xs.map D.int).length (k : Int) = some k := by
        unfold ixN
        rw [if_pos (by omega), if_pos (by rw [List.length_map]; omega)]
        rfl
      unfold atI
      rw [e2]
      show (xs.map D.int)[k]? = _
      rw [List.getElem?_map, List.getElem?_eq_getElem hk]
      rfl
    walk_at "dl rd"
    refine rd_brD (fun c => ?_) fun c => ?_
    · walk_at "dl rd"
      exact k1 (by rw [List.getElem?_eq_getElem hk, c]; exact decide_eq_true rfl)
    · exact k2 (by rw [List.getElem?_eq_getElem hk]; exact decide_eq_false fun z => c (Option.some.inj z))
  walk_at "dl rd"
  rw [eA, List.map_append]
  refine rd_ixl atI_snoc ?_
  walk_at "dl rd"
  have e2 : ((xs.length - 1 - xs.reverse.idxOf n : Nat) : Int) + 1 = ((xs.length - 1 - xs.reverse.idxOf n + 1 : Nat) : Int) := rfl
  rw [cut_map, cut_map, e2, cutL_take (by omega), cutL_drop (by omega)]
  refine rd_addll (by rw [List.length_map, List.length_map, List.length_take, List.length_drop, sizeLine_eq]; omega) ?_
  refine rd_newF ?_
  rw [← List.map_append, woLast_cut xs n _ rfl]
  exact wkR.same q
def sp_own_done : SpD := fun ds μ Q _ => match ds with
  | [.at m, d] => ∃ (x6 : Option Addr) (M : MS) (dd : Dd), m = M.m ∧ GSt (fl6 x6) μ M ∧ MOk M ∧ d = dd.D2 ∧ dd.Ok M.rs ∧ dd.Rm M.rs M.slOf M.ts.length ∧ (∀ h w, dd = .make h w → w = "") ∧ ∀ μ' a, GSt (fl6 x6) μ' (M.note a dd) → Stp (foot (gells (fl6 x6) M)) (foot (gells (fl6 x6) (M.note a dd))) μ μ' → Q .non μ'
  | _ => False
theorem sc_own_done : FnScope ["_law_own", "_law_deed_here", "_law_rows", "_law_hand"] ["_law_own", "_law_deed_here"] (defScope s_own_done) := ⟨rfl, rfl, rfl, by decide +kernel, rfl, by decide +kernel, by decide +kernel⟩
theorem g_own_done (T : Txt K mg C_NoCount C_NoGroup C_NoHold C_NoName C_NoOrder C_NoThing C_Store C_StoreError) (d_own_done : Def0 K mg "_law_own_done" s_own_done) (c_row_in : CalD P w K mg base 1 "_law_row_in" s_row_in ["_law_own", "_law_deed_here"] sp_row_in) (c_less : CalD P w K mg base 1 "_law_less" s_less ["_law_row", "_law_piece"] sp_less) : CalD P w K mg base 2 "_law_own_done" s_own_done ["_law_own", "_law_deed_here"] sp_own_done := by
  refine calD d_own_done sc_own_done (fun ds μ Q E h => by unfold sp_own_done at h; split at h <;> first | rfl | exact h.elim) ?_
  intro f cdv A outer s H EX ds μ Q E hg hr tk hp h
  obtain ⟨hu, hu1, hu2⟩ := rooms hr
  refine ⟨_, (jss_cons (js_par 2 3 (ja_cons (je_dget hu1 (je_name 0) je_str) (ja_cons (je_ix id_ix (je_name 1) je_int) ja_nil)) sc_own_done.nd)
      (jss_one (js_if (jt_cmp (od_eq hu) (je_ix id_ix (je_name 1) je_int) je_str) (jss_cons (js_dput hu1 (je_name 2) (je_name 3) (je_op (od_add false) (je_dget hu1 (je_name 2) (je_name 3)) (je_lst false (ja_cons (je_dget hu1 (je_name 0) je_str) ja_nil))))
      (jss_cons (js_dput hu1 (je_dget hu1 (je_name 0) je_str) (je_dget hu1 (je_name 0) je_str) je_dnewK)
      (jss_one (js_dput hu1 (je_name 0) je_str (je_op (od_add false) (je_dget hu1 (je_name 0) je_str) je_int))))) (jss_one (js_if (jt_cmp (od_eq hu) (je_ix id_ix (je_name 1) je_int) je_str) (jss_one (js_dput hu1 (je_dget hu1 (je_dget hu1 (je_name 0) je_str) (je_ix id_ix (je_name 1) je_int)) (je_ix id_ix (je_name 1) je_int) (je_tup (ja_cons je_str (ja_cons (je_ix id_ix (je_name 1) je_int) ja_nil))))) (jss_one (js_if (jt_cmp (od_eq hu) (je_ix id_ix (je_name 1) je_int) je_str) (jss_one (js_dput hu1 (je_dget hu1 (je_dget hu1 (je_name 0) je_str) (je_ix id_ix (je_name 1) je_int)) (je_ix id_ix (je_name 1) je_int) (je_tup (ja_cons je_str (ja_cons (je_ix id_ix (je_name 1) je_int) ja_nil))))) (jss_one (js_if (jt_cmp (od_eq hu) (je_ix id_ix (je_name 1) je_int) je_str) (jss_one (js_dput hu1 (je_dget hu1 (je_dget hu1 (je_name 0) je_str) (je_ix id_ix (je_name 1) je_int)) (je_ix id_ix (je_name 1) je_int) (je_tup (ja_cons je_str (ja_cons (je_ix id_ix (je_name 1) je_int) (ja_cons (je_ix id_ix (je_name 1) je_int) ja_nil)))))) (jss_one (js_if (jt_cmp (od_eq hu) (je_ix id_ix (je_name 1) je_int) je_str) (jss_one (js_expr (je_dpop (je_dget hu1 (je_dget hu1 (je_name 0) je_str) (je_ix id_ix (je_name 1) je_int)) (je_ix id_ix (je_name 1) je_int) ⟨by rfl, by rfl, by rfl, by rfl⟩))) (jss_one (js_if (jt_cmp (od_eq hu) (je_ix id_ix (je_name 1) je_int) je_str) (jss_one (js_dput hu1 (je_name 2) (je_name 3) (je_op (od_add false) (je_dget hu1 (je_name 2) (je_name 3)) (je_lst false (ja_cons (je_ix id_ix (jf (ks := []) (n := 2) (idx := []) c_row_in hr (by decide) hg tkN (fun _ _ _ _ _ _ us ws h1 h2 => match us, ws, h1, h2 with | [_, _], [], _, _ => rfl) (jc_p (ja_cons (je_name 0) (ja_cons (je_name 1) ja_nil)))) (je_un ud_neg je_int)) ja_nil))))) (jss_cons (js_dput hu1 (je_name 2) (je_name 3) (jf (ks := []) (n := 2) (idx := []) c_less hr (by decide) hg tkN (fun _ _ _ _ _ _ us ws h1 h2 => match us, ws, h1, h2 with | [_, _], [], _, _ => rfl) (jc_p (ja_cons (je_dget hu1 (je_name 2) (je_name 3)) (ja_cons (je_ix id_ix (je_name 1) je_int) ja_nil)))))
      (jss_one (js_if (jt_cmp (od_eq hu) (je_ix id_ix (je_name 1) je_int) je_str) (jss_one (js_dput hu1 (je_name 2) (je_ix id_ix (je_name 1) je_int) (je_op (od_add false) (je_dget hu1 (je_name 2) (je_ix id_ix (je_name 1) je_int)) (je_lst false (ja_cons (je_ix id_ix (je_name 1) je_int) ja_nil))))) jss_nil)))))))))))))))), ?_⟩
  clear hr hg tk hp hu hu1 hu2
  unfold sp_own_done at h
  split at h
  case h_2 => exact h.elim
  rename_i m d
  obtain ⟨x6, M, dd, rfl, s, o, rfl, ok, rm, hw, q⟩ := h
  have tn := o.tn
  have tl := o.tl
  have hl := o.hl
  obtain ⟨im, imr, ims⟩ := gin_m (fl := (fl6 x6)) (M := M)
  walk_at "dl go"
  cases dd with
  | make h w =>
    cases hw h w rfl
    obtain ⟨row, hrow, hw⟩ := ok
    have rl : row.length ≤ 30 := o.rl _ hrow
    have nd := GSt.nd_ s
    simp only [List.nodup_cons, List.mem_cons, not_or] at nd
    have a1 : M.m ≠ M.mr := nd.1.1
    have a2 : M.m ≠ M.ms := nd.1.2.1
    have a5 : M.mr ≠ M.ms := nd.2.1.1
    have hno : M.many ∉ M.ts.map MT.n := fun m => by
      obtain ⟨x, hx, e⟩ := mth_of m
      have := o.lt x hx
      omega
    unfold Dd.D2
    walk_at "dl kb"
    refine rd_gAt s ((fl6_ok x6).rows M) ?_
    walk_at "dl kb"
    refine ⟨_, _, rfl, ?_⟩
    walk_at "dl kb"
    refine rd_gRow s o.hn hrow ?_
    walk_at "dl kb"
    refine rd_gAt s ((fl6_ok x6).made M) ?_
    walk_at "dl kb"
    refine rd_mPutRow (rs := M.rs) (· ++ [M.many]) (GSt.mr_ s) o.hn (by omega) hrow addr_row ?_
    have s1 := GSt.updRow s (fl6_ok x6) (h := h) (f := (· ++ [M.many]))
    have st1 : Stp (foot (gells (fl6 x6) M)) (foot (gells (fl6 x6) M)) μ (put μ M.mr (.dK ((updR M.rs h (· ++ [M.many])).map rwD))) := (Stp.refl _ _).put (.inl imr)
    have bk : ∀ x, put μ M.mr (.dK ((updR M.rs h (· ++ [M.many])).map rwD)) x = none → μ x = none := fun x h => (no_put h).2
    generalize put μ M.mr (.dK ((updR M.rs h (· ++ [M.many])).map rwD)) = μ1 at s1 st1 bk ⊢
    walk_at "dl kb"
    intro p hp
    have pF : p ∉ foot (gells (fl6 x6) (M.updRow h (· ++ [M.many]))) := Sits.nf s1 hp
    have s2 : GSt (fl6 x6) (put μ1 p (.dK [])) (M.updRow h (· ++ [M.many])) := s1.put pF
    rw [gfoot_eq] at pF
    simp only [List.mem_cons, not_or] at pF
    have b1 : p ≠ M.m := pF.1
    have b2 : p ≠ M.mr := pF.2.1
    have b3 : p ≠ M.ms := pF.2.2.1
    have e1 : μ1 M.m = some (.dK ((fl6 x6) (M.updRow h (· ++ [M.many])))) := GSt.m_ (fl := (fl6 x6)) (M := M.updRow h (· ++ [M.many])) s1
    have e2 : μ1 M.ms = some (.dK M.dS) := GSt.ms_ (fl := (fl6 x6)) (M := M.updRow h (· ++ [M.many])) s1
    have e5 : μ1 M.mr = some (.dK ((updR M.rs h (· ++ [M.many])).map rwD)) := GSt.mr_ (fl := (fl6 x6)) (M := M.updRow h (· ++ [M.many])) s1
    walk_at "dl kb"
    refine rd_gAt (fl := (fl6 x6)) (M := M.updRow h (· ++ [M.many])) s2 ((fl6_ok x6).slots _) ?_
    walk_at "dl kb"
    refine rd_gAt (fl := (fl6 x6)) (M := M.updRow h (· ++ [M.many])) s2 ((fl6_ok x6).made _) ?_
    refine rd_putNew (l := M.ts) (f := MT.n) (g := fun x => .at x.a) (show put μ1 p (.dK []) M.ms = _ from by rw [put_ne (Ne.symm b3)]; exact e2) hno (by omega) ?_
    walk_at "dl kb"
    refine ⟨_, .inl ⟨(fl6 x6) (M.updRow h (· ++ [M.many])), .inr "made", .inl (by walk_at "dl mu"), rfl, by rfl⟩, ?_⟩
    walk_at "dl kb"
    refine rd_gPutMade (M := M.updRow h (· ++ [M.many])) (fl6_ok x6) (show _ = some (O.dK ((fl6 x6) (M.updRow h (· ++ [M.many])))) from by walk_at "dl mu") ?_
    walk_at "dl kb"
    generalize eμ : put _ (M.updRow h (· ++ [M.many])).m (O.dK ((fl6 x6) _)) = μ9
    have oth : ∀ b, b ≠ M.m → b ≠ M.ms → b ≠ p → μ9 b = μ1 b := fun b c1 c2 c5 => by
      rw [← eμ]
      show put (put _ M.ms _) M.m _ b = _
      rw [put_ne c1, put_ne c2, put_ne c5]
    have s9 : GSt (fl6 x6) μ9 ((M.updRow h (· ++ [M.many])).addT ⟨M.many, p, [], "", 1⟩) := by
      refine GSt.addT (M := M.updRow h (· ++ [M.many])) s1 (x := ⟨M.many, p, [], "", 1⟩) hp oth ?_ ?_ ?_
      · rw [← eμ]
        exact put_same
      · rw [← eμ]
        show put (put _ M.ms _) M.m _ M.ms = _
        rw [put_ne (Ne.symm a2), put_same]
        unfold MS.dS MS.addT
        rw [List.map_append]
        rfl
      · rw [← eμ]
        show put (put _ M.ms _) M.m _ p = _
        rw [put_ne b1, put_ne b3, put_same]
        rfl
    have st9 : Stp (foot (gells (fl6 x6) M)) (foot (gells (fl6 x6) M)) μ μ9 := by
      rw [← eμ]
      exact ((st1.put (.inr (bk p hp))).put (.inl ims)).put (.inl im)
    refine wkR.same (q _ p s9 (st9.to fun b hb => ?_))
    rcases gfoot_addT (M := M.updRow h (· ++ [M.many])) (x := ⟨M.many, p, [], "", 1⟩) hb with z | z
    · exact .inl (gfoot_updRow ▸ z)
    · exact .inr (z ▸ bk p hp)
  | give h x t =>
    obtain ⟨row, hrow, hx, ht⟩ := ok
    have rl : row.length ≤ 30 := o.rl _ hrow
    unfold Dd.D2
    walk_at "dl kb"
    refine rd_gAt s ((fl6_ok x6).rows M) ?_
    walk_at "dl kb"
    refine ⟨_, _, rfl, ?_⟩
    walk_at "dl kb"
    refine rd_gRow s o.hn hrow ?_
    walk_at "dl kb"
    refine ⟨row, rfl, hx, by omega, ?_⟩
    walk_at "dl kb"
    refine rd_mPutRow (woLast · x) (GSt.mr_ s) o.hn (by omega) hrow rfl ?_
    have s1 := GSt.updRow s (fl6_ok x6) (h := h) (f := (woLast · x))
    have hn1 : ((M.updRow h (woLast · x)).rs.map fun q : Str × List Int => q.1).Nodup := by
      show ((updR M.rs h (woLast · x)).map fun q : Str × List Int => q.1).Nodup
      rw [updR_names]
      exact o.hn
    obtain ⟨row2, m2⟩ : ∃ row2, (t, row2) ∈ (M.updRow h (woLast · x)).rs := mrow_of (by
      show t ∈ (updR M.rs h (woLast · x)).map fun q : Str × List Int => q.1
      rw [updR_names]
      exact ht)
    have rl2 : row2.length ≤ 30 := by
      obtain ⟨q0, hq0, e0, e1 | e1⟩ := updR_in (show (t, row2) ∈ updR M.rs h (woLast · x) from m2)
      · rw [show row2 = woLast q0.2 x from e1.2]
        exact Nat.le_trans (List.length_eraseIdx_le ..) (o.rl q0 hq0)
      · rw [show row2 = q0.2 from e1.2]
        exact o.rl q0 hq0
    walk_at "dl kb"
    refine rd_gRow (fl := (fl6 x6)) (M := M.updRow h (woLast · x)) s1 hn1 m2 ?_
    walk_at "dl kb"
    refine rd_mPutRow (· ++ [x]) (GSt.mr_ (fl := (fl6 x6)) (M := M.updRow h (woLast · x)) s1) hn1 (by show (updR M.rs h (woLast · x)).length ≤ 1000; rw [updR_len]; omega) m2 addr_row ?_
    walk_at "dl kb"
    refine wkR.same (q _ 0 (GSt.updRow (M := M.updRow h (woLast · x)) s1 (fl6_ok x6)) ((((Stp.refl _ _).put (.inl imr)).put (.inl imr)).to fun b hb => .inl ?_))
    rw [show foot (gells (fl6 x6) (M.note 0 (.give h x t))) = foot (gells (fl6 x6) M) from (gfoot_updRow (M := M.updRow h (woLast · x)) (h := t) (f := (· ++ [x]))).trans gfoot_updRow] at hb
    exact hb
  | drop h x =>
    obtain ⟨row, hrow, hx⟩ := ok
    have rl : row.length ≤ 30 := o.rl _ hrow
    unfold Dd.D2
    walk_at "dl kb"
    refine rd_gAt s ((fl6_ok x6).rows M) ?_
    walk_at "dl kb"
    refine ⟨_, _, rfl, ?_⟩
    walk_at "dl kb"
    refine rd_gRow s o.hn hrow ?_
    walk_at "dl kb"
    refine ⟨row, rfl, hx, by omega, ?_⟩
    walk_at "dl kb"
    refine rd_mPutRow (woLast · x) (GSt.mr_ s) o.hn (by omega) hrow rfl ?_
    walk_at "dl kb"
    exact wkR.same (q _ 0 (GSt.updRow s (fl6_ok x6)) (((Stp.refl _ _).put (.inl imr)).to fun b hb => .inl (gfoot_updRow ▸ hb)))
  | fill h u k r =>
    obtain ⟨row, hrow, hu, hk, hv, hj⟩ := ok
    obtain ⟨y, hy, rfl, ey⟩ := MS.slOf_of tn (o.rows _ hrow u hu)
    have sy := GSt.sl_ s hy
    have l8 := o.sl y hy
    cases r with
    | plain x =>
      unfold Dd.D2 Rw.deed
      walk_at "dl kb"
      refine rd_gAt s ((fl6_ok x6).rows M) ?_
      walk_at "dl kb"
      refine ⟨_, _, rfl, ?_⟩
      walk_at "dl kb"
      refine rd_gAt s ((fl6_ok x6).slots M) ?_
      walk_at "dl kb"
      refine rd_gSl s tn hy ?_
      walk_at "dl kb"
      refine rd_putRw (r := .plain x) sy (by omega) ?_
      walk_at "dl kb"
      exact wkR.same (q _ 0 (GSt.modSl s (fl6_ok x6) tn hy fun sl => putA sl k (.plain x)) (((Stp.refl _ _).put (.inl (gin_a hy))).to fun b hb => .inl (gfoot_modSl (f := fun sl => putA sl k (.plain x)) ▸ hb)))
    | weak x =>
      unfold Dd.D2 Rw.deed
      walk_at "dl kb"
      refine rd_gAt s ((fl6_ok x6).rows M) ?_
      walk_at "dl kb"
      refine ⟨_, _, rfl, ?_⟩
      walk_at "dl kb"
      refine rd_gAt s ((fl6_ok x6).slots M) ?_
      walk_at "dl kb"
      refine rd_gSl s tn hy ?_
      walk_at "dl kb"
      refine rd_putRw (r := .weak x) sy (by omega) ?_
      walk_at "dl kb"
      exact wkR.same (q _ 0 (GSt.modSl s (fl6_ok x6) tn hy fun sl => putA sl k (.weak x)) (((Stp.refl _ _).put (.inl (gin_a hy))).to fun b hb => .inl (gfoot_modSl (f := fun sl => putA sl k (.weak x)) ▸ hb)))
    | keyed j x =>
      unfold Dd.D2 Rw.deed
      walk_at "dl kb"
      refine rd_gAt s ((fl6_ok x6).rows M) ?_
      walk_at "dl kb"
      refine ⟨_, _, rfl, ?_⟩
      walk_at "dl kb"
      refine rd_gAt s ((fl6_ok x6).slots M) ?_
      walk_at "dl kb"
      refine rd_gSl s tn hy ?_
      walk_at "dl kb"
      refine rd_putRw (r := .keyed j x) sy (by omega) ?_
      walk_at "dl kb"
      exact wkR.same (q _ 0 (GSt.modSl s (fl6_ok x6) tn hy fun sl => putA sl k (.keyed j x)) (((Stp.refl _ _).put (.inl (gin_a hy))).to fun b hb => .inl (gfoot_modSl (f := fun sl => putA sl k (.keyed j x)) ▸ hb)))
  | empty h u k =>
    obtain ⟨row, hrow, hu, hk⟩ := ok
    obtain ⟨y, hy, rfl, ey⟩ := MS.slOf_of tn (o.rows _ hrow u hu)
    have sy := GSt.sl_ s hy
    unfold Dd.D2
    walk_at "dl kb"
    refine rd_gAt s ((fl6_ok x6).rows M) ?_
    walk_at "dl kb"
    refine ⟨_, _, rfl, ?_⟩
    walk_at "dl kb"
    refine rd_gAt s ((fl6_ok x6).slots M) ?_
    walk_at "dl kb"
    refine rd_gSl s tn hy ?_
    walk_at "dl kb"
    have rm' : getA y.sl k ≠ none := by rw [← ey]; exact rm
    obtain ⟨r, er⟩ := Option.ne_none_iff_exists'.mp rm'
    try refine ⟨⟨_, _, rfl, sy⟩, ?_⟩
    walk_at "dl kb"
    refine rd_dpopRw (Q := fun _ => wkR Q .non) sy er ?_
    exact wkR.same (q _ 0 (GSt.modSl s (fl6_ok x6) tn hy fun sl => dropA sl k) (((Stp.refl _ _).put (.inl (gin_a hy))).to fun b hb => .inl (gfoot_modSl (f := fun sl => dropA sl k) ▸ hb)))
  | take h u k =>
    obtain ⟨row, hrow, hu, hk⟩ := ok
    have rl : row.length ≤ 30 := o.rl _ hrow
    obtain ⟨y, hy, rfl, ey⟩ := MS.slOf_of tn (o.rows _ hrow u hu)
    have sy := GSt.sl_ s hy
    obtain ⟨r, er, _⟩ := rm
    rw [ey] at er
    have ev : valOf (M.slOf y.n) k = r.val := by rw [ey]; exact valOf_at er
    have q2 := q
    unfold MS.note at q2
    simp only [ev] at q2
    unfold Dd.D2
    walk_at "dl kb"
    refine rd_gAt s ((fl6_ok x6).rows M) ?_
    walk_at "dl kb"
    refine ⟨_, _, rfl, ?_⟩
    walk_at "dl kb"
    refine rd_gRow s o.hn hrow ?_
    walk_at "dl kb"
    refine ⟨x6, M, y, k, .str "take", .str h, [], rfl, rfl, s, o, hy, ?_⟩
    rw [er]
    walk_at "dl kb"
    refine rd_ixLast ?_
    walk_at "dl kb"
    refine rd_mPutRow (· ++ [r.val]) (GSt.mr_ s) o.hn (by omega) hrow addr_row ?_
    walk_at "dl kb"
    exact wkR.same (q2 _ 0 (GSt.updRow s (fl6_ok x6)) (((Stp.refl _ _).put (.inl imr)).to fun b hb => .inl (gfoot_updRow ▸ hb)))
def sp_all_done (C_Store : Addr) : SpD := fun ds μ Q _ => match ds with
  | [.at t, .at m, .lst es] => ∃ (x6 : Option Addr) (M : MS) (S : SC) (b : Nat) (μb : Mu) (dds : List Dd), m = M.m ∧ t = S.t ∧ es = dds.map Dd.D2 ∧ WdG C_Store (fl6 x6) μb μ M S b ∧ Fam M ∧ (∀ dd ∈ dds, dd.Sh (M.rs.map (·.1)) M.names) ∧ dds.length ≤ 20 ∧ b ≤ 60000 ∧ S.many < 60000 ∧ ∀ (μ' : Mu) (M' : MS) (S' : SC), M'.m = M.m → S'.t = S.t → Fam M' → WdG C_Store (fl6 x6) μb μ' M' S' (b + 20) → S'.many ≤ S.many + 20 → Q .non μ'
  | _ => False
theorem sc_all_done : FnScope ["_law_den", "_law_own", "_law_deeds", "_law_deed_here"] ["_law_den", "_law_own", "_law_deeds"] (defScope s_all_done) := ⟨rfl, rfl, rfl, by decide +kernel, rfl, by decide +kernel, by decide +kernel⟩
theorem g_all_done (T : Txt K mg C_NoCount C_NoGroup C_NoHold C_NoName C_NoOrder C_NoThing C_Store C_StoreError) (d_all_done : Def0 K mg "_law_all_done" s_all_done) (c_is_let : CalD P w K mg base 2 "_law_is_let" s_is_let ["_law_own", "_law_deed_here"] sp_is_let) (c_store_done : CalD P w K mg base 6 "_law_store_done" s_store_done ["_law_den", "_law_deed_here"] (sp_store_done C_Store)) (c_own_done : CalD P w K mg base 2 "_law_own_done" s_own_done ["_law_own", "_law_deed_here"] sp_own_done) : CalD P w K mg base 7 "_law_all_done" s_all_done ["_law_den", "_law_own", "_law_deeds"] (sp_all_done C_Store) := by
  refine calD d_all_done sc_all_done (fun ds μ Q E h => by unfold sp_all_done at h; split at h <;> first | rfl | exact h.elim) ?_
  intro f cdv A outer s H EX ds μ Q E hg hr tk hp h
  obtain ⟨hu, hu1, hu2⟩ := rooms hr
  refine ⟨_, (jss_one (js_for hp (ji_list (je_name 2)) (jg_name 3 sc_all_done.nd) (jss_one (js_if (jt_val (jf (ks := []) (n := 2) (idx := []) c_is_let hr (by decide) hg tkN (fun _ _ _ _ _ _ us ws h1 h2 => match us, ws, h1, h2 with | [_, _], [], _, _ => rfl) (jc_p (ja_cons (je_name 1) (ja_cons (je_name 3) ja_nil))))) (jss_cons (js_expr (jf (ks := []) (n := 2) (idx := []) c_store_done hr (by decide) hg tkN (fun _ _ _ _ _ _ us ws h1 h2 => match us, ws, h1, h2 with | [_, _], [], _, _ => rfl) (jc_p (ja_cons (je_name 0) (ja_cons (je_name 3) ja_nil)))))
      (jss_one (js_expr (jf (ks := []) (n := 2) (idx := []) c_own_done hr (by decide) hg tkN (fun _ _ _ _ _ _ us ws h1 h2 => match us, ws, h1, h2 with | [_, _], [], _, _ => rfl) (jc_p (ja_cons (je_name 1) (ja_cons (je_name 3) ja_nil))))))) jss_nil)))), ?_⟩
  clear hr hg tk hp hu hu1 hu2
  unfold sp_all_done at h
  split at h
  case h_2 => exact h.elim
  rename_i t m es
  obtain ⟨x6, M, S, b, μb, dds, rfl, rfl, rfl, w, f, sh, l20, hb, hm, q⟩ := h
  walk_at "dl go"
  walk_at "dl rd"
  refine ⟨fun i ρ μ' => ∃ M' S', (∃ x, ρ = [some (.at S.t), some (.at M.m), some (.lst (dds.map Dd.D2)), x]) ∧ M'.m = M.m ∧ S'.t = S.t ∧ M'.rs.map (·.1) = M.rs.map (·.1) ∧ M'.names = M.names ∧ Fam M' ∧ WdG C_Store (fl6 x6) μb μ' M' S' (b + i) ∧ S'.many ≤ S.many + i, wk.same ⟨M, S, ⟨_, rfl⟩, rfl, rfl, rfl, rfl, f, w, by omega⟩, fun _ _ _ _ _ => rfl, ?_, ?_⟩
  · rintro i d ρ μ' hd ⟨M', S', ⟨x, rfl⟩, em, et, ers, ens, f', w', hm'⟩
    obtain ⟨dd, hdd, ed, rfl⟩ := map_get hd
    have hi := (List.getElem?_eq_some_iff.mp ed).1
    have mok := w'.pr.mok
    have sh' : dd.Sh (M'.rs.map (·.1)) M'.names := by
      rw [ers, ens]
      exact sh dd hdd
    walk_at "dl rd"
    refine ⟨x6, M', dd, em.symm, w'.ms, mok, f', rfl, sh', fun c hc => ?_⟩
    walk_at "dl rd"
    refine rd_br (fun e => ?_) fun e => ?_
    · obtain ⟨ok, rm⟩ := hc e
      have ok' : dd.Ok S'.rws := by rw [← w'.pr.rl.rs]; exact ok
      have rm' := Rm_rl w'.pr.rl w'.pr.ok rm
      have hw : ∀ h w, dd = .make h w → w = "" := fun h w e => by
        subst e
        exact sh'.2
      walk_at "dl rd"
      refine ⟨S', b + i, dd, et.symm, w'.st, w'.pr.ok, by omega, w'.pr.q, w'.pr.fx, by omega, rfl, hw, ok', rm', fun μ1 y v ny s1 stp1 => ?_⟩
      have g1 := w'.msS stp1
      walk_at "dl rd"
      refine ⟨x6, M', dd, em.symm, g1, mok, rfl, ok, rm, hw, fun μ2 a g2 stp2 => ?_⟩
      obtain ⟨p2, _, em2⟩ := w'.pr.next ok rm (a := a) ny (by omega)
      have w2 := w'.next2 s1 stp1 g2 stp2 p2
      walk_at "dl rd"
      exact wk.same ⟨_, _, ⟨_, rfl⟩, note_names.2.1.trans em, fx_did.2.trans et, (note_rs _).trans ers, note_names.1.trans ens, fam_note f' sh', w2, by push_cast; omega⟩
    · walk_at "dl rd"
      exact wk.same ⟨M', S', ⟨_, rfl⟩, em, et, ers, ens, f', w'.mono (by omega), by push_cast; omega⟩
  · rintro ρ μ' ⟨M', S', ⟨x, rfl⟩, em, et, ers, ens, f', w', hm'⟩
    rw [List.length_map] at w' hm'
    walk_at "dl rd"
    exact wkR.same (q μ' M' S' em et f' (w'.mono (by omega)) (by omega))
def sp_among : SpD := fun ds μ Q _ => match ds with
  | [.at p, e] => ∃ xs : List D, μ p = some .pot ∧ Ls μ e xs ∧ xs ≠ [] ∧ xs.length ≤ 100000 ∧ ∀ d ∈ xs, Q d μ
  | _ => False
theorem sc_among : FnScope ["_law_pot_here", "_law_some"] ["_law_pot_here", "_law_some"] (defScope s_among) := ⟨rfl, rfl, rfl, by decide +kernel, rfl, by decide +kernel, by decide +kernel⟩
theorem g_among (T : Txt K mg C_NoCount C_NoGroup C_NoHold C_NoName C_NoOrder C_NoThing C_Store C_StoreError) (d_among : Def0 K mg "_law_among" s_among) (c_take : CalD P w K mg base 1 "_law_take" s_take ["_law_pot_here", "_law_many"] sp_take) : CalD P w K mg base 2 "_law_among" s_among ["_law_pot_here", "_law_some"] sp_among := by
  refine calD d_among sc_among (fun ds μ Q E h => by unfold sp_among at h; split at h <;> first | rfl | exact h.elim) ?_
  intro f cdv A outer s H EX ds μ Q E hg hr tk hp h
  obtain ⟨hu, hu1, hu2⟩ := rooms hr
  refine ⟨_, (jss_one (js_ret (je_ix id_ix (je_name 1) (jf (ks := []) (n := 2) (idx := []) c_take hr (by decide) hg tkN (fun _ _ _ _ _ _ us ws h1 h2 => match us, ws, h1, h2 with | [_, _], [], _, _ => rfl) (jc_p (ja_cons (je_name 0) (ja_cons (je_cb cd_len T.n_len (ja_cons (je_name 1) ja_nil)) ja_nil))))))), ?_⟩
  clear hr hg tk hp hu hu1 hu2
  unfold sp_among at h
  split at h
  case h_2 => exact h.elim
  rename_i p e
  obtain ⟨xs, hp1, he, hne, hl, q⟩ := h
  have h0 : 0 < xs.length := List.length_pos_iff.mpr hne
  walk_at "dl go"
  walk_at "dl rd"
  refine rd_lenL he ?_
  walk_at "dl rd"
  refine ⟨hp1, by omega, by omega, fun k k0 k1 => ?_⟩
  refine rd_ixL he (atI_ok k0 k1) ?_
  exact wkR.same (q _ (List.getElem_mem _))
def sp_ring : SpD := fun ds μ Q _ => match ds with
  | [.at p, .at m] => ∃ (x6 : Option Addr) (M : MS), m = M.m ∧ μ p = some .pot ∧ GSt (fl6 x6) μ M ∧ MOk M ∧ ∀ dds : List Dd, (∀ dd ∈ dds, dd.Sh (M.rs.map (·.1)) M.names) → dds.length ≤ 20 → Q (.lst (dds.map Dd.D2)) μ
  | _ => False
theorem sc_ring : FnScope ["_law_pot_here", "_law_own", "_law_hand", "_law_first", "_law_things", "_law_slot", "_law_way", "_law_found", "_law_piece", "_law_later"] ["_law_pot_here", "_law_own"] (defScope s_ring) := ⟨rfl, rfl, rfl, by decide +kernel, rfl, by decide +kernel, by decide +kernel⟩
theorem g_ring (T : Txt K mg C_NoCount C_NoGroup C_NoHold C_NoName C_NoOrder C_NoThing C_Store C_StoreError) (d_ring : Def0 K mg "_law_ring" s_ring) (c_among : CalD P w K mg base 2 "_law_among" s_among ["_law_pot_here", "_law_some"] sp_among) (c_take : CalD P w K mg base 1 "_law_take" s_take ["_law_pot_here", "_law_many"] sp_take) : CalD P w K mg base 3 "_law_ring" s_ring ["_law_pot_here", "_law_own"] sp_ring := by
  refine calD d_ring sc_ring (fun ds μ Q E h => by unfold sp_ring at h; split at h <;> first | rfl | exact h.elim) ?_
  intro f cdv A outer s H EX ds μ Q E hg hr tk hp h
  obtain ⟨hu, hu1, hu2⟩ := rooms hr
  refine ⟨_, (jss_cons (js_asg (je_tup (ja_cons (jf (ks := []) (n := 2) (idx := []) c_among hr (by decide) hg tkN (fun _ _ _ _ _ _ us ws h1 h2 => match us, ws, h1, h2 with | [_, _], [], _, _ => rfl) (jc_p (ja_cons (je_name 0) (ja_cons (je_dget hu1 (je_name 1) je_str) ja_nil)))) (ja_cons (je_dget hu1 (je_name 1) je_str) ja_nil))) (jg_tup 2 rfl (jgs_cons (jg_name 2 sc_ring.nd) (jgs_cons (jg_name 3 sc_ring.nd) jgs_nil))))
      (jss_cons (js_set 4 (je_listRg2 false T.n_list T.n_range (je_name 3) (je_op (od_add false) (je_op (od_add false) (je_name 3) je_int) (jf (ks := []) (n := 2) (idx := []) c_take hr (by decide) hg tkN (fun _ _ _ _ _ _ us ws h1 h2 => match us, ws, h1, h2 with | [_, _], [], _, _ => rfl) (jc_p (ja_cons (je_name 0) (ja_cons je_int ja_nil)))))) sc_ring.nd)
      (jss_cons (js_par 5 6 (ja_cons (jf (ks := []) (n := 2) (idx := []) c_among hr (by decide) hg tkN (fun _ _ _ _ _ _ us ws h1 h2 => match us, ws, h1, h2 with | [_, _], [], _, _ => rfl) (jc_p (ja_cons (je_name 0) (ja_cons (je_dget hu1 (je_name 1) je_str) ja_nil)))) (ja_cons (jf (ks := []) (n := 2) (idx := []) c_take hr (by decide) hg tkN (fun _ _ _ _ _ _ us ws h1 h2 => match us, ws, h1, h2 with | [_, _], [], _, _ => rfl) (jc_p (ja_cons (je_name 0) (ja_cons je_int ja_nil)))) ja_nil)) sc_ring.nd)
      (jss_cons (js_setLc 7 (own := [("_law_piece", 8)]) (g := gName 8) sc_ring.nd (ji_list (je_name 4)) (blkOk_by (own := [("_law_piece", 8)]) (sc := defScope s_ring) (N := ["_law_pot_here", "_law_own", "_law_hand", "_law_first", "_law_things", "_law_slot", "_law_way", "_law_found", "_law_piece", "_law_later"]) (by decide +kernel)) (ct_name 8) (fun _ _ _ _ _ => (pg_name (i := 8) sc_ring.nd rfl (by first | exact Or.inl rfl | exact Or.inr rfl))) (fun _ _ _ _ _ => jts_nil) (fun _ _ _ _ _ => (je_tup (ja_cons je_str (ja_cons (je_name 2) ja_nil)))) (sw_true rfl rfl rfl (by decide +kernel)))
      (jss_cons (js_for hp (ji_zip T.n_zip (ja_cons (je_name 4) (ja_cons (je_op (od_add false) (je_slice false (je_name 4) (jo_some je_int) jo_none) (je_slice false (je_name 4) jo_none (jo_some je_int))) ja_nil))) (jg_tup 2 rfl (jgs_cons (jg_name 8 sc_ring.nd) (jgs_cons (jg_name 9 sc_ring.nd) jgs_nil))) (jss_one (js_if (jt_cmp (od_eq hu) (je_name 6) je_int) (jss_one (js_expr (je_ml PySem.F.slot_list_append PySem.F.type_list_append md_append (je_name 7) (ja_cons (je_tup (ja_cons je_str (ja_cons (je_name 2) (ja_cons (je_name 8) (ja_cons (je_name 5) (ja_cons (jf (ks := []) (n := 2) (idx := []) c_among hr (by decide) hg tkN (fun _ _ _ _ _ _ us ws h1 h2 => match us, ws, h1, h2 with | [_, _], [], _, _ => rfl) (jc_p (ja_cons (je_name 0) (ja_cons (je_name 4) ja_nil)))) (ja_cons (je_name 9) ja_nil))))))) ja_nil)))) (jss_one (js_if (jt_w (jw_and (jt_cmp (od_eq hu) (je_name 6) je_int) (jw_and1 (jt_cmp (od_ne hu) (je_dget hu1 (je_dget hu1 (je_name 1) je_str) (je_name 2)) (je_lst false ja_nil))))) (jss_one (js_expr (je_ml PySem.F.slot_list_append PySem.F.type_list_append md_append (je_name 7) (ja_cons (je_tup (ja_cons je_str (ja_cons (je_name 2) (ja_cons (jf (ks := []) (n := 2) (idx := []) c_among hr (by decide) hg tkN (fun _ _ _ _ _ _ us ws h1 h2 => match us, ws, h1, h2 with | [_, _], [], _, _ => rfl) (jc_p (ja_cons (je_name 0) (ja_cons (je_dget hu1 (je_dget hu1 (je_name 1) je_str) (je_name 2)) ja_nil)))) (ja_cons (je_name 5) (ja_cons (je_name 8) (ja_cons (je_name 9) ja_nil))))))) ja_nil)))) (jss_one (js_expr (je_ml PySem.F.slot_list_append PySem.F.type_list_append md_append (je_name 7) (ja_cons (je_tup (ja_cons je_str (ja_cons (je_name 2) (ja_cons (je_name 8) (ja_cons (je_name 5) (ja_cons (je_name 9) ja_nil)))))) ja_nil)))))))))
      (jss_one (js_ret (je_op (od_add false) (je_name 7) (je_lc (own := [("_law_piece", 8)]) (g := gName 8) sc_ring.nd (ji_list (je_name 4)) (blkOk_by (own := [("_law_piece", 8)]) (sc := defScope s_ring) (N := ["_law_pot_here", "_law_own", "_law_hand", "_law_first", "_law_things", "_law_slot", "_law_way", "_law_found", "_law_piece", "_law_later"]) (by decide +kernel)) (ct_name 8) (fun _ _ _ _ _ => (pg_name (i := 8) sc_ring.nd rfl (by first | exact Or.inl rfl | exact Or.inr rfl))) (fun _ _ _ _ _ => jts_nil) (fun _ _ _ _ _ => (je_tup (ja_cons je_str (ja_cons (je_name 2) (ja_cons (je_name 8) ja_nil)))))))))))))), ?_⟩
  clear hr hg tk hp hu hu1 hu2
  unfold sp_ring at h
  split at h
  case h_2 => exact h.elim
  rename_i p m
  obtain ⟨x6, M, rfl, hp, s, o, q⟩ := h
  have hl := o.hl
  have nl := o.nl
  have names : ∀ d ∈ (M.rs.map fun q : Str × List Int => q.1).map D.str, ∃ x ∈ M.rs.map (fun q : Str × List Int => q.1), d = .str x := fun d hd => by
    obtain ⟨x, hx, e⟩ := List.mem_map.mp hd
    exact ⟨x, hx, e.symm⟩
  have hne : (M.rs.map fun q : Str × List Int => q.1).map D.str ≠ [] := fun e => o.h0 (List.map_eq_nil_iff.mp (List.map_eq_nil_iff.mp e))
  have hle : ((M.rs.map fun q : Str × List Int => q.1).map D.str).length ≤ 100000 := by rw [List.length_map, List.length_map]; omega
  have m0 := o.m0
  have m1 := o.m1
  walk_at "dl go"
  walk_at "dl rd"
  refine rd_gAt s fl6_hands ?_
  walk_at "dl rd"
  refine ⟨(M.rs.map fun q : Str × List Int => q.1).map .str, hp, rfl, hne, hle, fun d hd => ?_⟩
  obtain ⟨hand, hd2, rfl⟩ := names d hd
  obtain ⟨row, hrow⟩ := mrow_of hd2
  have rl : row.length ≤ 30 := o.rl _ hrow
  walk_at "dl rd"
  refine rd_gAt s ((fl6_ok x6).made M) ?_
  walk_at "dl rd"
  refine ⟨hp, by decide, by decide, fun a a0 a1 => ?_⟩
  walk_at "dl rd"
  refine ⟨_, _, rfl, rfl, ⟨m0, by omega⟩, ⟨by omega, by omega⟩, rd_newF ?_⟩
  rw [show List.map (fun k : Nat => D.int (M.many + ↑k)) (List.range (M.many + 1 + a - M.many).toNat) = ((List.range (M.many + 1 + a - M.many).toNat).map fun k : Nat => M.many + (k : Int)).map D.int from by rw [List.map_map]; rfl]
  have tl : ((List.range (M.many + 1 + a - M.many).toNat).map fun k : Nat => M.many + (k : Int)).length ≤ 5 := by
    rw [List.length_map, List.length_range]
    omega
  have t0 : ((List.range (M.many + 1 + a - M.many).toNat).map fun k : Nat => M.many + (k : Int)) ≠ [] := fun e => by
    have := congrArg List.length e
    rw [List.length_map, List.length_range] at this
    simp at this
    omega
  generalize ((List.range (M.many + 1 + a - M.many).toNat).map fun k : Nat => M.many + (k : Int)) = th at tl t0 ⊢
  walk_at "dl rd"
  refine rd_gAt s fl6_pool ?_
  walk_at "dl rd"
  refine ⟨M.names.map .str, hp, rfl, fun e => o.n0 (List.map_eq_nil_iff.mp e), by rw [List.length_map]; omega, fun d hd => ?_⟩
  obtain ⟨slot, hs, rfl⟩ := List.mem_map.mp hd
  walk_at "dl rd"
  refine ⟨hp, by decide, by decide, fun way w0 w1 => ?_⟩
  refine ⟨_, _, rfl, ?_⟩
  walk_at "dl rd"
  refine lc_mapA (xs := th) (f := .int) (h := fun _ => .tup [.str "make", .str hand]) (by omega) ?_ ?_ ?_
  · exact fun _ _ _ => rfl
  · intro n hn L acc K1 K2 hL k1
    walk_at "dl rd"
    refine rd_brT rfl ?_
    walk_at "dl rd"
    exact k1
  intro L hL
  have pL : p ≠ L := ne_no hp hL
  have mL : M.m ≠ L := ne_no (GSt.m_ s) hL
  rw [show (th.map fun _ => D.tup [.str "make", .str hand]) = (th.map fun _ => Dd.make hand "").map Dd.D2 from by rw [List.map_map]; rfl]
  walk_at "dl rd"
  have th1 : 1 ≤ th.length := List.length_pos_iff.mpr t0
  rw [cut_map, cut_map, show cutL th (some 1) none = th.drop 1 from cutL_drop (i := 1) (by omega), show cutL th none (some 1) = th.take 1 from cutL_take (i := 1) (by omega)]
  have zl : (th.drop 1 ++ th.take 1).length = th.length := by
    rw [List.length_append, List.length_drop, List.length_take]
    omega
  refine rd_addll (by rw [List.length_map, List.length_map, sizeLine_eq]; rw [List.length_append] at zl; omega) ?_
  refine rd_newF ?_
  rw [← List.map_append]
  generalize th.drop 1 ++ th.take 1 = th2 at zl ⊢
  refine ⟨_, _, th.map .int, th2.map .int, rfl, rfl, rfl, by rw [List.length_map, List.length_map]; exact zl.symm, ?_⟩
  have ez : List.zipWith (fun x y => D.tup [x, y]) (th.map D.int) (th2.map D.int) = (List.zip th th2).map fun q => D.tup [.int q.1, .int q.2] := by
    rw [List.zipWith_map, List.zip, List.map_zipWith]
  rw [ez]
  have zl2 : (List.zip th th2).length ≤ 5 := by
    rw [List.length_zip]
    omega
  refine ⟨fun i ρ μ' => ∃ dds : List Dd, (∃ a b, ρ = [some (.at p), some (.at M.m), some (.str hand), some (.int M.many), some (.lst (th.map .int)), some (.str slot), some (.int way), some (.at L), a, b]) ∧ μ' = put μ L (.lst (dds.map Dd.D2)) ∧ dds.length ≤ 5 + i ∧ ∀ dd ∈ dds, dd.Sh (M.rs.map fun q : Str × List Int => q.1) M.names, wk.same ⟨_, ⟨_, _, rfl⟩, rfl, by rw [List.length_map]; omega, fun dd h => ?_⟩, fun _ _ _ _ _ => ⟨rfl, rfl⟩, ?_, ?_⟩
  · obtain ⟨n, _, rfl⟩ := List.mem_map.mp h
    exact ⟨hd2, rfl⟩
  · rintro i d ρ μ' hd ⟨dds, ⟨y1, y2, rfl⟩, rfl, hdl, sh⟩
    have hi := (List.getElem?_eq_some_iff.mp hd).1
    rw [List.length_map] at hi
    obtain ⟨⟨x, y⟩, _, _, rfl⟩ := map_get hd
    have hp2 : put μ L (.lst (dds.map Dd.D2)) p = some .pot := by walk_at "dl mu"
    have sL : GSt (fl6 x6) (put μ L (.lst (dds.map Dd.D2))) M := s.put (Sits.nf s hL)
    have fin : ∀ dd : Dd, dd.Sh (M.rs.map fun q : Str × List Int => q.1) M.names → ∃ dds2 : List Dd, put (put μ L (.lst (dds.map Dd.D2))) L (.lst (dds.map Dd.D2 ++ [dd.D2])) = put μ L (.lst (dds2.map Dd.D2)) ∧ dds2.length ≤ 5 + (i + 1) ∧ ∀ dd ∈ dds2, dd.Sh (M.rs.map fun q : Str × List Int => q.1) M.names := fun dd hdd => ⟨dds ++ [dd], by rw [put_put, List.map_append]; rfl, by rw [List.length_append]; simp; omega, fun z hz => by
      rcases List.mem_append.mp hz with m | m
      · exact sh z m
      · cases List.mem_singleton.mp m
        exact hdd⟩
    have al : (dds.map Dd.D2).length ≤ 1000000 := by rw [List.length_map]; omega
    have tie : ∀ u j v : Int, Dd.Sh (M.rs.map fun q : Str × List Int => q.1) M.names (.fill hand u slot (.keyed j v)) := fun u j v => ⟨hd2, hs⟩
    have plain : ∀ u v : Int, Dd.Sh (M.rs.map fun q : Str × List Int => q.1) M.names (.fill hand u slot (.plain v)) := fun u v => ⟨hd2, hs⟩
    walk_at "dl rd"
    refine rd_brD (fun e0 => ?_) fun e0 => ?_
    · walk_at "dl rd"
      try (refine ⟨⟨_, put_same⟩, ?_⟩; walk_at "dl rd")
      refine ⟨th.map D.int, hp2, rfl, fun e => t0 (List.map_eq_nil_iff.mp e), by rw [List.length_map]; omega, fun d hd => ?_⟩
      obtain ⟨z, hz, rfl⟩ := List.mem_map.mp hd
      walk_at "dl rd"
      obtain ⟨dds2, e1, e2, e3⟩ := fin _ (tie x z y)
      walk_at "dl rd"
      exact wk.same ⟨dds2, ⟨_, _, rfl⟩, e1, e2, e3⟩
    walk_at "dl rd"
    refine rd_brD (fun e1 => ?_) fun e1 => ?_
    · walk_at "dl rd"
      refine rd_gAt sL ((fl6_ok x6).rows M) ?_
      walk_at "dl rd"
      refine rd_gRow sL o.hn hrow ?_
      walk_at "dl rd"
      refine rd_neL (ds := row.map .int) rfl (rss_ints row) ?_
      rw [List.isEmpty_map]
      cases er : row.isEmpty with
      | true =>
        walk_at "dl kb"
        obtain ⟨dds2, e1, e2, e3⟩ := fin _ (plain x y)
        exact wk.same ⟨dds2, ⟨_, _, rfl⟩, e1, e2, e3⟩
      | false =>
        have rne : row ≠ [] := fun e => by rw [e] at er; cases er
        walk_at "dl kb"
        refine rd_gAt sL ((fl6_ok x6).rows M) ?_
        walk_at "dl rd"
        refine rd_gRow sL o.hn hrow ?_
        walk_at "dl rd"
        refine ⟨row.map D.int, hp2, rfl, fun e => rne (List.map_eq_nil_iff.mp e), by rw [List.length_map]; omega, fun d hd => ?_⟩
        obtain ⟨z, hz, rfl⟩ := List.mem_map.mp hd
        walk_at "dl rd"
        obtain ⟨dds2, e1, e2, e3⟩ := fin _ (tie z x y)
        walk_at "dl rd"
        exact wk.same ⟨dds2, ⟨_, _, rfl⟩, e1, e2, e3⟩
    · walk_at "dl kb"
      obtain ⟨dds2, e1, e2, e3⟩ := fin _ (plain x y)
      exact wk.same ⟨dds2, ⟨_, _, rfl⟩, e1, e2, e3⟩
  · rintro ρ μ' ⟨dds, ⟨y1, y2, rfl⟩, rfl, hdl, sh⟩
    rw [List.length_map] at hdl
    walk_at "dl rd"
    refine lc_map (xs := th) (f := .int) (h := fun x => Dd.D2 (.drop hand x)) (by omega) ?_ ?_ ?_
    · exact fun _ _ _ => rfl
    · intro n hn L2 acc K1 K2 hL2 k1
      walk_at "dl rd"
      refine rd_brT rfl ?_
      walk_at "dl rd"
      exact k1
    refine rd_addal put_same (by rw [List.length_map, List.length_map, sizeLine_eq]; omega) ?_
    refine rd_newF ?_
    rw [show (dds.map Dd.D2 ++ th.map fun x => Dd.D2 (.drop hand x)) = (dds ++ th.map fun x => Dd.drop hand x).map Dd.D2 from by rw [List.map_append, List.map_map]; rfl]
    refine wkR.less (less1 hL) (q _ ?_ ?_)
    · intro dd hdd
      rcases List.mem_append.mp hdd with m | m
      · exact sh dd m
      · obtain ⟨n, _, rfl⟩ := List.mem_map.mp m
        exact hd2
    · rw [List.length_append, List.length_map]
      omega
def sp_deed : SpD := fun ds μ Q _ => match ds with
  | [.at p, .at m] => ∃ (x6 : Option Addr) (M : MS), m = M.m ∧ μ p = some .pot ∧ GSt (fl6 x6) μ M ∧ MOk M ∧ ∀ dd : Dd, dd.Sh (M.rs.map (·.1)) M.names → Q dd.D2 μ
  | _ => False
theorem sc_deed : FnScope ["_law_pot_here", "_law_own", "_law_hand", "_law_way", "_law_row", "_law_owner", "_law_one", "_law_other", "_law_slot", "_law_some", "_law_k"] ["_law_pot_here", "_law_own"] (defScope s_deed) := ⟨rfl, rfl, rfl, by decide +kernel, rfl, by decide +kernel, by decide +kernel⟩
theorem g_deed (T : Txt K mg C_NoCount C_NoGroup C_NoHold C_NoName C_NoOrder C_NoThing C_Store C_StoreError) (d_deed : Def0 K mg "_law_deed" s_deed) (c_among : CalD P w K mg base 2 "_law_among" s_among ["_law_pot_here", "_law_some"] sp_among) (c_take : CalD P w K mg base 1 "_law_take" s_take ["_law_pot_here", "_law_many"] sp_take) : CalD P w K mg base 3 "_law_deed" s_deed ["_law_pot_here", "_law_own"] sp_deed := by
  refine calD d_deed sc_deed (fun ds μ Q E h => by unfold sp_deed at h; split at h <;> first | rfl | exact h.elim) ?_
  intro f cdv A outer s H EX ds μ Q E hg hr tk hp h
  obtain ⟨hu, hu1, hu2⟩ := rooms hr
  refine ⟨_, (jss_cons (js_par 2 3 (ja_cons (jf (ks := []) (n := 2) (idx := []) c_among hr (by decide) hg tkN (fun _ _ _ _ _ _ us ws h1 h2 => match us, ws, h1, h2 with | [_, _], [], _, _ => rfl) (jc_p (ja_cons (je_name 0) (ja_cons (je_dget hu1 (je_name 1) je_str) ja_nil)))) (ja_cons (jf (ks := []) (n := 2) (idx := []) c_take hr (by decide) hg tkN (fun _ _ _ _ _ _ us ws h1 h2 => match us, ws, h1, h2 with | [_, _], [], _, _ => rfl) (jc_p (ja_cons (je_name 0) (ja_cons je_int ja_nil)))) ja_nil)) sc_deed.nd)
      (jss_cons (js_set 4 (je_dget hu1 (je_dget hu1 (je_name 1) je_str) (je_name 2)) sc_deed.nd)
      (jss_cons (js_if (jt_w (jw_or (jt_cmp (od_eq hu) (je_name 4) (je_lst false ja_nil)) (jw_or1 (jt_cmp od_lt (je_name 3) je_int)))) (jss_one (js_ret (je_tup (ja_cons je_str (ja_cons (je_name 2) ja_nil))))) jss_nil)
      (jss_cons (js_asg (je_lc (own := [("_law_k", 10)]) (g := gName 10) sc_deed.nd (ji_range1 T.n_range (ja_cons je_int ja_nil)) (blkOk_by (own := [("_law_k", 10)]) (sc := defScope s_deed) (N := ["_law_pot_here", "_law_own", "_law_hand", "_law_way", "_law_row", "_law_owner", "_law_one", "_law_other", "_law_slot", "_law_some", "_law_k"]) (by decide +kernel)) (ct_name 10) (fun _ _ _ _ _ => (pg_name (i := 10) sc_deed.nd rfl (by first | exact Or.inl rfl | exact Or.inr rfl))) (fun _ _ _ _ _ => jts_nil) (fun _ _ _ _ _ => (jf (ks := []) (n := 2) (idx := []) c_among hr (by decide) hg tkN (fun _ _ _ _ _ _ us ws h1 h2 => match us, ws, h1, h2 with | [_, _], [], _, _ => rfl) (jc_p (ja_cons (je_name 0) (ja_cons (je_name 4) ja_nil)))))) (jg_lst 3 rfl (jgs_cons (jg_name 5 sc_deed.nd) (jgs_cons (jg_name 6 sc_deed.nd) (jgs_cons (jg_name 7 sc_deed.nd) jgs_nil)))))
      (jss_cons (js_set 8 (jf (ks := []) (n := 2) (idx := []) c_among hr (by decide) hg tkN (fun _ _ _ _ _ _ us ws h1 h2 => match us, ws, h1, h2 with | [_, _], [], _, _ => rfl) (jc_p (ja_cons (je_name 0) (ja_cons (je_dget hu1 (je_name 1) je_str) ja_nil)))) sc_deed.nd)
      (jss_cons (js_if (jt_cmp od_lt (je_name 3) je_int) (jss_one (js_ret (je_tup (ja_cons je_str (ja_cons (je_name 2) (ja_cons (je_name 5) (ja_cons (je_name 8) (ja_cons (je_name 6) ja_nil)))))))) jss_nil)
      (jss_cons (js_if (jt_cmp od_lt (je_name 3) je_int) (jss_one (js_ret (je_tup (ja_cons je_str (ja_cons (je_name 2) (ja_cons (je_name 5) (ja_cons (je_name 8) (ja_cons (je_name 6) (ja_cons (je_name 7) ja_nil))))))))) jss_nil)
      (jss_cons (js_set 9 (je_lst true (ja_cons (je_tup (ja_cons je_str (ja_cons (je_name 2) (ja_cons (je_name 5) (ja_cons (je_name 8) (ja_cons (je_name 6) ja_nil)))))) (ja_cons (je_tup (ja_cons je_str (ja_cons (je_name 2) (ja_cons (je_name 5) (ja_cons (je_name 8) ja_nil))))) (ja_cons (je_tup (ja_cons je_str (ja_cons (je_name 2) (ja_cons (je_name 5) (ja_cons (je_name 8) ja_nil))))) ja_nil)))) sc_deed.nd)
      (jss_cons (js_expr (je_ml PySem.F.slot_list_append PySem.F.type_list_append md_append (je_name 9) (ja_cons (je_tup (ja_cons je_str (ja_cons (je_name 2) (ja_cons (je_name 6) (ja_cons (jf (ks := []) (n := 2) (idx := []) c_among hr (by decide) hg tkN (fun _ _ _ _ _ _ us ws h1 h2 => match us, ws, h1, h2 with | [_, _], [], _, _ => rfl) (jc_p (ja_cons (je_name 0) (ja_cons (je_dget hu1 (je_name 1) je_str) ja_nil)))) ja_nil))))) ja_nil)))
      (jss_one (js_ret (je_ix id_ix (je_op (od_add false) (je_name 9) (je_op (od_mul false) (je_lst false (ja_cons (je_tup (ja_cons je_str (ja_cons (je_name 2) (ja_cons (je_name 6) ja_nil)))) ja_nil)) je_int)) (je_op od_sub (je_name 3) je_int))))))))))))), ?_⟩
  clear hr hg tk hp hu hu1 hu2
  unfold sp_deed at h
  split at h
  case h_2 => exact h.elim
  rename_i p m
  obtain ⟨x6, M, rfl, hp, s, o, q⟩ := h
  have hl := o.hl
  have nl := o.nl
  have names : ∀ d ∈ (M.rs.map fun q : Str × List Int => q.1).map D.str, ∃ x ∈ M.rs.map (fun q : Str × List Int => q.1), d = .str x := fun d hd => by
    obtain ⟨x, hx, e⟩ := List.mem_map.mp hd
    exact ⟨x, hx, e.symm⟩
  have hne : (M.rs.map fun q : Str × List Int => q.1).map D.str ≠ [] := fun e => o.h0 (List.map_eq_nil_iff.mp (List.map_eq_nil_iff.mp e))
  have hle : ((M.rs.map fun q : Str × List Int => q.1).map D.str).length ≤ 100000 := by rw [List.length_map, List.length_map]; omega
  walk_at "dl go"
  walk_at "dl rd"
  refine rd_gAt s fl6_hands ?_
  walk_at "dl rd"
  refine ⟨(M.rs.map fun q : Str × List Int => q.1).map .str, hp, rfl, hne, hle, fun d hd => ?_⟩
  obtain ⟨hand, hd2, rfl⟩ := names d hd
  obtain ⟨row, hrow⟩ := mrow_of hd2
  have rl : row.length ≤ 30 := o.rl _ hrow
  walk_at "dl rd"
  refine ⟨hp, by decide, by decide, fun way w0 w1 => ?_⟩
  refine ⟨_, _, rfl, ?_⟩
  walk_at "dl rd"
  refine rd_gAt s ((fl6_ok x6).rows M) ?_
  walk_at "dl rd"
  refine rd_gRow s o.hn hrow ?_
  walk_at "dl rd"
  refine rd_neL (ds := row.map .int) rfl (rss_ints row) ?_
  rw [List.isEmpty_map]
  have mk : wkR Q (.tup [.str "make", .str hand]) μ := wkR.same (q (.make hand "") ⟨hd2, rfl⟩)
  cases er : row.isEmpty with
  | true =>
    walk_at "dl kb"
    exact mk
  | false =>
    have rne : row ≠ [] := fun e => by rw [e] at er; cases er
    walk_at "dl kb"
    refine rd_brD (fun h3 => ?_) fun h3 => ?_
    · walk_at "dl rd"
      exact mk
    walk_at "dl rd"
    refine lc_any (fun n : Int => .int n) (fun _ => True) (by simp) (fun _ _ _ => trivial) ?_ ?_
    · intro d hd L acc K1 K2 hL k1
      obtain ⟨i, hi, rfl⟩ := List.mem_map.mp hd
      have hp2 : put μ L (.lst acc) p = some .pot := by walk_at "dl mu"
      walk_at "dl rd"
      refine rd_brT rfl ?_
      walk_at "dl rd"
      refine ⟨row.map .int, hp2, rfl, fun e => rne (List.map_eq_nil_iff.mp e), by rw [List.length_map]; omega, fun d hd => ?_⟩
      obtain ⟨x, hx, rfl⟩ := List.mem_map.mp hd
      exact k1 x trivial
    · intro xs hxs _
      rw [List.length_map, List.length_range] at hxs
      obtain ⟨ow, one, other, rfl⟩ : ∃ a b c, xs = [a, b, c] := by
        match xs, hxs with
        | [a, b, c], _ => exact ⟨a, b, c, rfl⟩
      simp only [List.map_cons, List.map_nil]
      refine rd_glst rfl ?_
      walk_at "dl rd"
      refine rd_gAt s fl6_pool ?_
      walk_at "dl rd"
      refine ⟨M.names.map .str, hp, rfl, fun e => o.n0 (List.map_eq_nil_iff.mp e), by rw [List.length_map]; omega, fun d hd => ?_⟩
      obtain ⟨slot, hs, rfl⟩ := List.mem_map.mp hd
      walk_at "dl rd"
      refine rd_brD (fun h6 => ?_) fun h6 => ?_
      · walk_at "dl rd"
        exact wkR.same (q (.fill hand ow slot (.plain one)) ⟨hd2, hs⟩)
      walk_at "dl rd"
      refine rd_brD (fun h8 => ?_) fun h8 => ?_
      · walk_at "dl rd"
        exact wkR.same (q (.fill hand ow slot (.keyed one other)) ⟨hd2, hs⟩)
      walk_at "dl rd"
      refine rd_newT fun L hL => ?_
      have pL : p ≠ L := ne_no hp hL
      have mL : M.m ≠ L := ne_no (GSt.m_ s) hL
      have sL : GSt (fl6 x6) (put μ L (.lst [.tup [.str "show", .str hand, .int ow, .str slot, .int one], .tup [.str "empty", .str hand, .int ow, .str slot], .tup [.str "take", .str hand, .int ow, .str slot]])) M := s.put (Sits.nf s hL)
      walk_at "dl rd"
      refine rd_gAt sL fl6_hands ?_
      walk_at "dl rd"
      refine ⟨(M.rs.map fun q : Str × List Int => q.1).map .str, by walk_at "dl mu", rfl, hne, hle, fun d hd => ?_⟩
      obtain ⟨to, ht, rfl⟩ := names d hd
      walk_at "dl rd"
      refine rd_append put_same (by simp) ?_
      rw [put_put]
      walk_at "dl rd"
      refine rd_mull ⟨by decide, by decide, by rw [sizeLine_eq]; simp⟩ ?_
      refine rd_newF ?_
      refine rd_addal put_same (by rw [sizeLine_eq]; simp [List.length_flatten]) ?_
      refine rd_newF ?_
      walk_at "dl rd"
      have bk : ∀ dd : Dd, dd.Sh (M.rs.map fun q : Str × List Int => q.1) M.names → wkR Q dd.D2 (put μ L (.lst ([.tup [.str "show", .str hand, .int ow, .str slot, .int one], .tup [.str "empty", .str hand, .int ow, .str slot], .tup [.str "take", .str hand, .int ow, .str slot]] ++ [.tup [.str "give", .str hand, .int one, .str to]]))) := fun dd hdd => wkR.less (less1 hL) (q dd hdd)
      obtain e | e | e | e | e | e | e | e : way = 8 ∨ way = 9 ∨ way = 10 ∨ way = 11 ∨ way = 12 ∨ way = 13 ∨ way = 14 ∨ way = 15 := by omega
      · subst e
        exact rd_ixl rfl (bk (.fill hand ow slot (.weak one)) ⟨hd2, hs⟩)
      · subst e
        exact rd_ixl rfl (bk (.empty hand ow slot) ⟨hd2, hs⟩)
      · subst e
        exact rd_ixl rfl (bk (.take hand ow slot) ⟨hd2, hs⟩)
      · subst e
        exact rd_ixl rfl (bk (.give hand one to) ⟨hd2, ht⟩)
      all_goals
        subst e
        exact rd_ixl rfl (bk (.drop hand one) hd2)
def sp_next : SpD := fun ds μ Q _ => match ds with
  | [.at p, .at m] => ∃ (x6 : Option Addr) (M : MS), m = M.m ∧ μ p = some .pot ∧ GSt (fl6 x6) μ M ∧ MOk M ∧ ∀ dds : List Dd, (∀ dd ∈ dds, dd.Sh (M.rs.map (·.1)) M.names) → dds.length ≤ 20 → Q (.lst (dds.map Dd.D2)) μ
  | _ => False
theorem sc_next : FnScope ["_law_pot_here", "_law_own"] ["_law_pot_here", "_law_own"] (defScope s_next) := ⟨rfl, rfl, rfl, by decide +kernel, rfl, by decide +kernel, by decide +kernel⟩
theorem g_next (T : Txt K mg C_NoCount C_NoGroup C_NoHold C_NoName C_NoOrder C_NoThing C_Store C_StoreError) (d_next : Def0 K mg "_law_next" s_next) (c_take : CalD P w K mg base 1 "_law_take" s_take ["_law_pot_here", "_law_many"] sp_take) (c_ring : CalD P w K mg base 3 "_law_ring" s_ring ["_law_pot_here", "_law_own"] sp_ring) (c_deed : CalD P w K mg base 3 "_law_deed" s_deed ["_law_pot_here", "_law_own"] sp_deed) : CalD P w K mg base 4 "_law_next" s_next ["_law_pot_here", "_law_own"] sp_next := by
  refine calD d_next sc_next (fun ds μ Q E h => by unfold sp_next at h; split at h <;> first | rfl | exact h.elim) ?_
  intro f cdv A outer s H EX ds μ Q E hg hr tk hp h
  obtain ⟨hu, hu1, hu2⟩ := rooms hr
  refine ⟨_, (jss_one (js_ret (je_if (jt_cmp (od_eq hu) (jf (ks := []) (n := 2) (idx := []) c_take hr (by decide) hg tkN (fun _ _ _ _ _ _ us ws h1 h2 => match us, ws, h1, h2 with | [_, _], [], _, _ => rfl) (jc_p (ja_cons (je_name 0) (ja_cons je_int ja_nil)))) je_int) (jf (ks := []) (n := 2) (idx := []) c_ring hr (by decide) hg tkN (fun _ _ _ _ _ _ us ws h1 h2 => match us, ws, h1, h2 with | [_, _], [], _, _ => rfl) (jc_p (ja_cons (je_name 0) (ja_cons (je_name 1) ja_nil)))) (je_lst false (ja_cons (jf (ks := []) (n := 2) (idx := []) c_deed hr (by decide) hg tkN (fun _ _ _ _ _ _ us ws h1 h2 => match us, ws, h1, h2 with | [_, _], [], _, _ => rfl) (jc_p (ja_cons (je_name 0) (ja_cons (je_name 1) ja_nil)))) ja_nil))))), ?_⟩
  clear hr hg tk hp hu hu1 hu2
  unfold sp_next at h
  split at h
  case h_2 => exact h.elim
  rename_i p m
  obtain ⟨x6, M, rfl, hp, s, o, q⟩ := h
  walk_at "dl go"
  walk_at "dl rd"
  refine ⟨hp, by decide, by decide, fun way w0 w1 => ?_⟩
  walk_at "dl rd"
  refine rd_brD (fun h0 => ?_) fun h0 => ?_
  · walk_at "dl rd"
    exact ⟨x6, M, rfl, hp, s, o, fun dds h1 h2 => wkR.same (q dds h1 h2)⟩
  · walk_at "dl rd"
    refine ⟨x6, M, rfl, hp, s, o, fun dd h1 => ?_⟩
    walk_at "dl rd"
    exact wkR.same (q [dd] (fun d hd => by rw [List.mem_singleton.mp hd]; exact h1) (by simp))
def sp_holds : SpD := fun ds μ Q _ => match ds with
  | [.at m, .int n] => ∃ (x6 : Option Addr) (M : MS), m = M.m ∧ GSt (fl6 x6) μ M ∧ MOk M ∧ Q (.lst ((M.hs n).map hoD)) μ
  | _ => False
theorem sc_holds : FnScope ["_law_own", "_law_piece", "_law_found", "_law_row", "_law_owner", "_law_slots", "_law_one"] ["_law_own", "_law_piece"] (defScope s_holds) := ⟨rfl, rfl, rfl, by decide +kernel, rfl, by decide +kernel, by decide +kernel⟩
theorem g_holds (T : Txt K mg C_NoCount C_NoGroup C_NoHold C_NoName C_NoOrder C_NoThing C_Store C_StoreError) (d_holds : Def0 K mg "_law_holds" s_holds)  : CalD P w K mg base 1 "_law_holds" s_holds ["_law_own", "_law_piece"] sp_holds := by
  refine calD d_holds sc_holds (fun ds μ Q E h => by unfold sp_holds at h; split at h <;> first | rfl | exact h.elim) ?_
  intro f cdv A outer s H EX ds μ Q E hg hr tk hp h
  obtain ⟨hu, hu1, hu2⟩ := rooms hr
  refine ⟨_, (jss_cons (js_set 2 (je_lst true ja_nil) sc_holds.nd)
      (jss_cons (js_lock (js_for hp (ji_vals (je_dget hu1 (je_name 0) je_str)) (jg_name 3 sc_holds.nd) (jss_one (js_expr (je_ml PySem.F.slot_list_extend PySem.F.type_list_extend md_extend (je_name 2) (ja_cons (je_lc (own := [("_law_one", 6)]) (g := gName 6) sc_holds.nd (ji_list (je_name 3)) (blkOk_by (own := [("_law_one", 6)]) (sc := defScope s_holds) (N := ["_law_own", "_law_piece", "_law_found", "_law_row", "_law_owner", "_law_slots", "_law_one"]) (by decide +kernel)) (ct_name 6) (fun _ _ _ _ _ => (pg_name (i := 6) sc_holds.nd rfl (by first | exact Or.inl rfl | exact Or.inr rfl))) (fun _ _ _ _ _ => (jts_one (jt_cmp (od_eq hu) (je_name 6) (je_name 1)))) (fun _ _ _ _ _ => (je_tup ja_nil))) ja_nil))))))
      (jss_cons (js_lock (js_for hp (ji_items (je_dget hu1 (je_name 0) je_str)) (jg_tup 2 rfl (jgs_cons (jg_name 4 sc_holds.nd) (jgs_cons (jg_name 5 sc_holds.nd) jgs_nil))) (jss_one (js_lock (js_for hp (ji_vals (je_name 5)) (jg_name 3 sc_holds.nd) (jss_cons (js_if (jt_w (jw_and (jt_cmp (od_eq hu) (je_ix id_ix (je_name 3) je_int) je_str) (jw_and1 (jt_cmp (od_eq hu) (je_ix id_ix (je_name 3) je_int) (je_name 1))))) (jss_one (js_expr (je_ml PySem.F.slot_list_append PySem.F.type_list_append md_append (je_name 2) (ja_cons (je_tup (ja_cons (je_name 4) ja_nil)) ja_nil)))) jss_nil)
      (jss_one (js_if (jt_w (jw_and (jt_cmp (od_eq hu) (je_ix id_ix (je_name 3) je_int) je_str) (jw_and1 (jt_cmp (od_eq hu) (je_ix id_ix (je_name 3) je_int) (je_name 1))))) (jss_one (js_expr (je_ml PySem.F.slot_list_append PySem.F.type_list_append md_append (je_name 2) (ja_cons (je_tupOf T.n_tuple (je_sortSet false T.n_sorted T.n_set (je_lst false (ja_cons (je_name 4) (ja_cons (je_ix id_ix (je_name 3) je_int) ja_nil))))) ja_nil)))) jss_nil))))))))
      (jss_one (js_ret (je_cb (cd_sortedU false hu) T.n_sorted (ja_cons (je_name 2) ja_nil))))))), ?_⟩
  clear hr hg tk hp hu hu1 hu2
  unfold sp_holds at h
  split at h
  case h_2 => exact h.elim
  rename_i m n
  obtain ⟨x6, M, rfl, s, o, q⟩ := h
  have tn := o.tn
  have tl := o.tl
  have hl := o.hl
  have nd := GSt.nd_ s
  simp only [List.nodup_cons, List.mem_cons, not_or] at nd
  have mmr : M.m ≠ M.mr := nd.1.1
  have mms : M.m ≠ M.ms := nd.1.2.1
  have mrs : M.mr ≠ M.ms := nd.2.1.1
  have lf : ∀ l : List (Int × List Int), (holdsFor l n).length ≤ l.length := fun l => by
    unfold holdsFor
    rw [List.length_map]
    exact List.length_filter_le _ _
  walk_at "dl go"
  walk_at "dl rd"
  refine rd_newT fun L hL => ?_
  walk_at "dl rd"
  have rL : M.mr ≠ L := ne_no (GSt.mr_ s) hL
  have mL : M.m ≠ L := ne_no (GSt.m_ s) hL
  have sL : M.ms ≠ L := ne_no (GSt.ms_ s) hL
  have aL : ∀ x ∈ M.ts, x.a ≠ L := fun x hx => ne_no (GSt.sl_ s hx) hL
  have aR : ∀ x ∈ M.ts, x.a ≠ M.mr := fun x hx e => nd.2.1.2 (e ▸ List.mem_map.mpr ⟨x, hx, rfl⟩)
  have aS : ∀ x ∈ M.ts, x.a ≠ M.ms := fun x hx e => nd.2.2.1 (e ▸ List.mem_map.mpr ⟨x, hx, rfl⟩)
  have aM : ∀ x ∈ M.ts, x.a ≠ M.m := fun x hx e => nd.1.2.2 (e ▸ List.mem_map.mpr ⟨x, hx, rfl⟩)
  refine rd_lockS (p := M.mr) (kvs := M.rs.map rwD) (by rw [put_ne rL]; exact GSt.mr_ s) fun DD2 ν od ks zν oth hnx _ => ?_
  have vm : ∀ μ' : Mu, (∀ b, b ≠ L → μ' b = ν b) → μ' M.m = some (.dK ((fl6 x6) M)) := fun μ' h => by rw [h _ mL, oth _ mmr, put_ne mL]; exact GSt.m_ s
  walk_at "dl go"
  refine ⟨_, .inl ⟨(fl6 x6) M, .inr "rows", .inl (vm ν fun _ _ => rfl), rfl, ((fl6_ok x6).rows M).symm⟩, ?_⟩
  refine ⟨M.mr, od, ks, _, rfl, zν, ?_⟩
  rw [show (M.rs.map rwD).map (fun q => q.2) = M.rs.map fun q => D.lst (q.2.map .int) from by rw [List.map_map]; rfl]
  refine ⟨fun i ρ μ' => (∃ a b c d, ρ = [some (.at M.m), some (.int n), some (.at L), a, b, c, d]) ∧ μ' L = some (.lst ((holdsFor ((M.rs.take i).flatMap fun q => q.2.map fun n => (n, [])) n).map hoD)) ∧ ∀ b, b ≠ L → μ' b = ν b, wk.same ⟨⟨_, _, _, _, rfl⟩, by rw [oth _ (Ne.symm rL)]; exact put_same, fun _ _ => rfl⟩, fun i ρ μ' _ h => by rw [h.2.2 _ rL]; exact zν, ?_, ?_⟩
  · rintro i d ρ μ' hd ⟨⟨a, b, c, e, rfl⟩, hL2, k⟩
    obtain ⟨⟨nm, row⟩, hrow, ei, rfl⟩ := map_get hd
    have rl : row.length ≤ 30 := o.rl _ hrow
    have lenA := lf ((M.rs.take i).flatMap fun q => q.2.map fun n => (n, []))
    have lenB := rows_len (l := M.rs.take i) fun q hq => o.rl q (List.mem_of_mem_take hq)
    rw [List.length_take] at lenB
    walk_at "dl rd"
    refine lc_pure (xs := row) (f := .int) (h := fun _ => .tup []) (p := fun m => decide (m = n)) (by omega) ?_ ?_ ?_
    · exact fun _ _ _ => rfl
    · intro m hm L2 acc K1 K2 hL3 k1 k2
      walk_at "dl rd"
      refine rd_brD (fun e => ?_) fun e => ?_
      · walk_at "dl rd"
        exact k1 (decide_eq_true e)
      · exact k2 (decide_eq_false e)
    rw [hold_row]
    refine rd_extl hL2 (by rw [List.length_map, List.length_map, holdsFor_row, List.length_replicate]; have := List.count_le_length (a := n) (l := row); omega) ?_
    walk_at "dl rd"
    refine wk.same ⟨⟨_, _, _, _, rfl⟩, ?_, fun b hb => by rw [put_ne hb, k b hb]⟩
    rw [put_same, List.take_succ, ei, Option.toList_some, List.flatMap_append, List.flatMap_singleton, holdsFor_app, List.map_append]
  rintro ρ μ1 ⟨⟨a, b, c, e, rfl⟩, hL1, k1⟩
  rw [List.length_map, List.take_length] at hL1
  refine hnx _ _ (by rw [k1 _ rL]; exact zν) fun μ2 h2 h2r => ?_
  have g2 : ∀ b, b ≠ L → μ2 b = μ b := fun b hb => by
    by_cases e : b = M.mr
    · rw [e, h2r, put_ne rL]
    · rw [h2 b e, k1 b hb, oth b e, put_ne hb]
  have g2L : μ2 L = some (.lst ((holdsFor (M.rs.flatMap fun q : Str × List Int => q.2.map fun n => (n, [])) n).map hoD)) := by rw [h2 _ (Ne.symm rL)]; exact hL1
  clear hnx oth zν vm k1 hL1 h2 h2r
  generalize eP : (M.rs.flatMap fun q : Str × List Int => q.2.map fun n => (n, ([] : List Int))) = P0 at g2L
  have lenP : P0.length ≤ 180 := by
    rw [← eP]
    have := rows_len (l := M.rs) (fun q hq => o.rl q hq)
    omega
  refine rd_lockS (p := M.ms) (kvs := M.dS) (by rw [g2 _ sL]; exact GSt.ms_ s) fun DD3 ν3 od3 ks3 z3 oth3 hnx3 _ => ?_
  have w3 : ∀ μ' : Mu, (∀ b, b ≠ L → μ' b = ν3 b) → μ' M.m = some (.dK ((fl6 x6) M)) ∧ ∀ x ∈ M.ts, μ' x.a = some (.dK (slK x.sl)) := fun μ' h => ⟨by rw [h _ mL, oth3 _ mms, g2 _ mL]; exact GSt.m_ s, fun x hx => by rw [h _ (aL x hx), oth3 _ (aS x hx), g2 _ (aL x hx)]; exact GSt.sl_ s hx⟩
  walk_at "dl go"
  refine ⟨_, .inl ⟨(fl6 x6) M, .inr "slots", .inl (w3 ν3 fun _ _ => rfl).1, rfl, ((fl6_ok x6).slots M).symm⟩, ?_⟩
  refine ⟨M.ms, od3, ks3, _, rfl, z3, ?_⟩
  rw [show M.dS.map (fun q => D.tup [Dk q.1, q.2]) = M.ts.map fun x => D.tup [.int x.n, .at x.a] from by unfold MS.dS; rw [List.map_map]; rfl]
  refine ⟨fun i ρ μ' => (∃ a b c d, ρ = [some (.at M.m), some (.int n), some (.at L), a, b, c, d]) ∧ μ' L = some (.lst ((holdsFor (P0 ++ (M.ts.take i).flatMap fun o => o.sl.flatMap fun q => q.2.holds o.n) n).map hoD)) ∧ ∀ b, b ≠ L → μ' b = ν3 b, wk.same ⟨⟨_, _, _, _, rfl⟩, ?_, fun _ _ => rfl⟩, fun i ρ μ' _ h => by rw [h.2.2 _ sL]; exact z3, ?_, ?_⟩
  · rw [oth3 _ (Ne.symm sL), g2L, List.take_zero, List.flatMap_nil, List.append_nil]
  · rintro i d ρ μ' hd ⟨⟨a, b, c, e, rfl⟩, hL2, k⟩
    obtain ⟨y, hy, ey, rfl⟩ := map_get hd
    generalize eA : (P0 ++ (M.ts.take i).flatMap fun o => o.sl.flatMap fun q => q.2.holds o.n) = A at hL2
    have l8 := o.sl y hy
    have lenA : A.length ≤ 500 := by
      rw [← eA, List.length_append]
      have lenB := slots_len (l := M.ts.take i) (fun x hx => o.sl x (List.mem_of_mem_take hx))
      rw [List.length_take] at lenB
      omega
    walk_at "dl rd"
    refine rd_lockS (p := y.a) (kvs := slK y.sl) ((w3 μ' k).2 y hy) fun DD4 ν4 od4 ks4 z4 oth4 hnx4 _ => ?_
    walk_at "dl go"
    refine ⟨y.a, od4, ks4, _, rfl, z4, ?_⟩
    rw [show (slK y.sl).map (fun q => q.2) = y.sl.map fun q => q.2.D from by unfold slK; rw [List.map_map]; rfl]
    refine ⟨fun j ρ μ' => (∃ b c, ρ = [some (.at M.m), some (.int n), some (.at L), b, some (.int y.n), some (.at y.a), c]) ∧ μ' L = some (.lst ((holdsFor (A ++ (y.sl.take j).flatMap fun q => q.2.holds y.n) n).map hoD)) ∧ ∀ b, b ≠ L → μ' b = ν4 b, wk.same ⟨⟨_, _, rfl⟩, ?_, fun _ _ => rfl⟩, fun j ρ μ' _ h => by rw [h.2.2 _ (aL y hy)]; exact z4, ?_, ?_⟩
    · rw [oth4 _ (Ne.symm (aL y hy)), hL2, List.take_zero, List.flatMap_nil, List.append_nil]
    · rintro j d ρ μ5 hd ⟨⟨b, c, rfl⟩, hL5, k5⟩
      obtain ⟨⟨sk, r⟩, hr, er, rfl⟩ := map_get hd
      have lenC := slot_len (o := y.n) (y.sl.take j)
      rw [List.length_take] at lenC
      generalize eC : A ++ (y.sl.take j).flatMap (fun q => q.2.holds y.n) = C at hL5
      have lC : (holdsFor C n).length ≤ 1000 := by
        refine Nat.le_trans (lf C) ?_
        rw [← eC, List.length_append]
        omega
      have eN : A ++ (y.sl.take (j + 1)).flatMap (fun q => q.2.holds y.n) = C ++ r.holds y.n := by
        rw [List.take_succ, er, Option.toList_some, List.flatMap_append, List.flatMap_singleton, ← List.append_assoc, eC]
      have lm : ((holdsFor C n).map hoD).length ≤ 1000000 := by rw [List.length_map]; omega
      cases r with
      | plain v =>
        unfold Rw.D
        walk_at "dl kb"
        refine rd_brD (fun e => ?_) fun e => ?_
        · subst e
          walk_at "dl kb"
          refine wk.same ⟨⟨_, _, rfl⟩, ?_, fun b hb => by rw [put_ne hb, k5 b hb]⟩
          rw [put_same, eN, holdsFor_app, show Rw.holds y.n (.plain v) = [(v, [y.n])] from rfl, holdsFor_one, if_pos rfl, List.map_append]
          rfl
        · walk_at "dl kb"
          refine wk.same ⟨⟨_, _, rfl⟩, ?_, k5⟩
          rw [hL5, eN, holdsFor_app, show Rw.holds y.n (.plain v) = [(v, [y.n])] from rfl, holdsFor_one, if_neg e, List.append_nil]
      | weak v =>
        unfold Rw.D
        walk_at "dl kb"
        refine wk.same ⟨⟨_, _, rfl⟩, ?_, k5⟩
        rw [hL5, eN, holdsFor_app, show holdsFor (Rw.holds y.n (.weak v)) n = [] from rfl, List.append_nil]
      | keyed k2 v =>
        unfold Rw.D
        walk_at "dl kb"
        refine rd_brD (fun e => ?_) fun e => ?_
        · subst e
          walk_at "dl kb"
          refine ⟨[y.n, k2], rfl, by simp, fun out ho hm => ?_⟩
          cases joint_of ho hm
          refine rd_newF ?_
          refine ⟨_, rfl, ?_⟩
          refine rd_append hL5 lm ?_
          walk_at "dl kb"
          refine wk.same ⟨⟨_, _, rfl⟩, ?_, fun b hb => by rw [put_ne hb, k5 b hb]⟩
          rw [put_same, eN, holdsFor_app, show Rw.holds y.n (.keyed k2 v) = [(v, joint y.n k2)] from rfl, holdsFor_one, if_pos rfl, List.map_append]
          rfl
        · walk_at "dl kb"
          refine wk.same ⟨⟨_, _, rfl⟩, ?_, k5⟩
          rw [hL5, eN, holdsFor_app, show Rw.holds y.n (.keyed k2 v) = [(v, joint y.n k2)] from rfl, holdsFor_one, if_neg e, List.append_nil]
    · rintro ρ μ5 ⟨⟨b, c, rfl⟩, hL5, k5⟩
      rw [List.length_map, List.take_length] at hL5
      refine hnx4 _ _ (by rw [k5 _ (aL y hy)]; exact z4) fun μ6 h6 h6a => ?_
      refine wk.same ⟨⟨_, _, _, _, rfl⟩, ?_, fun b hb => ?_⟩
      · rw [h6 _ (Ne.symm (aL y hy)), hL5, List.take_succ, ey, Option.toList_some, List.flatMap_append, List.flatMap_singleton, ← List.append_assoc, eA]
      · by_cases e : b = y.a
        · rw [e, h6a, k _ (aL y hy)]
        · rw [h6 b e, k5 b hb, oth4 b e, k b hb]
  · rintro ρ μ5 ⟨⟨a, b, c, e, rfl⟩, hL5, k5⟩
    rw [List.length_map, List.take_length, ← eP] at hL5
    refine hnx3 _ _ (by rw [k5 _ sL]; exact z3) fun μ6 h6 h6a => ?_
    walk_at "dl rd"
    refine rd_sortedHoS (hs := holdsFor M.hps n) (d := .at L) (.inl (by rw [h6 _ (Ne.symm sL)]; exact hL5)) (by have := Nat.le_trans (lf M.hps) (hps_len o); omega) ?_
    refine rd_newF ?_
    refine wkR.less (fun b => ?_) q
    by_cases e1 : b = L
    · exact .inl (by rw [e1]; exact hL)
    · refine .inr ?_
      by_cases e2 : b = M.ms
      · rw [e2, h6a, g2 _ sL]
      · rw [h6 b e2, k5 b e1, oth3 b e2, g2 b e1]
def sp_is_own_closed : SpD := fun ds μ Q _ => match ds with
  | [.at m, .lst gs, .int n] => ∃ (M : MS) (hd : Addr) (xs : List Int), m = M.m ∧ gs = xs.map .int ∧ GSt (fl6 (some hd)) μ M ∧ MOk M ∧ μ hd = some (.dK (hdK M)) ∧ n ∈ M.ts.map MT.n ∧ (∀ n ∈ M.ts.map MT.n, ∀ h ∈ M.hs n, h.length ≤ 100) ∧ Q (.bl (keptB M.hs xs n)) μ
  | _ => False
theorem sc_is_own_closed : FnScope ["_law_own", "_law_crew", "_law_piece", "_law_hold", "_law_holder"] ["_law_own", "_law_crew", "_law_piece"] (defScope s_is_own_closed) := ⟨rfl, rfl, rfl, by decide +kernel, rfl, by decide +kernel, by decide +kernel⟩
theorem g_is_own_closed (T : Txt K mg C_NoCount C_NoGroup C_NoHold C_NoName C_NoOrder C_NoThing C_Store C_StoreError) (d_is_own_closed : Def0 K mg "_law_is_own_closed" s_is_own_closed)  : CalD P w K mg base 1 "_law_is_own_closed" s_is_own_closed ["_law_own", "_law_crew", "_law_piece"] sp_is_own_closed := by
  refine calD d_is_own_closed sc_is_own_closed (fun ds μ Q E h => by unfold sp_is_own_closed at h; split at h <;> first | rfl | exact h.elim) ?_
  intro f cdv A outer s H EX ds μ Q E hg hr tk hp h
  obtain ⟨hu, hu1, hu2⟩ := rooms hr
  refine ⟨_, (jss_one (js_ret (je_cb (cd_all rfl) T.n_all (ja_cons (je_lc (own := [("_law_hold", 3)]) (g := gName 3) sc_is_own_closed.nd (ji_list (je_dget hu1 (je_dget hu1 (je_name 0) je_str) (je_name 2))) (blkOk_by (own := [("_law_hold", 3)]) (sc := defScope s_is_own_closed) (N := ["_law_own", "_law_crew", "_law_piece", "_law_hold", "_law_holder"]) (by decide +kernel)) (ct_name 3) (fun _ _ _ _ _ => (pg_name (i := 3) sc_is_own_closed.nd rfl (by first | exact Or.inl rfl | exact Or.inr rfl))) (fun _ _ _ _ _ => jts_nil) (fun _ _ _ _ _ => (je_cb (cd_any rfl) T.n_any (ja_cons (je_lc (own := [("_law_holder", 4)]) (g := gName 4) sc_is_own_closed.nd (ji_tup (je_name 3)) (blkOk_by (own := [("_law_holder", 4)]) (N := ["_law_own", "_law_crew", "_law_piece", "_law_hold", "_law_holder"]) (by rfl)) (ct_name 4) (fun _ _ _ _ _ => (pg_name (i := 4) sc_is_own_closed.nd rfl (by first | exact Or.inl rfl | exact Or.inr rfl))) (fun _ _ _ _ _ => jts_nil) (fun _ _ _ _ _ => (je_cmp (od_in hu) (je_name 4) (je_name 1)))) ja_nil)))) ja_nil)))), ?_⟩
  clear hr hg tk hp hu hu1 hu2
  unfold sp_is_own_closed at h
  split at h
  case h_2 => exact h.elim
  rename_i m gs n
  obtain ⟨M, hd, xs, rfl, rfl, s, o, hh, hn, hsm, q⟩ := h
  have h5 := hs5 o n
  walk_at "dl go"
  walk_at "dl rd"
  refine rd_gAt s fl6_holds ?_
  walk_at "dl rd"
  refine rd_hdK o hh hn ?_
  refine ⟨_, rfl, ?_⟩
  refine lc_map (xs := M.hs n) (f := hoD) (h := fun h => .bl (h.any fun m => decide (m ∈ xs))) (by omega) ?_ ?_ ?_
  · exact fun _ _ _ => rfl
  · intro h hh2 L acc K1 K2 hL k1
    walk_at "dl rd"
    refine rd_brT rfl ?_
    walk_at "dl rd"
    refine ⟨_, rfl, ?_⟩
    refine lc_map (xs := h) (f := .int) (h := fun m => .bl (decide (m ∈ xs))) (by have := hsm n hn h hh2; omega) ?_ ?_ ?_
    · exact fun _ _ _ => trivial
    · intro m hm L3 acc3 K3 K4 hL3 k3
      walk_at "dl rd"
      refine rd_brT rfl ?_
      walk_at "dl rd"
      refine rd_inInts (xs := xs) (n := false) rfl ?_
      exact k3
    walk_at "dl rd"
    refine ⟨_, h.map fun m => decide (m ∈ xs), rfl, by rw [List.map_map]; rfl, ?_⟩
    rw [List.any_map]
    exact k1
  refine ⟨_, (M.hs n).map fun h => h.any fun m => decide (m ∈ xs), rfl, by rw [List.map_map]; rfl, ?_⟩
  rw [List.all_map]
  exact wkR.same q
def sp_left : SpD := fun ds μ Q _ => match ds with
  | [.at m, .lst gs] => ∃ (M : MS) (hd : Addr) (xs : List Int), m = M.m ∧ gs = xs.map .int ∧ GSt (fl6 (some hd)) μ M ∧ MOk M ∧ μ hd = some (.dK (hdK M)) ∧ xs.length ≤ 40 ∧ (∀ x ∈ xs, x ∈ M.ts.map MT.n) ∧ (∀ n ∈ M.ts.map MT.n, ∀ h ∈ M.hs n, h.length ≤ 100 ∧ ∀ x ∈ h, x ∈ M.ts.map MT.n) ∧ ∀ zs : List Int, zs.Sublist xs → (xs = M.ts.map MT.n → zs = (M.ts.map MT.n).filter fun n => !canB (M.ts.map MT.n) M.hs n) → Q (.lst (zs.map .int)) μ
  | _ => False
theorem sc_left : FnScope ["_law_own", "_law_some", "_law_left_here", "_law_struck", "_law_piece"] ["_law_own", "_law_some"] (defScope s_left) := ⟨rfl, rfl, rfl, by decide +kernel, rfl, by decide +kernel, by decide +kernel⟩
theorem g_left (T : Txt K mg C_NoCount C_NoGroup C_NoHold C_NoName C_NoOrder C_NoThing C_Store C_StoreError) (d_left : Def0 K mg "_law_left" s_left) (c_is_own_closed : CalD P w K mg base 1 "_law_is_own_closed" s_is_own_closed ["_law_own", "_law_crew", "_law_piece"] sp_is_own_closed) : CalD P w K mg base 2 "_law_left" s_left ["_law_own", "_law_some"] sp_left := by
  refine calD d_left sc_left (fun ds μ Q E h => by unfold sp_left at h; split at h <;> first | rfl | exact h.elim) ?_
  intro f cdv A outer s H EX ds μ Q E hg hr tk hp h
  obtain ⟨hu, hu1, hu2⟩ := rooms hr
  refine ⟨_, (jss_cons (js_set 2 (je_cty (cd_list false) T.n_list (ja_cons (je_name 1) ja_nil)) sc_left.nd)
      (jss_cons (js_set 3 (je_lst false (ja_cons (je_un ud_neg je_int) ja_nil)) sc_left.nd)
      (jss_cons (js_while hp (jt_cmp (od_ne hu) (je_name 3) (je_lst false ja_nil)) (jss_cons (js_set 3 (je_lc (own := [("_law_piece", 4)]) (g := gName 4) sc_left.nd (ji_list (je_name 2)) (blkOk_by (own := [("_law_piece", 4)]) (sc := defScope s_left) (N := ["_law_own", "_law_some", "_law_left_here", "_law_struck", "_law_piece"]) (by decide +kernel)) (ct_name 4) (fun _ _ _ _ _ => (pg_name (i := 4) sc_left.nd rfl (by first | exact Or.inl rfl | exact Or.inr rfl))) (fun _ _ _ _ _ => (jts_one (jt_not (jt_val (jf (ks := []) (n := 3) (idx := []) c_is_own_closed hr (by decide) hg tkN (fun _ _ _ _ _ _ us ws h1 h2 => match us, ws, h1, h2 with | [_, _, _], [], _, _ => rfl) (jc_p (ja_cons (je_name 0) (ja_cons (je_name 2) (ja_cons (je_name 4) ja_nil))))))))) (fun _ _ _ _ _ => (je_name 4))) sc_left.nd)
      (jss_one (js_set 2 (je_lc (own := [("_law_piece", 4)]) (g := gName 4) sc_left.nd (ji_list (je_name 2)) (blkOk_by (own := [("_law_piece", 4)]) (sc := defScope s_left) (N := ["_law_own", "_law_some", "_law_left_here", "_law_struck", "_law_piece"]) (by decide +kernel)) (ct_name 4) (fun _ _ _ _ _ => (pg_name (i := 4) sc_left.nd rfl (by first | exact Or.inl rfl | exact Or.inr rfl))) (fun _ _ _ _ _ => (jts_one (jt_cmp (od_notin hu) (je_name 4) (je_name 3)))) (fun _ _ _ _ _ => (je_name 4))) sc_left.nd))))
      (jss_one (js_ret (je_name 2)))))), ?_⟩
  clear hr hg tk hp hu hu1 hu2
  unfold sp_left at h
  split at h
  case h_2 => exact h.elim
  rename_i m gs
  obtain ⟨M, hd, xs, rfl, rfl, s, o, hh, hl, hx, hin, q⟩ := h
  have hin2 : ∀ n ∈ M.ts.map MT.n, ∀ h ∈ M.hs n, ∀ m ∈ h, m ∈ M.ts.map MT.n := fun n a h b => (hin n a h b).2
  have hin1 : ∀ n ∈ M.ts.map MT.n, ∀ h ∈ M.hs n, h.length ≤ 100 := fun n a h b => (hin n a h b).1
  walk_at "dl go"
  walk_at "dl rd"
  refine rd_listL rfl ?_
  refine rd_newF ?_
  walk_at "dl rd"
  refine ⟨fun k ρ μ' => μ' = μ ∧ ∃ (p : Int → Bool) (ss : List Int), (∃ y4, ρ = [some (.at M.m), some (.lst (xs.map .int)), some (.lst ((xs.filter p).map .int)), some (.lst (ss.map .int)), y4]) ∧ (ss = [] → clB M.hs (xs.filter p) = true) ∧ (xs = M.ts.map MT.n → ∀ n ∈ M.ts.map MT.n, canB (M.ts.map MT.n) M.hs n = false → n ∈ xs.filter p) ∧ k = (xs.filter p).length + if ss = [] then 0 else 1, ⟨_, wk.same ⟨rfl, fun _ => true, [-1], ⟨none, ?_⟩, fun z => (by cases z), fun e n hn _ => (by rw [List.filter_eq_self.mpr fun _ _ => rfl, e]; exact hn), rfl⟩⟩, ?_⟩
  · rw [List.filter_eq_self.mpr fun _ _ => rfl]
    rfl
  rintro k ρ μ' ⟨eμ, p, ss, ⟨y4, rfl⟩, hcl, hlo, hk⟩
  subst μ'
  walk_at "dl rd"
  refine rd_neL (ds := ss.map .int) rfl (rss_ints ss) ?_
  rw [List.isEmpty_map]
  walk_at "dl rd"
  cases es : ss with
  | nil =>
    refine rd_brF rfl ?_
    walk_at "dl rd"
    exact wkR.same (q _ List.filter_sublist fun e => by
      have := left_end (ns := M.ts.map MT.n) (p := p) (hs := M.hs) (by rw [← e]; exact hcl es) (by have := hlo e; rw [e] at this; exact this)
      rw [e]
      exact this)
  | cons s0 sr =>
    refine rd_brT rfl ?_
    rw [es] at hk
    have hk2 : k = (xs.filter p).length + 1 := hk
    generalize eL : xs.filter p = lf at hcl hlo hk2
    have lfin : ∀ n ∈ lf, n ∈ M.ts.map MT.n := fun n hn => hx n (List.mem_filter.mp (eL ▸ hn)).1
    have lf40 : lf.length ≤ 40 := by rw [← eL]; exact Nat.le_trans (List.length_filter_le _ _) hl
    walk_at "dl rd"
    refine lc_pure (xs := lf) (f := .int) (h := .int) (p := fun n => !keptB M.hs lf n) (by omega) ?_ ?_ ?_
    · exact fun _ _ _ => rfl
    · intro n hn L acc K1 K2 hL k1 k2
      walk_at "dl rd"
      refine ⟨M, hd, lf, rfl, rfl, s.put (Sits.nf s hL), o, put_at hh (ne_no hh hL), lfin n hn, hin1, ?_⟩
      walk_at "dl rd"
      refine rd_br (fun c => ?_) fun c => ?_
      · walk_at "dl rd"
        exact k1 c
      · exact k2 c
    generalize eS : lf.filter (fun n => !keptB M.hs lf n) = SL
    have inS : ∀ n ∈ lf, decide (n ∈ SL) = !keptB M.hs lf n := fun n hn => by
      rw [← eS]
      cases e : keptB M.hs lf n with
      | true => exact decide_eq_false fun z => by have := (List.mem_filter.mp z).2; rw [e] at this; cases this
      | false => exact decide_eq_true (List.mem_filter.mpr ⟨hn, by rw [e]; rfl⟩)
    walk_at "dl rd"
    refine lc_pure (xs := lf) (f := .int) (h := .int) (p := fun n => keptB M.hs lf n) (by omega) ?_ ?_ ?_
    · exact fun _ _ _ => rfl
    · intro n hn L2 acc K1 K2 hL2 k1 k2
      walk_at "dl rd"
      refine rd_inInts (xs := SL) (n := true) rfl ?_
      rw [if_pos rfl, inS n hn, Bool.not_not]
      exact rd_br (fun c => by walk_at "dl rd"; exact k1 c) fun c => k2 c
    have ep : xs.filter (fun n => keptB M.hs lf n && p n) = lf.filter fun n => keptB M.hs lf n := by rw [← eL, List.filter_filter]
    refine ⟨_, ?_, wk.same ⟨rfl, fun n => keptB M.hs lf n && p n, SL, ⟨y4, ?_⟩, ?_, ?_, rfl⟩⟩
    · rw [ep, hk2]
      by_cases e : SL = []
      · rw [if_pos e]
        have := List.length_filter_le (fun n => keptB M.hs lf n) lf
        omega
      · rw [if_neg e]
        obtain ⟨n, hn⟩ : ∃ n, n ∈ SL := List.exists_mem_of_ne_nil _ e
        rw [← eS] at hn
        have h2 := (List.mem_filter.mp hn)
        have := strike_len (L := lf) (p := fun n => keptB M.hs lf n) ⟨n, h2.1, by simpa using h2.2⟩
        omega
    · rw [ep]
      rfl
    · intro e
      have all : ∀ n ∈ lf, keptB M.hs lf n = true := fun n hn => by
        have := inS n hn
        rw [e] at this
        simpa using this.symm
      rw [ep, List.filter_eq_self.mpr all]
      exact cl_kept all
    · intro e n hn c
      rw [ep]
      exact List.mem_filter.mpr ⟨hlo e n hn c, lost_kept hin2 (hlo e) hn c⟩
def sp_mixed : SpD := fun ds μ Q _ => match ds with
  | [.at p, .lst gs] => ∃ xs : List Int, gs = xs.map .int ∧ μ p = some .pot ∧ xs.length ≤ 100 ∧ ∀ ys : List Int, ys.Perm xs → Q (.lst (ys.map .int)) μ
  | _ => False
theorem sc_mixed : FnScope ["_law_pot_here", "_law_some", "_law_left_here", "_law_turn"] ["_law_pot_here", "_law_some"] (defScope s_mixed) := ⟨rfl, rfl, rfl, by decide +kernel, rfl, by decide +kernel, by decide +kernel⟩
theorem g_mixed (T : Txt K mg C_NoCount C_NoGroup C_NoHold C_NoName C_NoOrder C_NoThing C_Store C_StoreError) (d_mixed : Def0 K mg "_law_mixed" s_mixed) (c_take : CalD P w K mg base 1 "_law_take" s_take ["_law_pot_here", "_law_many"] sp_take) : CalD P w K mg base 2 "_law_mixed" s_mixed ["_law_pot_here", "_law_some"] sp_mixed := by
  refine calD d_mixed sc_mixed (fun ds μ Q E h => by unfold sp_mixed at h; split at h <;> first | rfl | exact h.elim) ?_
  intro f cdv A outer s H EX ds μ Q E hg hr tk hp h
  obtain ⟨hu, hu1, hu2⟩ := rooms hr
  refine ⟨_, (jss_cons (js_set 2 (je_cty (cd_list true) T.n_list (ja_cons (je_name 1) ja_nil)) sc_mixed.nd)
      (jss_one (js_ret (je_lc (own := [("_law_turn", 3)]) (g := gName 3) sc_mixed.nd (ji_range1 T.n_range (ja_cons (je_cb cd_len T.n_len (ja_cons (je_name 1) ja_nil)) ja_nil)) (blkOk_by (own := [("_law_turn", 3)]) (sc := defScope s_mixed) (N := ["_law_pot_here", "_law_some", "_law_left_here", "_law_turn"]) (by decide +kernel)) (ct_name 3) (fun _ _ _ _ _ => (pg_name (i := 3) sc_mixed.nd rfl (by first | exact Or.inl rfl | exact Or.inr rfl))) (fun _ _ _ _ _ => jts_nil) (fun _ _ _ _ _ => (je_ml PySem.F.slot_list_pop PySem.F.type_list_pop md_popAt (je_name 2) (ja_cons (jf (ks := []) (n := 2) (idx := []) c_take hr (by decide) hg tkN (fun _ _ _ _ _ _ us ws h1 h2 => match us, ws, h1, h2 with | [_, _], [], _, _ => rfl) (jc_p (ja_cons (je_name 0) (ja_cons (je_cb cd_len T.n_len (ja_cons (je_name 2) ja_nil)) ja_nil)))) ja_nil))))))), ?_⟩
  clear hr hg tk hp hu hu1 hu2
  unfold sp_mixed at h
  split at h
  case h_2 => exact h.elim
  rename_i p gs
  obtain ⟨xs, rfl, hp, hl, q⟩ := h
  walk_at "dl go"
  walk_at "dl rd"
  refine rd_listL rfl ?_
  refine rd_newT fun L1 h1 => ?_
  have p1 : p ≠ L1 := ne_no hp h1
  walk_at "dl rd"
  rw [List.length_map]
  refine ⟨xs.length, rfl, by omega, by omega, ?_⟩
  refine lc_st (fun rest : List Int => put μ L1 (.lst (rest.map .int))) (fun i rest acc => ∃ ys : List Int, acc = ys.map .int ∧ (ys ++ rest).Perm xs ∧ ys.length = i) xs (by simp; omega) rfl ⟨[], rfl, .refl _, rfl⟩ ?_ ?_ ?_ ?_
  · intro s L hL
    have ⟨n1, n2⟩ := no_put hL
    rw [put_ne n1]
    exact n2
  · exact fun _ _ _ _ _ _ _ => trivial
  · rintro rest acc hal ⟨ys, rfl, hperm, hlen⟩
    rw [List.length_map, List.length_range] at hlen
    have e0 : rest = [] := by
      have := hperm.length_eq
      rw [List.length_append] at this
      exact List.length_eq_zero_iff.mp (by omega)
    rw [e0, List.append_nil] at hperm
    exact wkR.less (less1 h1) (q ys hperm)
  · rintro L i d rest acc K1 K2 hL hal hd ⟨ys, rfl, hperm, hlen⟩ k1 k2
    have hi := (List.getElem?_eq_some_iff.mp hd).1
    rw [List.length_map, List.length_range] at hi
    have hi2 : i < xs.length := by omega
    have hrl : rest.length + i = xs.length := by
      have := hperm.length_eq
      rw [List.length_append] at this
      omega
    have ⟨n1, n2⟩ := no_put hL
    obtain ⟨i', _, _, rfl⟩ := map_get hd
    have g1 : put (put μ L1 (.lst (rest.map .int))) L (.lst (ys.map .int)) L1 = some (.lst (rest.map .int)) := by rw [put_ne (Ne.symm n1), put_same]
    have g2 : put (put μ L1 (.lst (rest.map .int))) L (.lst (ys.map .int)) p = some .pot := by rw [put_ne (ne_no hp n2), put_ne p1]; exact hp
    walk_at "dl rd"
    refine rd_brT rfl ?_
    walk_at "dl rd"
    rw [List.length_map]
    refine ⟨g2, by omega, by omega, fun z z0 z1 => ?_⟩
    refine rd_pop (f := D.int) (S := rest) g1 z0 z1 (by omega) fun x S' hS hSl => ?_
    have ec : put (put (put μ L1 (.lst (rest.map .int))) L (.lst (ys.map .int))) L1 (.lst (S'.map .int)) = put (put μ L1 (.lst (S'.map .int))) L (.lst (ys.map .int)) := by
      rw [put_comm (a := L) (b := L1) n1, put_put]
    rw [ec]
    refine k1 (.int x) S' ⟨ys ++ [x], by rw [List.map_append]; rfl, ?_, by simp; omega⟩
    rw [List.append_assoc]
    exact (hS.symm.append_left ys).trans hperm
def sp_groups : SpD := fun ds μ Q _ => match ds with
  | [.at p, .at m] => ∃ (M : MS) (hd : Addr), m = M.m ∧ μ p = some .pot ∧ GSt (fl6 (some hd)) μ M ∧ MOk M ∧ Fam M ∧ μ hd = some (.dK (hdK M)) ∧ (∀ n ∈ M.ts.map MT.n, ∀ h ∈ M.hs n, h.length ≤ 100 ∧ ∀ x ∈ h, x ∈ M.ts.map MT.n) ∧ ∀ gs : List (List Int), gs.length ≤ 10 → (∀ g ∈ gs, g.Nodup ∧ ∀ x ∈ g, x ∈ M.ts.map MT.n) → Q (.lst (gs.map fun g => .lst (g.map .int))) μ
  | _ => False
theorem sc_groups : FnScope ["_law_pot_here", "_law_own", "_law_things", "_law_gone", "_law_any_one", "_law_most", "_law_other", "_law_found", "_law_one", "_law_piece", "_law_crew"] ["_law_pot_here", "_law_own"] (defScope s_groups) := ⟨rfl, rfl, rfl, by decide +kernel, rfl, by decide +kernel, by decide +kernel⟩
theorem g_groups (T : Txt K mg C_NoCount C_NoGroup C_NoHold C_NoName C_NoOrder C_NoThing C_Store C_StoreError) (d_groups : Def0 K mg "_law_groups" s_groups) (c_left : CalD P w K mg base 2 "_law_left" s_left ["_law_own", "_law_some"] sp_left) (c_take : CalD P w K mg base 1 "_law_take" s_take ["_law_pot_here", "_law_many"] sp_take) (c_among : CalD P w K mg base 2 "_law_among" s_among ["_law_pot_here", "_law_some"] sp_among) (c_mixed : CalD P w K mg base 2 "_law_mixed" s_mixed ["_law_pot_here", "_law_some"] sp_mixed) : CalD P w K mg base 3 "_law_groups" s_groups ["_law_pot_here", "_law_own"] sp_groups := by
  refine calD d_groups sc_groups (fun ds μ Q E h => by unfold sp_groups at h; split at h <;> first | rfl | exact h.elim) ?_
  intro f cdv A outer s H EX ds μ Q E hg hr tk hp h
  obtain ⟨hu, hu1, hu2⟩ := rooms hr
  refine ⟨_, (jss_cons (js_set 2 (je_listRg false T.n_list T.n_range (je_dget hu1 (je_name 1) je_str)) sc_groups.nd)
      (jss_cons (js_set 3 (jf (ks := []) (n := 2) (idx := []) c_left hr (by decide) hg tkN (fun _ _ _ _ _ _ us ws h1 h2 => match us, ws, h1, h2 with | [_, _], [], _, _ => rfl) (jc_p (ja_cons (je_name 1) (ja_cons (je_name 2) ja_nil)))) sc_groups.nd)
      (jss_cons (js_setLc 4 (own := [("_law_piece", 9)]) (g := gName 9) sc_groups.nd (ji_list (je_name 2)) (blkOk_by (own := [("_law_piece", 9)]) (sc := defScope s_groups) (N := ["_law_pot_here", "_law_own", "_law_things", "_law_gone", "_law_any_one", "_law_most", "_law_other", "_law_found", "_law_one", "_law_piece", "_law_crew"]) (by decide +kernel)) (ct_name 9) (fun _ _ _ _ _ => (pg_name (i := 9) sc_groups.nd rfl (by first | exact Or.inl rfl | exact Or.inr rfl))) (fun _ _ _ _ _ => (jts_one (jt_cmp (od_eq hu) (jf (ks := []) (n := 2) (idx := []) c_take hr (by decide) hg tkN (fun _ _ _ _ _ _ us ws h1 h2 => match us, ws, h1, h2 with | [_, _], [], _, _ => rfl) (jc_p (ja_cons (je_name 0) (ja_cons je_int ja_nil)))) je_int))) (fun _ _ _ _ _ => (je_name 9)) (sw_true rfl rfl rfl (by decide +kernel)))
      (jss_cons (js_setLc 5 (own := [("_law_piece", 9)]) (g := gName 9) sc_groups.nd (ji_list (je_name 2)) (blkOk_by (own := [("_law_piece", 9)]) (sc := defScope s_groups) (N := ["_law_pot_here", "_law_own", "_law_things", "_law_gone", "_law_any_one", "_law_most", "_law_other", "_law_found", "_law_one", "_law_piece", "_law_crew"]) (by decide +kernel)) (ct_name 9) (fun _ _ _ _ _ => (pg_name (i := 9) sc_groups.nd rfl (by first | exact Or.inl rfl | exact Or.inr rfl))) (fun _ _ _ _ _ => (jts_one (jt_cmp od_gt (jf (ks := []) (n := 2) (idx := []) c_take hr (by decide) hg tkN (fun _ _ _ _ _ _ us ws h1 h2 => match us, ws, h1, h2 with | [_, _], [], _, _ => rfl) (jc_p (ja_cons (je_name 0) (ja_cons je_int ja_nil)))) je_int))) (fun _ _ _ _ _ => (je_name 9)) (sw_true rfl rfl rfl (by decide +kernel)))
      (jss_cons (js_setLc 6 (own := [("_law_piece", 9)]) (g := gName 9) sc_groups.nd (ji_list (je_name 3)) (blkOk_by (own := [("_law_piece", 9)]) (sc := defScope s_groups) (N := ["_law_pot_here", "_law_own", "_law_things", "_law_gone", "_law_any_one", "_law_most", "_law_other", "_law_found", "_law_one", "_law_piece", "_law_crew"]) (by decide +kernel)) (ct_name 9) (fun _ _ _ _ _ => (pg_name (i := 9) sc_groups.nd rfl (by first | exact Or.inl rfl | exact Or.inr rfl))) (fun _ _ _ _ _ => (jts_one (jt_cmp od_gt (jf (ks := []) (n := 2) (idx := []) c_take hr (by decide) hg tkN (fun _ _ _ _ _ _ us ws h1 h2 => match us, ws, h1, h2 with | [_, _], [], _, _ => rfl) (jc_p (ja_cons (je_name 0) (ja_cons je_int ja_nil)))) je_int))) (fun _ _ _ _ _ => (je_name 9)) (sw_true rfl rfl rfl (by decide +kernel)))
      (jss_cons (js_set 7 (je_lst false (ja_cons (je_lst false ja_nil) (ja_cons (je_name 4) (ja_cons (je_name 3) (ja_cons (jf (ks := []) (n := 2) (idx := []) c_left hr (by decide) hg tkN (fun _ _ _ _ _ _ us ws h1 h2 => match us, ws, h1, h2 with | [_, _], [], _, _ => rfl) (jc_p (ja_cons (je_name 1) (ja_cons (je_name 4) ja_nil)))) (ja_cons (jf (ks := []) (n := 2) (idx := []) c_left hr (by decide) hg tkN (fun _ _ _ _ _ _ us ws h1 h2 => match us, ws, h1, h2 with | [_, _], [], _, _ => rfl) (jc_p (ja_cons (je_name 1) (ja_cons (je_name 5) ja_nil)))) (ja_cons (je_name 6) (ja_cons (jf (ks := []) (n := 2) (idx := []) c_left hr (by decide) hg tkN (fun _ _ _ _ _ _ us ws h1 h2 => match us, ws, h1, h2 with | [_, _], [], _, _ => rfl) (jc_p (ja_cons (je_name 1) (ja_cons (je_name 6) ja_nil)))) ja_nil)))))))) sc_groups.nd)
      (jss_cut (js_if (jt_cmp (od_ne hu) (je_name 2) (je_lst false ja_nil)) (jss_cons (js_set 8 (jf (ks := []) (n := 2) (idx := []) c_among hr (by decide) hg tkN (fun _ _ _ _ _ _ us ws h1 h2 => match us, ws, h1, h2 with | [_, _], [], _, _ => rfl) (jc_p (ja_cons (je_name 0) (ja_cons (je_name 2) ja_nil)))) sc_groups.nd)
      (jss_one (js_set 7 (je_op (od_add false) (je_name 7) (je_lst false (ja_cons (je_lst false (ja_cons (je_name 8) ja_nil)) (ja_cons (je_lc (own := [("_law_piece", 9)]) (g := gName 9) sc_groups.nd (ji_list (je_name 3)) (blkOk_by (own := [("_law_piece", 9)]) (sc := defScope s_groups) (N := ["_law_pot_here", "_law_own", "_law_things", "_law_gone", "_law_any_one", "_law_most", "_law_other", "_law_found", "_law_one", "_law_piece", "_law_crew"]) (by decide +kernel)) (ct_name 9) (fun _ _ _ _ _ => (pg_name (i := 9) sc_groups.nd rfl (by first | exact Or.inl rfl | exact Or.inr rfl))) (fun _ _ _ _ _ => (jts_one (jt_cmp (od_ne hu) (je_name 9) (je_name 8)))) (fun _ _ _ _ _ => (je_name 9))) (ja_cons (je_sortSet false T.n_sorted T.n_set (je_op (od_add false) (je_name 3) (je_lst false (ja_cons (je_name 8) ja_nil)))) ja_nil))))) sc_groups.nd))) jss_nil)
      (jss_one (js_ret (je_lc (own := [("_law_crew", 10)]) (g := gName 10) sc_groups.nd (ji_list (je_name 7)) (blkOk_by (own := [("_law_crew", 10)]) (sc := defScope s_groups) (N := ["_law_pot_here", "_law_own", "_law_things", "_law_gone", "_law_any_one", "_law_most", "_law_other", "_law_found", "_law_one", "_law_piece", "_law_crew"]) (by decide +kernel)) (ct_name 10) (fun _ _ _ _ _ => (pg_name (i := 10) sc_groups.nd rfl (by first | exact Or.inl rfl | exact Or.inr rfl))) (fun _ _ _ _ _ => jts_nil) (fun _ _ _ _ _ => (jf (ks := []) (n := 2) (idx := []) c_mixed hr (by decide) hg tkN (fun _ _ _ _ _ _ us ws h1 h2 => match us, ws, h1, h2 with | [_, _], [], _, _ => rfl) (jc_p (ja_cons (je_name 0) (ja_cons (je_name 10) ja_nil))))))))))))))), ?_⟩
  clear hr hg tk hp hu hu1 hu2
  unfold sp_groups at h
  split at h
  case h_2 => exact h.elim
  rename_i p m
  obtain ⟨M, hd, rfl, hp, s, o, f, hh, hin, q⟩ := h
  have m0 := o.m0
  have m1 := o.m1
  have tl := o.tl
  have em := f.many
  have nd := o.tn
  have nl : (M.ts.map MT.n).length ≤ 40 := by rw [List.length_map]; exact tl
  have et : (List.range M.many.toNat).map (fun i : Nat => D.int (i : Int)) = (M.ts.map MT.n).map .int := by
    rw [em, Int.toNat_natCast, f.seq, List.map_map]
    rfl
  have sub : ∀ {ys : List Int}, ys.Sublist (M.ts.map MT.n) → ys.Nodup ∧ ys.length ≤ 40 ∧ ∀ x ∈ ys, x ∈ M.ts.map MT.n := fun {ys} h => ⟨nd.sublist h, Nat.le_trans h.length_le nl, fun x hx => h.subset hx⟩
  walk_at "dl go"
  unfold wLstRg
  walk_at "dl rd"
  refine rd_gAt s ((fl6_ok (some hd)).made M) ?_
  refine ⟨m0, by omega, rd_newF ?_⟩
  rw [et]
  walk_at "dl rd"
  refine ⟨M, hd, _, rfl, rfl, s, o, hh, nl, fun _ h => h, hin, fun gone gsub geq => ?_⟩
  obtain ⟨g1, g2, g3⟩ := sub gsub
  walk_at "dl rd"
  refine lc_sub (xs := M.ts.map MT.n) (f := .int) (h := .int) (by omega) ?_ ?_ ?_
  · exact fun _ _ _ => rfl
  · intro n hn L acc K1 K2 hL k1 k2
    have hp2 : put μ L (.lst acc) p = some .pot := put_at hp (ne_no hp hL)
    walk_at "dl rd"
    refine ⟨hp2, by decide, by decide, fun z z0 z1 => ?_⟩
    walk_at "dl rd"
    refine rd_br (fun c => ?_) fun c => ?_
    · walk_at "dl rd"
      exact k1
    · exact k2
  intro any asub
  obtain ⟨a1, a2, a3⟩ := sub asub
  walk_at "dl rd"
  refine lc_sub (xs := M.ts.map MT.n) (f := .int) (h := .int) (by omega) ?_ ?_ ?_
  · exact fun _ _ _ => rfl
  · intro n hn L acc K1 K2 hL k1 k2
    have hp2 : put μ L (.lst acc) p = some .pot := put_at hp (ne_no hp hL)
    walk_at "dl rd"
    refine ⟨hp2, by decide, by decide, fun z z0 z1 => ?_⟩
    walk_at "dl rd"
    refine rd_br (fun c => ?_) fun c => ?_
    · walk_at "dl rd"
      exact k1
    · exact k2
  intro most msub
  obtain ⟨b1, b2, b3⟩ := sub msub
  walk_at "dl rd"
  refine lc_sub (xs := gone) (f := .int) (h := .int) (by omega) ?_ ?_ ?_
  · exact fun _ _ _ => rfl
  · intro n hn L acc K1 K2 hL k1 k2
    have hp2 : put μ L (.lst acc) p = some .pot := put_at hp (ne_no hp hL)
    walk_at "dl rd"
    refine ⟨hp2, by decide, by decide, fun z z0 z1 => ?_⟩
    walk_at "dl rd"
    refine rd_br (fun c => ?_) fun c => ?_
    · walk_at "dl rd"
      exact k1
    · exact k2
  intro other osub
  obtain ⟨c1, c2, c3⟩ := sub (osub.trans gsub)
  walk_at "dl rd"
  refine ⟨M, hd, _, rfl, rfl, s, o, hh, a2, a3, hin, fun any2 asub2 _ => ?_⟩
  obtain ⟨a4, a5, a6⟩ := sub (asub2.trans asub)
  walk_at "dl rd"
  refine ⟨M, hd, _, rfl, rfl, s, o, hh, b2, b3, hin, fun most2 msub2 _ => ?_⟩
  obtain ⟨b4, b5, b6⟩ := sub (msub2.trans msub)
  walk_at "dl rd"
  refine ⟨M, hd, _, rfl, rfl, s, o, hh, c2, c3, hin, fun other2 osub2 _ => ?_⟩
  obtain ⟨c4, c5, c6⟩ := sub (osub2.trans (osub.trans gsub))
  have all7 : ∀ g ∈ [[], any, gone, any2, most2, other, other2], g.Nodup ∧ ∀ x ∈ g, x ∈ M.ts.map MT.n := fun g hg => by
    simp only [List.mem_cons, List.not_mem_nil, or_false] at hg
    rcases hg with rfl | rfl | rfl | rfl | rfl | rfl | rfl
    · exact ⟨List.nodup_nil, fun _ h => by cases h⟩
    · exact ⟨a1, a3⟩
    · exact ⟨g1, g3⟩
    · exact ⟨a4, a6⟩
    · exact ⟨b4, b6⟩
    · exact ⟨c1, c3⟩
    · exact ⟨c4, c6⟩
  have hne : (M.ts.map MT.n).map D.int = [] ∨ (M.ts.map MT.n).map D.int ≠ [] := Classical.em _
  walk_at "dl rd"
  refine ⟨fun ρ' μ' => μ' = μ ∧ ∃ (gs : List (List Int)) (y8 y9 y10 : Option D), ρ' = [some (.at p), some (.at M.m), some (.lst ((M.ts.map MT.n).map .int)), some (.lst (gone.map .int)), some (.lst (any.map .int)), some (.lst (most.map .int)), some (.lst (other.map .int)), some (.lst (gs.map fun g => .lst (g.map .int))), y8, y9, y10] ∧ gs.length ≤ 10 ∧ ∀ g ∈ gs, g.Nodup ∧ ∀ x ∈ g, x ∈ M.ts.map MT.n, ?_, ?_⟩
  · walk_at "dl rd"
    refine rd_neL (ds := (M.ts.map MT.n).map .int) rfl (rss_ints _) ?_
    rw [List.isEmpty_map, List.isEmpty_map]
    cases eE : M.ts.isEmpty with
    | true =>
      walk_at "dl kb"
      exact ⟨rfl, [[], any, gone, any2, most2, other, other2], none, none, none, rfl, by simp, all7⟩
    | false =>
      walk_at "dl kb"
      refine ⟨(M.ts.map MT.n).map .int, hp, rfl, fun e => ?_, by rw [List.length_map]; omega, fun d hd => ?_⟩
      · rw [List.map_eq_nil_iff, List.map_eq_nil_iff] at e
        rw [e] at eE
        cases eE
      obtain ⟨one, h1, rfl⟩ := List.mem_map.mp hd
      walk_at "dl rd"
      refine lc_pure (xs := gone) (f := .int) (h := .int) (p := fun n => !decide (n = one)) (by omega) ?_ ?_ ?_
      · exact fun _ _ _ => rfl
      · intro n hn L acc K1 K2 hL k1 k2
        walk_at "dl rd"
        exact rd_br (fun c => by walk_at "dl rd"; exact k1 c) fun c => k2 c
      walk_at "dl rd"
      refine ⟨gone ++ [one], by rw [List.map_append]; rfl, by simp; omega, fun out hw hm => ?_⟩
      refine rd_newF ?_
      walk_at "dl rd"
      refine ⟨rfl, [[], any, gone, any2, most2, other, other2] ++ [[one], gone.filter fun n => !decide (n = one), out], some (.int one), none, none, rfl, by simp, fun g hg => ?_⟩
      rcases List.mem_append.mp hg with hg | hg
      · exact all7 g hg
      · simp only [List.mem_cons, List.not_mem_nil, or_false] at hg
        rcases hg with rfl | rfl | rfl
        · exact ⟨by simp, fun x hx => by rw [List.mem_singleton.mp hx]; exact h1⟩
        · exact ⟨g1.sublist List.filter_sublist, fun x hx => g3 x (List.mem_filter.mp hx).1⟩
        · exact ⟨hw.imp fun a => Int.ne_of_lt a, fun x hx => by
            rcases List.mem_append.mp ((hm x).mp hx) with z | z
            · exact g3 x z
            · rw [List.mem_singleton.mp z]
              exact h1⟩
  · rintro ρ' μ' ⟨hμ, gs, y8, y9, y10, rfl, hl, hg⟩
    subst hμ
    walk_at "dl rd"
    refine lc_any (fun g : List Int => .lst (g.map .int)) (fun g => g.Nodup ∧ ∀ x ∈ g, x ∈ M.ts.map MT.n) (by rw [List.length_map]; omega) ?_ ?_ ?_
    · exact fun _ _ _ => rfl
    · intro d hd2 L acc K1 K2 hL k1
      obtain ⟨g, hgm, rfl⟩ := List.mem_map.mp hd2
      obtain ⟨gn, gi⟩ := hg g hgm
      have hp2 : put μ' L (.lst acc) p = some .pot := put_at hp (ne_no hp hL)
      walk_at "dl rd"
      refine rd_brT rfl ?_
      walk_at "dl rd"
      refine ⟨g, rfl, hp2, by have := len_sub gn gi; omega, fun ys hys => ?_⟩
      exact k1 ys ⟨hys.nodup_iff.mpr gn, fun x hx => gi x (hys.mem_iff.mp hx)⟩
    · intro hs hsl hso
      rw [List.length_map] at hsl
      exact wkR.same (q hs (by omega) hso)
def sp_Store_has_thing (C_Store : Addr) : SpD := fun ds μ Q _ => match ds with
  | [.at t, d] => ∃ S : SC, t = S.t ∧ St C_Store μ S ∧ (∃ n, n ∈ dataTys ∧ kindD μ d n) ∧ (∀ x ∈ S.ts, 0 ≤ x.n) ∧ Q (.bl (match d with | .int i => decide (i ∈ S.ts.map Th.n) | _ => false)) μ
  | _ => False
theorem sc_Store_has_thing : FnScope ["self", "thing"] ["self", "thing"] (defScope s_Store_has_thing) := ⟨rfl, rfl, rfl, by decide +kernel, rfl, by decide +kernel, by decide +kernel⟩
theorem g_Store_has_thing (T : Txt K mg C_NoCount C_NoGroup C_NoHold C_NoName C_NoOrder C_NoThing C_Store C_StoreError) (d_Store_has_thing : Met0 K C_Store "has_thing" "Store.has_thing" s_Store_has_thing) (c_is_count : CalD P w K mg base 2 "is_count" s_is_count ["thing"] sp_is_count) : MetD P w K mg base 3 C_Store "has_thing" "Store.has_thing" s_Store_has_thing ["self", "thing"] (sp_Store_has_thing C_Store) := by
  refine metD d_Store_has_thing sc_Store_has_thing (fun ds μ Q E h => by unfold sp_Store_has_thing at h; split at h <;> first | rfl | exact h.elim) ?_
  intro f cdv A outer s H EX ds μ Q E hg hr tk hp h
  obtain ⟨hu, hu1, hu2⟩ := rooms hr
  refine ⟨_, (jss_one (js_ret (je_and (jf (ks := []) (n := 1) (idx := []) c_is_count hr (by decide) hg tkN (fun _ _ _ _ _ _ us ws h1 h2 => match us, ws, h1, h2 with | [_], [], _, _ => rfl) (jc_p (ja_cons (je_name 1) ja_nil))) (je_one (je_din hu1 (je_name 1) (je_fld T.cl_Store T.na_Store_filled (je_name 0))))))), ?_⟩
  clear hr hg tk hp hu hu1 hu2
  unfold sp_Store_has_thing at h
  split at h
  case h_2 => exact h.elim
  rename_i t d
  obtain ⟨S, rfl, s, ⟨n, hn, hk⟩, h0, q⟩ := h
  have ob := s.ob
  walk_at "dl go"
  walk_at "dl rd"
  refine ⟨⟨n, hn, hk⟩, ?_⟩
  rcases kind_cases hk hn with ⟨i, rfl, rfl⟩ | ⟨e, ni⟩
  · refine rd_brD (fun hi => ?_) fun hi => ?_
    · walk_at "dl rd"
      refine rd_hasSl s fun o e => ?_
      rw [e]
      exact wkR.same q
    · have e : decide (i ∈ S.ts.map Th.n) = false := decide_eq_false fun m => by
        obtain ⟨x, hx, rfl⟩ := List.mem_map.mp m
        exact hi (h0 x hx)
      have q' : Q (.bl (decide (i ∈ S.ts.map Th.n))) μ := q
      rw [e] at q'
      exact wkR.same q'
  · have e2 : countB d = false := by
      cases d with
      | int i => cases e
      | _ => rfl
    rw [e2]
    refine rd_brF rfl ?_
    cases d with
    | int i => cases e
    | _ => exact wkR.same q
def sp_want_group (C_Store : Addr) (C_NoGroup : Addr) : SpD := fun ds μ Q E => match ds with
  | [.at t, d] => ∃ (S : SC), t = S.t ∧ St C_Store μ S ∧ (∀ x ∈ S.ts, 0 ≤ x.n) ∧ S.ts.length ≤ 40 ∧ ((∃ xs : List Int, d = .lst (xs.map .int) ∧ xs.Nodup ∧ (∀ x ∈ xs, x ∈ S.ts.map Th.n) ∧ Q .non μ) ∨ (NoGrp (S.ts.map Th.n) μ d ∧ E (.ref C_NoGroup) [] μ))
  | _ => False
theorem sc_want_group : FnScope ["store", "group", "thing"] ["store", "group"] (defScope s_want_group) := ⟨rfl, rfl, rfl, by decide +kernel, rfl, by decide +kernel, by decide +kernel⟩
theorem g_want_group (T : Txt K mg C_NoCount C_NoGroup C_NoHold C_NoName C_NoOrder C_NoThing C_Store C_StoreError) (d_want_group : Def0 K mg "want_group" s_want_group) (c_Store_has_thing : MetD P w K mg base 3 C_Store "has_thing" "Store.has_thing" s_Store_has_thing ["self", "thing"] (sp_Store_has_thing C_Store)) : CalD P w K mg base 4 "want_group" s_want_group ["store", "group"] (sp_want_group C_Store C_NoGroup) := by
  refine calD d_want_group sc_want_group (fun ds μ Q E h => by unfold sp_want_group at h; split at h <;> first | rfl | exact h.elim) ?_
  intro f cdv A outer s H EX ds μ Q E hg hr tk hp h
  obtain ⟨hu, hu1, hu2⟩ := rooms hr
  refine ⟨_, (jss_cons (js_if (jt_w (jw_or (jt_not (jt_val (je_cb cd_isi T.n_isinstance (ja_cons (je_name 1) (ja_cons (je_ty T.n_list (by rfl)) ja_nil))))) (jw_or1 (jt_not (jt_val (je_cb (cd_all rfl) T.n_all (ja_cons (je_lc (own := [("thing", 2)]) (g := gName 2) sc_want_group.nd (ji_list (je_name 1)) (blkOk_by (own := [("thing", 2)]) (sc := defScope s_want_group) (N := ["store", "group", "thing"]) (by decide +kernel)) (ct_name 2) (fun _ _ _ _ _ => (pg_name (i := 2) sc_want_group.nd rfl (by first | exact Or.inl rfl | exact Or.inr rfl))) (fun _ _ _ _ _ => jts_nil) (fun _ _ _ _ _ => (jm (ks := []) (n := 2) (idx := []) (je_name 0) T.cl_Store c_Store_has_thing hr (by decide) hg tkN (fun _ _ _ _ _ _ us ws h1 h2 => match us, ws, h1, h2 with | [_, _], [], _, _ => rfl) (jc_p (ja_cons (je_name 2) ja_nil))))) ja_nil))))))) (jss_one (js_raiseE T.eo_NoGroup T.g_NoGroup rfl tk)) jss_nil)
      (jss_one (js_if (jt_cmp od_lt (je_lenSetG T.n_len T.n_set (je_name 1)) (je_cb cd_len T.n_len (ja_cons (je_name 1) ja_nil))) (jss_one (js_raiseE T.eo_NoGroup T.g_NoGroup rfl tk)) jss_nil))), ?_⟩
  clear hr hg tk hp hu hu1 hu2
  unfold sp_want_group at h
  split at h
  case h_2 => exact h.elim
  rename_i t d
  obtain ⟨S, rfl, s, h0, h40, h⟩ := h
  have ob := s.ob
  have core : ∀ (ys : List D) (K : DQ) (vs : List Nat) (ρ : Rho), ys.length ≤ 1000 → True := fun _ _ _ _ _ => trivial
  walk_at "dl go"
  walk_at "dl rd"
  rcases h with ⟨xs, rfl, nd, hin, q⟩ | ⟨hb, qe⟩
  · have hl : xs.length ≤ 40 := by
      have := len_sub nd hin
      rw [List.length_map] at this
      omega
    refine rd_isi (n := "list") (b := true) rfl (by decide +kernel) ?_
    walk_at "dl kb"
    refine lc_map (xs := xs) (f := .int) (h := fun _ => .bl true) (by omega) ?_ ?_ ?_
    · exact fun _ _ _ => rfl
    · intro n hn L acc K1 K2 hL k1
      have s1 := s.new (o := .lst acc) hL
      have ob1 := s1.ob
      walk_at "dl rd"
      refine rd_brT rfl ?_
      walk_at "dl rd"
      refine ⟨S, rfl, s1, ⟨"int", by decide, rfl⟩, h0, ?_⟩
      show K1 (.bl (decide (n ∈ S.ts.map Th.n))) _
      rw [decide_eq_true (hin n hn)]
      exact k1
    walk_at "dl rd"
    have e9 : (xs.map fun _ => D.bl true) = (xs.map fun _ => true).map D.bl := (List.map_map ..).symm
    rw [e9]
    refine ⟨_, xs.map fun _ => true, rfl, rfl, ?_⟩
    rw [show (xs.map fun _ => true).all id = true from by simp]
    refine rd_brF rfl ?_
    walk_at "dl rd"
    refine ⟨xs, rfl, by omega, ?_⟩
    rw [fm_all nd]
    walk_at "dl rd"
    rw [List.length_map]
    refine rd_brF (by simp) ?_
    exact wkR.same q
  · rcases hb with ⟨n, hn, nl, hk⟩ | ⟨ys, rfl, hl, hk, hd⟩
    · have hb : kitB n "list" = some false := by
        simp only [dataTys, List.mem_cons, List.not_mem_nil, or_false] at hn
        rcases hn with rfl | rfl | rfl | rfl | rfl | rfl | rfl
        · decide +kernel
        · decide +kernel
        · decide +kernel
        · decide +kernel
        · exact absurd rfl nl
        · decide +kernel
        · decide +kernel
      refine rd_isi hk hb ?_
      walk_at "dl kb"
      exact qe
    · refine rd_isi (n := "list") (b := true) rfl (by decide +kernel) ?_
      walk_at "dl kb"
      refine lc_each (fun y => .bl (inTh (S.ts.map Th.n) y)) (by omega) ?_ ?_ ?_
      · exact fun _ _ _ => rfl
      · intro y hy L acc K1 K2 hL k1
        have s1 := s.new (o := .lst acc) hL
        have ob1 := s1.ob
        obtain ⟨n, hn, hk2⟩ := hk y hy
        walk_at "dl rd"
        refine rd_brT rfl ?_
        walk_at "dl rd"
        refine ⟨S, rfl, s1, ⟨n, hn, hk2 _ (less1 hL)⟩, h0, ?_⟩
        cases y <;> exact k1
      have e9 : (ys.map fun y => D.bl (inTh (S.ts.map Th.n) y)) = (ys.map (inTh (S.ts.map Th.n))).map D.bl := (List.map_map ..).symm
      rw [e9]
      refine ⟨_, ys.map (inTh (S.ts.map Th.n)), rfl, rfl, ?_⟩
      rw [List.all_map, show (id ∘ inTh (S.ts.map Th.n)) = inTh (S.ts.map Th.n) from rfl]
      cases c : ys.all (inTh (S.ts.map Th.n)) with
      | false =>
        walk_at "dl kb"
        exact qe
      | true =>
        walk_at "dl kb"
        obtain ⟨xs, rfl, hin⟩ := inTh_ints c
        have nd := hd c xs rfl
        have lt := fm_less nd
        rw [List.length_map] at hl
        refine ⟨xs, rfl, by omega, ?_⟩
        walk_at "dl rd"
        rw [List.length_map]
        refine rd_brT (by simpa using lt) ?_
        walk_at "dl rd"
        exact qe
def sp_Store_want_thing (C_Store : Addr) : SpD := fun ds μ Q _ => match ds with
  | [.at t, .int n] => ∃ S : SC, t = S.t ∧ St C_Store μ S ∧ n ∈ S.ts.map Th.n ∧ (∀ x ∈ S.ts, 0 ≤ x.n) ∧ Q .non μ
  | _ => False
theorem sc_Store_want_thing : FnScope ["self", "thing"] ["self", "thing"] (defScope s_Store_want_thing) := ⟨rfl, rfl, rfl, by decide +kernel, rfl, by decide +kernel, by decide +kernel⟩
theorem g_Store_want_thing (T : Txt K mg C_NoCount C_NoGroup C_NoHold C_NoName C_NoOrder C_NoThing C_Store C_StoreError) (d_Store_want_thing : Met0 K C_Store "want_thing" "Store.want_thing" s_Store_want_thing) (c_Store_has_thing : MetD P w K mg base 3 C_Store "has_thing" "Store.has_thing" s_Store_has_thing ["self", "thing"] (sp_Store_has_thing C_Store)) : MetD P w K mg base 4 C_Store "want_thing" "Store.want_thing" s_Store_want_thing ["self", "thing"] (sp_Store_want_thing C_Store) := by
  refine metD d_Store_want_thing sc_Store_want_thing (fun ds μ Q E h => by unfold sp_Store_want_thing at h; split at h <;> first | rfl | exact h.elim) ?_
  intro f cdv A outer s H EX ds μ Q E hg hr tk hp h
  obtain ⟨hu, hu1, hu2⟩ := rooms hr
  refine ⟨_, (jss_one (js_if (jt_not (jt_val (jm (ks := []) (n := 2) (idx := []) (je_name 0) T.cl_Store c_Store_has_thing hr (by decide) hg tkN (fun _ _ _ _ _ _ us ws h1 h2 => match us, ws, h1, h2 with | [_, _], [], _, _ => rfl) (jc_p (ja_cons (je_name 1) ja_nil))))) (jss_one js_never) jss_nil)), ?_⟩
  clear hr hg tk hp hu hu1 hu2
  unfold sp_Store_want_thing at h
  split at h
  case h_2 => exact h.elim
  rename_i t n
  obtain ⟨S, rfl, s, hn, h0, q⟩ := h
  have ob := s.ob
  walk_at "dl go"
  walk_at "dl rd"
  refine ⟨S, rfl, s, ⟨"int", by decide, rfl⟩, h0, ?_⟩
  show Br (!decide (n ∈ S.ts.map Th.n)) _ _
  rw [decide_eq_true hn]
  exact rd_brF rfl (wkR.same q)
def sp_holds_of (C_Store : Addr) : SpD := fun ds μ Q _ => match ds with
  | [.at t, .int n] => ∃ (S : SC) (x : Th) (B : Nat), t = S.t ∧ St C_Store μ S ∧ OkN S B ∧ B ≤ 100000 ∧ x ∈ S.ts ∧ x.n = n ∧ ∀ l, μ l = none → Q (.at l) (put μ l (.lst ((S.hs_ n).map hoD)))
  | _ => False
theorem sc_holds_of : FnScope ["store", "thing"] ["store", "thing"] (defScope s_holds_of) := ⟨rfl, rfl, rfl, by decide +kernel, rfl, by decide +kernel, by decide +kernel⟩
theorem g_holds_of (T : Txt K mg C_NoCount C_NoGroup C_NoHold C_NoName C_NoOrder C_NoThing C_Store C_StoreError) (d_holds_of : Def0 K mg "holds_of" s_holds_of) (c_Store_want_thing : MetD P w K mg base 4 C_Store "want_thing" "Store.want_thing" s_Store_want_thing ["self", "thing"] (sp_Store_want_thing C_Store)) : CalD P w K mg base 5 "holds_of" s_holds_of ["store", "thing"] (sp_holds_of C_Store) := by
  refine calD d_holds_of sc_holds_of (fun ds μ Q E h => by unfold sp_holds_of at h; split at h <;> first | rfl | exact h.elim) ?_
  intro f cdv A outer s H EX ds μ Q E hg hr tk hp h
  obtain ⟨hu, hu1, hu2⟩ := rooms hr
  refine ⟨_, (jss_cons (js_expr (jm (ks := []) (n := 2) (idx := []) (je_name 0) T.cl_Store c_Store_want_thing hr (by decide) hg tkN (fun _ _ _ _ _ _ us ws h1 h2 => match us, ws, h1, h2 with | [_, _], [], _, _ => rfl) (jc_p (ja_cons (je_name 1) ja_nil))))
      (jss_one (js_ret (je_cb (cd_sortedU true hu) T.n_sorted (ja_cons (je_dget hu1 (je_fld T.cl_Store T.na_Store_kept (je_name 0)) (je_name 1)) ja_nil))))), ?_⟩
  clear hr hg tk hp hu hu1 hu2
  unfold sp_holds_of at h
  split at h
  case h_2 => exact h.elim
  rename_i t n
  obtain ⟨S, x, B, rfl, s, o, hB, m, rfl, q⟩ := h
  have ob := s.ob
  have kl := o.kl x m
  rw [hs_at o.tn m] at q
  walk_at "dl go"
  walk_at "dl rd"
  refine ⟨S, rfl, s, List.mem_map.mpr ⟨x, m, rfl⟩, o.n0, ?_⟩
  walk_at "dl rd"
  refine rd_getKe s m ?_
  refine rd_sortedHoS (hs := x.ke) (d := .at x.ka) (.inl (s.holds m)) (by omega) ?_
  refine rd_newT fun l hl => ?_
  exact wkR.same (q l hl)
def sp_is_closed (C_Store : Addr) (C_NoGroup : Addr) : SpD := fun ds μ Q E => match ds with
  | [.at t, d] => ∃ (S : SC) (B : Nat), t = S.t ∧ St C_Store μ S ∧ OkN S B ∧ B ≤ 100000 ∧ (∀ n ∈ S.ts.map Th.n, ∀ h ∈ S.hs_ n, h.length ≤ 100) ∧ ((∃ xs : List Int, d = .lst (xs.map .int) ∧ xs.Nodup ∧ (∀ x ∈ xs, x ∈ S.ts.map Th.n) ∧ Q (.bl (clB S.hs_ xs)) μ) ∨ (NoGrp (S.ts.map Th.n) μ d ∧ E (.ref C_NoGroup) [] μ))
  | _ => False
theorem sc_is_closed : FnScope ["store", "group", "thing", "hold", "holder"] ["store", "group"] (defScope s_is_closed) := ⟨rfl, rfl, rfl, by decide +kernel, rfl, by decide +kernel, by decide +kernel⟩
theorem g_is_closed (T : Txt K mg C_NoCount C_NoGroup C_NoHold C_NoName C_NoOrder C_NoThing C_Store C_StoreError) (d_is_closed : Def0 K mg "is_closed" s_is_closed) (c_want_group : CalD P w K mg base 4 "want_group" s_want_group ["store", "group"] (sp_want_group C_Store C_NoGroup)) (c_holds_of : CalD P w K mg base 5 "holds_of" s_holds_of ["store", "thing"] (sp_holds_of C_Store)) : CalD P w K mg base 6 "is_closed" s_is_closed ["store", "group"] (sp_is_closed C_Store C_NoGroup) := by
  refine calD d_is_closed sc_is_closed (fun ds μ Q E h => by unfold sp_is_closed at h; split at h <;> first | rfl | exact h.elim) ?_
  intro f cdv A outer s H EX ds μ Q E hg hr tk hp h
  obtain ⟨hu, hu1, hu2⟩ := rooms hr
  refine ⟨_, (jss_cons (js_expr (jf (ks := []) (n := 2) (idx := []) c_want_group hr (by decide) hg tk (fun _ _ _ _ _ _ us ws h1 h2 => match us, ws, h1, h2 with | [_, _], [], _, _ => rfl) (jc_p (ja_cons (je_name 0) (ja_cons (je_name 1) ja_nil)))))
      (jss_cons (js_for hp (ji_list (je_name 1)) (jg_name 2 sc_is_closed.nd) (jss_one (js_if (jt_not (jt_val (je_cb (cd_all rfl) T.n_all (ja_cons (je_lc (own := [("hold", 3)]) (g := gName 3) sc_is_closed.nd (ji_list (jf (ks := []) (n := 2) (idx := []) c_holds_of hr (by decide) hg tk (fun _ _ _ _ _ _ us ws h1 h2 => match us, ws, h1, h2 with | [_, _], [], _, _ => rfl) (jc_p (ja_cons (je_name 0) (ja_cons (je_name 2) ja_nil))))) (blkOk_by (own := [("hold", 3)]) (sc := defScope s_is_closed) (N := ["store", "group", "thing", "hold", "holder"]) (by decide +kernel)) (ct_name 3) (fun _ _ _ _ _ => (pg_name (i := 3) sc_is_closed.nd rfl (by first | exact Or.inl rfl | exact Or.inr rfl))) (fun _ _ _ _ _ => jts_nil) (fun _ _ _ _ _ => (je_cb (cd_any rfl) T.n_any (ja_cons (je_lc (own := [("holder", 4)]) (g := gName 4) sc_is_closed.nd (ji_tup (je_name 3)) (blkOk_by (own := [("holder", 4)]) (N := ["store", "group", "thing", "hold", "holder"]) (by rfl)) (ct_name 4) (fun _ _ _ _ _ => (pg_name (i := 4) sc_is_closed.nd rfl (by first | exact Or.inl rfl | exact Or.inr rfl))) (fun _ _ _ _ _ => jts_nil) (fun _ _ _ _ _ => (je_cmp (od_in hu) (je_name 4) (je_name 1)))) ja_nil)))) ja_nil)))) (jss_one (js_ret je_bl)) jss_nil)))
      (jss_one (js_ret je_bl)))), ?_⟩
  clear hr hg tk hp hu hu1 hu2
  unfold sp_is_closed at h
  split at h
  case h_2 => exact h.elim
  rename_i t gs
  obtain ⟨S, B, rfl, s, o, hB, hsm, h⟩ := h
  walk_at "dl go"
  walk_at "dl rd"
  refine ⟨S, rfl, s, o.n0, o.tl, ?_⟩
  rcases h with ⟨xs, rfl, nd, hin, q⟩ | hb
  rotate_left
  · exact .inr hb
  refine .inl ⟨xs, rfl, nd, hin, ?_⟩
  walk_at "dl rd"
  have hcl : ∀ i, (∀ x ∈ xs.take i, ((S.hs_ x).all fun h => h.any fun m => decide (m ∈ xs)) = true) → ∀ x, xs[i]? = some x → ((S.hs_ x).all fun h => h.any fun m => decide (m ∈ xs)) = false → clB S.hs_ xs = false := fun i _ x hx e => by
    cases c : clB S.hs_ xs with
    | false => rfl
    | true =>
      have := List.all_eq_true.mp c x (List.mem_of_getElem? hx)
      rw [this] at e
      cases e
  refine ⟨fun i ρ μ' => (∃ a b c, ρ = [some (.at S.t), some (.lst (xs.map .int)), a, b, c]) ∧ μ' = μ ∧ ∀ x ∈ xs.take i, ((S.hs_ x).all fun h => h.any fun m => decide (m ∈ xs)) = true, wk.same ⟨⟨_, _, _, rfl⟩, rfl, fun x hx => by cases hx⟩, fun _ _ _ _ _ => rfl, ?_, ?_⟩
  · rintro i d ρ μ' hd ⟨⟨a, b, c, rfl⟩, rfl, hall⟩
    obtain ⟨n, hn, en, rfl⟩ := map_get hd
    obtain ⟨x, hx, rfl⟩ := th_of (hin n hn)
    have hlen := hs_len_ o hx
    walk_at "dl rd"
    refine ⟨S, x, B, rfl, s, o, hB, hx, rfl, fun l hl => ?_⟩
    refine ⟨_, .inl put_same, ?_⟩
    refine lc_map (xs := S.hs_ x.n) (f := hoD) (h := fun h => .bl (h.any fun m => decide (m ∈ xs))) (by omega) ?_ ?_ ?_
    · intro L acc hL
      exact .inl (by rw [put_ne (ne_no put_same hL)]; exact put_same)
    · intro h hh L acc K1 K2 hL k1
      walk_at "dl rd"
      refine rd_brT rfl ?_
      walk_at "dl rd"
      refine ⟨_, rfl, ?_⟩
      refine lc_map (xs := h) (f := .int) (h := fun m => .bl (decide (m ∈ xs))) (by have := hsm x.n (hin _ hn) h hh; omega) ?_ ?_ ?_
      · exact fun _ _ _ => trivial
      · intro m hm L2 acc2 K1 K2 hL2 k1
        walk_at "dl rd"
        refine rd_brT rfl ?_
        walk_at "dl rd"
        refine rd_inInts (xs := xs) (n := false) rfl ?_
        exact k1
      walk_at "dl rd"
      refine ⟨_, h.map fun m => decide (m ∈ xs), rfl, by rw [List.map_map]; rfl, ?_⟩
      rw [List.any_map]
      exact k1
    walk_at "dl rd"
    refine ⟨_, (S.hs_ x.n).map fun h => h.any fun m => decide (m ∈ xs), rfl, by rw [List.map_map]; rfl, ?_⟩
    rw [List.all_map]
    have ea : ((S.hs_ x.n).all (id ∘ fun h => h.any fun m => decide (m ∈ xs))) = (S.hs_ x.n).all fun h => h.any fun m => decide (m ∈ xs) := rfl
    rw [ea]
    cases e : (S.hs_ x.n).all fun h => h.any fun m => decide (m ∈ xs) with
    | true =>
      walk_at "dl rd"
      refine rd_brF rfl ?_
      walk_at "dl rd"
      refine wk.same' (less1 hl) ⟨⟨_, _, _, rfl⟩, rfl, fun y hy => ?_⟩
      rw [List.take_succ, en, Option.toList_some, List.mem_append] at hy
      rcases hy with hy | hy
      · exact hall y hy
      · cases List.mem_singleton.mp hy
        exact e
    | false =>
      walk_at "dl rd"
      refine rd_brT rfl ?_
      walk_at "dl rd"
      rw [hcl i hall x.n en e] at q
      exact wkR.less (less1 hl) q
  · rintro ρ μ' ⟨⟨a, b, c, rfl⟩, rfl, hall⟩
    rw [List.length_map, List.take_length] at hall
    walk_at "dl rd"
    have e : clB S.hs_ xs = true := List.all_eq_true.mpr hall
    rw [e] at q
    exact wkR.same q
def sp_is_refused (C_Store : Addr) : SpD := fun ds μ Q _ => match ds with
  | [.at t, d] => ∃ (S : SC) (B : Nat), t = S.t ∧ St C_Store μ S ∧ OkN S B ∧ B ≤ 100000 ∧ (∀ n ∈ S.ts.map Th.n, ∀ h ∈ S.hs_ n, h.length ≤ 100) ∧ OddG (S.ts.map Th.n) μ d ∧ Q (.bl true) μ
  | _ => False
theorem sc_is_refused : FnScope ["_law_den", "_law_piece", "_law_is_so", "_law_shown", "e", "_law_others"] ["_law_den", "_law_piece"] (defScope s_is_refused) := ⟨rfl, rfl, rfl, by decide +kernel, rfl, by decide +kernel, by decide +kernel⟩
theorem g_is_refused (T : Txt K mg C_NoCount C_NoGroup C_NoHold C_NoName C_NoOrder C_NoThing C_Store C_StoreError) (d_is_refused : Def0 K mg "_law_is_refused" s_is_refused) (c_is_closed : CalD P w K mg base 6 "is_closed" s_is_closed ["store", "group"] (sp_is_closed C_Store C_NoGroup)) : CalD P w K mg base 7 "_law_is_refused" s_is_refused ["_law_den", "_law_piece"] (sp_is_refused C_Store) := by
  refine calD d_is_refused sc_is_refused (fun ds μ Q E h => by unfold sp_is_refused at h; split at h <;> first | rfl | exact h.elim) ?_
  intro f cdv A outer s H EX ds μ Q E hg hr tk hp h
  obtain ⟨hu, hu1, hu2⟩ := rooms hr
  refine ⟨_, (jss_cons (js_set 2 je_bl sc_is_refused.nd)
      (jss_cons (js_set 3 (je_cb (cd_reprY hg hu) T.n_repr (ja_cons (je_name 1) ja_nil)) sc_is_refused.nd)
      (jss_cons (js_try_as (i := 4) (W := noW) rfl rfl sc_is_refused.nd rfl rfl ⟨rfl, by decide, Or.inl T.g_NoGroup⟩ tkN (fun _ WD pn xe tkW po => (jss_one (js_expr (jf (ks := []) (n := 2) (idx := []) c_is_closed hr (by decide) hg tkW (fun _ _ _ _ _ _ us ws h1 h2 => match us, ws, h1, h2 with | [_, _], [], _, _ => rfl) (jc_p (ja_cons (je_name 0) (ja_cons (je_name 1) ja_nil))))))) (fun _ a oe cls d fs pn hz hf fl nm => (jss_cons (js_set 5 (je_isX T.ic_NoGroup T.n_isinstance hz hf fl nm (ja_cons (je_name 4) (ja_cons (je_tup (ja_cons (je_gref T.g_NoCount) (ja_cons (je_gref T.g_NoHold) (ja_cons (je_gref T.g_NoName) (ja_cons (je_gref T.g_NoOrder) (ja_cons (je_gref T.g_NoThing) ja_nil)))))) ja_nil))) sc_is_refused.nd)
      (jss_one (js_set 2 (je_and (je_isX T.ic_NoGroup T.n_isinstance hz hf fl nm (ja_cons (je_name 4) (ja_cons (je_gref T.g_StoreError) ja_nil))) (je_and (je_isX T.ic_NoGroup T.n_isinstance hz hf fl nm (ja_cons (je_name 4) (ja_cons (je_ty T.n_ValueError (by rfl)) ja_nil))) (je_one (je_not (je_name 5))))) sc_is_refused.nd)))))
      (jss_one (js_ret (je_and (je_name 2) (je_one (je_cmp (od_eq hu) (je_cb (cd_reprY hg hu) T.n_repr (ja_cons (je_name 1) ja_nil)) (je_name 3))))))))), ?_⟩
  clear hr hg tk hp hu hu1 hu2
  unfold sp_is_refused at h
  split at h
  case h_2 => exact h.elim
  rename_i t d
  obtain ⟨S, B, rfl, s, o, hB, hsm, ⟨ng, r, hr⟩, q⟩ := h
  walk_at "dl go"
  refine hr μ (Less.refl μ) _ ?_
  walk_at "dl rd"
  refine ⟨S, B, rfl, s, o, hB, hsm, .inr ⟨ng μ (Less.refl μ), ⟨true, T.xm_NoGroup, fun _ ea => ?_, fun z => (by cases z)⟩⟩⟩
  walk_at "dl rd"
  refine ⟨rfl, _, false, rfl, .inr ⟨_, [.ref C_NoCount, .ref C_NoHold, .ref C_NoName, .ref C_NoOrder, .ref C_NoThing], rfl, rfl, kit_any fun v hv => ?_⟩, ?_⟩
  · simp only [List.mem_cons, List.not_mem_nil, or_false] at hv
    rcases hv with rfl | rfl | rfl | rfl | rfl
    · exact T.ik_NoGroup_NoCount
    · exact T.ik_NoGroup_NoHold
    · exact T.ik_NoGroup_NoName
    · exact T.ik_NoGroup_NoOrder
    · exact T.ik_NoGroup_NoThing
  walk_at "dl rd"
  refine ⟨rfl, _, true, rfl, .inl ⟨_, rfl, T.ik_NoGroup_StoreError⟩, ?_⟩
  walk_at "dl kb"
  refine ⟨rfl, _, true, rfl, .inl ⟨_, rfl, T.ib_NoGroup_ValueError⟩, ?_⟩
  walk_at "dl kb"
  refine hr μ (Less.refl μ) _ ?_
  walk_at "dl rd"
  rw [decide_eq_true rfl]
  exact wkR.same q
def sp_odd : SpD := fun ds μ Q _ => match ds with
  | [.at p, .at m] => ∃ (M : MS) (x6 : Option Addr), m = M.m ∧ μ p = some .pot ∧ GSt (fl6 x6) μ M ∧ MOk M ∧ Fam M ∧ ∀ d μ', Less μ' μ → OddG (M.ts.map MT.n) μ' d → Q d μ'
  | _ => False
theorem sc_odd : FnScope ["_law_pot_here", "_law_own", "_law_far", "_law_some", "_law_one"] ["_law_pot_here", "_law_own"] (defScope s_odd) := ⟨rfl, rfl, rfl, by decide +kernel, rfl, by decide +kernel, by decide +kernel⟩
theorem g_odd (T : Txt K mg C_NoCount C_NoGroup C_NoHold C_NoName C_NoOrder C_NoThing C_Store C_StoreError) (d_odd : Def0 K mg "_law_odd" s_odd) (c_take : CalD P w K mg base 1 "_law_take" s_take ["_law_pot_here", "_law_many"] sp_take) (c_among : CalD P w K mg base 2 "_law_among" s_among ["_law_pot_here", "_law_some"] sp_among) : CalD P w K mg base 3 "_law_odd" s_odd ["_law_pot_here", "_law_own"] sp_odd := by
  refine calD d_odd sc_odd (fun ds μ Q E h => by unfold sp_odd at h; split at h <;> first | rfl | exact h.elim) ?_
  intro f cdv A outer s H EX ds μ Q E hg hr tk hp h
  obtain ⟨hu, hu1, hu2⟩ := rooms hr
  refine ⟨_, (jss_cons (js_set 2 (jf (ks := []) (n := 2) (idx := []) c_take hr (by decide) hg tkN (fun _ _ _ _ _ _ us ws h1 h2 => match us, ws, h1, h2 with | [_, _], [], _, _ => rfl) (jc_p (ja_cons (je_name 0) (ja_cons (je_op od_pow je_int je_int) ja_nil)))) sc_odd.nd)
      (jss_cons (js_set 3 (je_lst false (ja_cons (je_lst false (ja_cons (je_dget hu1 (je_name 1) je_str) ja_nil)) (ja_cons (je_lst false (ja_cons (je_op (od_add false) (je_op (od_add false) (je_dget hu1 (je_name 1) je_str) je_int) (je_name 2)) ja_nil)) (ja_cons (je_lst false (ja_cons (je_un ud_neg je_int) ja_nil)) (ja_cons (je_lst false (ja_cons je_bl ja_nil)) (ja_cons (je_lst false (ja_cons je_bl ja_nil)) (ja_cons (je_lst false (ja_cons je_non ja_nil)) (ja_cons (je_lst false (ja_cons je_str ja_nil)) (ja_cons (je_lst false (ja_cons (je_tup (ja_cons je_int ja_nil)) ja_nil)) (ja_cons (je_lst false (ja_cons (je_lst false (ja_cons je_int ja_nil)) ja_nil)) (ja_cons (je_lst false (ja_cons (je_lst false ja_nil) ja_nil)) (ja_cons (je_lst false (ja_cons je_dnewK ja_nil)) ja_nil)))))))))))) sc_odd.nd)
      (jss_cut (js_if (jt_cmp od_gt (je_dget hu1 (je_name 1) je_str) je_int) (jss_cons (js_set 4 (jf (ks := []) (n := 2) (idx := []) c_take hr (by decide) hg tkN (fun _ _ _ _ _ _ us ws h1 h2 => match us, ws, h1, h2 with | [_, _], [], _, _ => rfl) (jc_p (ja_cons (je_name 0) (ja_cons (je_dget hu1 (je_name 1) je_str) ja_nil)))) sc_odd.nd)
      (jss_one (js_set 3 (je_op (od_add false) (je_name 3) (je_lst false (ja_cons (je_lst false (ja_cons (je_name 4) (ja_cons (je_name 4) ja_nil))) (ja_cons (je_tup (ja_cons (je_name 4) ja_nil)) (ja_cons (je_lst false (ja_cons (je_name 4) (ja_cons (je_dget hu1 (je_name 1) je_str) ja_nil))) (ja_cons (je_lst false (ja_cons (je_name 4) (ja_cons je_bl ja_nil))) (ja_cons (je_name 4) (ja_cons (je_disp (jps_cons (je_name 4) (je_name 4) jps_nil)) (ja_cons (je_lst false (ja_cons (je_name 4) (ja_cons je_int (ja_cons (je_name 4) ja_nil)))) ja_nil))))))))) sc_odd.nd))) jss_nil)
      (jss_one (js_ret (jf (ks := []) (n := 2) (idx := []) c_among hr (by decide) hg tkN (fun _ _ _ _ _ _ us ws h1 h2 => match us, ws, h1, h2 with | [_, _], [], _, _ => rfl) (jc_p (ja_cons (je_name 0) (ja_cons (je_op (od_add false) (je_name 3) (je_lst false (ja_cons je_non (ja_cons je_int (ja_cons je_bl (ja_cons je_str (ja_cons (je_tup ja_nil) (ja_cons je_dnewK (ja_cons je_str (ja_cons je_bl ja_nil)))))))))) ja_nil))))))))), ?_⟩
  clear hr hg tk hp hu hu1 hu2
  unfold sp_odd at h
  split at h
  case h_2 => exact h.elim
  rename_i p m
  obtain ⟨M, x6, rfl, hp, s, o, f, q⟩ := h
  have m0 := o.m0
  have m1 := o.m1
  have em := f.many
  have hin : ∀ {i : Int}, i ∈ M.ts.map MT.n → 0 ≤ i ∧ i < M.many := fun {i} h => by
    rw [f.seq] at h
    obtain ⟨j, hj, rfl⟩ := List.mem_map.mp h
    have := List.mem_range.mp hj
    omega
  walk_at "dl go"
  walk_at "dl rd"
  refine ⟨hp, by decide, by decide, fun b b0 b1 => ?_⟩
  have b2 : b < 10 ^ 29 := b1
  walk_at "dl rd"
  refine rd_gAt s ((fl6_ok x6).made M) ?_
  walk_at "dl rd"
  refine rd_gAt s ((fl6_ok x6).made M) ?_
  walk_at "dl rd"
  intro g hg
  have sg : GSt (fl6 x6) (put μ g (.dK [])) M := s.put (Sits.nf s hg)
  have pg : put μ g (.dK []) p = some .pot := put_at hp (ne_no hp hg)
  have dg : put μ g (.dK []) g = some (.dK (([] : List (Key × Int)).map fun q : Key × Int => (q.1, .int q.2))) := put_same
  have ls : Less (put μ g (.dK [])) μ := less1 hg
  generalize put μ g (.dK []) = μ1 at sg pg dg ls ⊢
  walk_at "dl rd"
  have tyI : ∀ i : Int, ∀ μ, kindD μ (.int i) "int" := fun _ _ => rfl
  have base : ∀ z ∈ [D.lst [.int M.many], .lst [.int (M.many + 1 + b)], .lst [.int (-1)], .lst [.bl true], .lst [.bl false], .lst [.non], .lst [.str "0"], .lst [.tup [.int 0]], .lst [.lst [.int 0]], .lst [.lst []], .lst [.at g]], OddG (M.ts.map MT.n) μ1 z := fun z hz => by
    simp only [List.mem_cons, List.not_mem_nil, or_false] at hz
    rcases hz with rfl | rfl | rfl | rfl | rfl | rfl | rfl | rfl | rfl | rfl | rfl
    · exact og_one (fun _ => .int _) ((Shw.int (by omega)).mono (by decide) (by decide)) (n := "int") (by decide) (fun _ => rfl) (decide_eq_false fun h => by have := hin h; omega)
    · exact og_one (fun _ => .int _) ((Shw.int (by omega)).mono (by decide) (by decide)) (n := "int") (by decide) (fun _ => rfl) (decide_eq_false fun h => by have := hin h; omega)
    · exact og_one (fun _ => .int _) ((Shw.int (by decide)).mono (by decide) (by decide)) (n := "int") (by decide) (fun _ => rfl) (decide_eq_false fun h => by have := hin h; omega)
    · exact og_one (fun _ => .bl _) ((Shw.bool _).mono (by decide) (by decide)) (n := "bool") (by decide) (fun _ => rfl) rfl
    · exact og_one (fun _ => .bl _) ((Shw.bool _).mono (by decide) (by decide)) (n := "bool") (by decide) (fun _ => rfl) rfl
    · exact og_one (fun _ => .non) (Shw.none.mono (by decide) (by decide)) (n := "NoneType") (by decide) (fun _ => rfl) rfl
    · exact og_one (fun _ => .str _) ((Tx.shw (n := 100) ⟨by decide, by decide +kernel⟩).mono (by decide) (by decide)) (n := "str") (by decide) (fun _ => rfl) rfl
    · exact og_one (fun _ => .tup (.cons (.int _) .nil)) ((Shw.tuple (n := 134) (k := 1) (xs := [.int 0]) fun q hq => by cases List.mem_singleton.mp hq; exact Shw.int (by decide)).mono (by decide) (by decide)) (n := "tuple") (by decide) (fun _ => rfl) rfl
    · exact og_one (fun _ => .lst (.cons (.int _) .nil)) ((Shw.list (n := 134) (k := 1) (xs := [.int 0]) fun q hq => by cases List.mem_singleton.mp hq; exact Shw.int (by decide)).mono (by decide) (by decide)) (n := "list") (by decide) (fun _ => rfl) rfl
    · exact og_one (fun _ => .lst .nil) ((shw_nil 0).1.mono (by decide) (by decide)) (n := "list") (by decide) (fun _ => rfl) rfl
    · exact og_ldict dg
  refine ⟨fun ρ' μ' => Less μ' μ1 ∧ ∃ (xs : List D) (y4 : Option D), ρ' = [some (.at p), some (.at M.m), some (.int b), some (.lst xs), y4] ∧ xs.length ≤ 50 ∧ ∀ z ∈ xs, OddG (M.ts.map MT.n) μ' z, ?_, ?_⟩
  · walk_at "dl rd"
    refine rd_gAt sg ((fl6_ok x6).made M) ?_
    walk_at "dl rd"
    refine rd_brD (fun c => ?_) fun c => ?_
    · walk_at "dl rd"
      refine rd_gAt sg ((fl6_ok x6).made M) ?_
      refine ⟨rfl, ?_⟩
      refine ⟨pg, by omega, by omega, fun n n0 n1 => ?_⟩
      have hn : n ∈ M.ts.map MT.n := by
        rw [f.seq]
        refine List.mem_map.mpr ⟨n.toNat, List.mem_range.mpr (by omega), by omega⟩
      walk_at "dl rd"
      refine rd_gAt sg ((fl6_ok x6).made M) ?_
      walk_at "dl rd"
      intro g2 hg2
      walk_at "dl rd"
      refine ⟨put_same, [(.inl n, .int n)], rfl, by simp, ?_⟩
      rw [put_put]
      have l2 : Less (put μ1 g2 (.dK (mergeD [] [(.inl n, .int n)]))) μ1 := less1 hg2
      have d2 : put μ1 g2 (.dK (mergeD [] [(.inl n, .int n)])) g2 = some (.dK (([(.inl n, n)] : List (Key × Int)).map fun q : Key × Int => (q.1, .int q.2))) := put_same
      generalize put μ1 g2 (.dK (mergeD [] [(.inl n, .int n)])) = μ2 at l2 d2 ⊢
      walk_at "dl rd"
      refine ⟨l2, _, _, rfl, by simp, fun z hz => ?_⟩
      have n40 : n.natAbs < 10 ^ 40 := by omega
      obtain ⟨k1, k2, k3⟩ := kv1_sz n40
      have shI : ∀ i : Int, 0 ≤ i → i ≤ 100000 → Shw (.int i) 134 1 := fun i a b => Shw.int (by omega)
      have ks : ∀ {y : D}, (∃ i, y = .int i) ∨ (∃ b, y = .bl b) → ∃ n, n ∈ dataTys ∧ ∀ μ, kindD μ y n := fun {y} h => by
        rcases h with ⟨i, rfl⟩ | ⟨b, rfl⟩
        · exact ⟨"int", by decide, fun _ => rfl⟩
        · exact ⟨"bool", by decide, fun _ => rfl⟩
      have nin : M.many ∉ M.ts.map MT.n := fun h => by have := hin h; omega
      rcases List.mem_append.mp hz with hz | hz
      · exact (base z hz).less l2
      · simp only [List.mem_cons, List.not_mem_nil, or_false] at hz
        rcases hz with rfl | rfl | rfl | rfl | rfl | rfl | rfl
        · exact og_lst (p := .list [.int n, .int n]) (fun _ => .lst (.cons (.int _) (.cons (.int _) .nil))) ((Shw.list (n := 134) (k := 1) (xs := [.int n, .int n]) fun q hq => by simp only [List.mem_cons, List.not_mem_nil, or_false, or_self] at hq; rw [hq]; exact shI n n0 (by omega)).mono (by simp) (by decide)) (by simp) (fun y hy => ks (.inl (by simp at hy; exact ⟨_, hy⟩))) fun _ xs e nd => by
            match xs, e with
            | [a, b], e => cases e; simp at nd
        · exact og_dat (n := "tuple") (p := .tuple [.int n]) (fun _ => .tup (.cons (.int _) .nil)) ((Shw.tuple (n := 134) (k := 1) (xs := [.int n]) fun q hq => by rw [List.mem_singleton.mp hq]; exact shI n n0 (by omega)).mono (by simp) (by decide)) (by decide) (by decide) fun _ => rfl
        · exact og_lst (p := .list [.int n, .int M.many]) (fun _ => .lst (.cons (.int _) (.cons (.int _) .nil))) ((Shw.list (n := 134) (k := 1) (xs := [.int n, .int M.many]) fun q hq => by
            simp only [List.mem_cons, List.not_mem_nil, or_false] at hq
            rcases hq with rfl | rfl
            · exact shI n n0 (by omega)
            · exact shI _ m0 m1).mono (by simp) (by decide)) (by simp) (fun y hy => ks (.inl (by simp only [List.mem_cons, List.not_mem_nil, or_false] at hy; rcases hy with rfl | rfl <;> exact ⟨_, rfl⟩))) fun c => absurd c (by simp [inTh, nin])
        · exact og_lst (p := .list [.int n, .bool true]) (fun _ => .lst (.cons (.int _) (.cons (.bl _) .nil))) ((Shw.list (n := 134) (k := 1) (xs := [.int n, .bool true]) fun q hq => by
            simp only [List.mem_cons, List.not_mem_nil, or_false] at hq
            rcases hq with rfl | rfl
            · exact shI n n0 (by omega)
            · exact (Shw.bool _).mono (by decide) (by decide)).mono (by simp) (by decide)) (by simp) (fun y hy => ks (by simp only [List.mem_cons, List.not_mem_nil, or_false] at hy; rcases hy with rfl | rfl <;> first | exact .inl ⟨_, rfl⟩ | exact .inr ⟨_, rfl⟩)) fun c => absurd c (by simp [inTh])
        · exact og_dat (n := "int") (fun _ => .int _) ((shI n n0 (by omega)).mono (by decide) (by decide)) (by decide) (by decide) fun _ => rfl
        · exact og_dict d2 k1 k2 k3
        · exact og_lst (p := .list [.int n, .int 0, .int n]) (fun _ => .lst (.cons (.int _) (.cons (.int _) (.cons (.int _) .nil)))) ((Shw.list (n := 134) (k := 1) (xs := [.int n, .int 0, .int n]) fun q hq => by
            simp only [List.mem_cons, List.not_mem_nil, or_false] at hq
            rcases hq with rfl | rfl | rfl
            · exact shI n n0 (by omega)
            · exact shI 0 (by decide) (by decide)
            · exact shI n n0 (by omega)).mono (by simp) (by decide)) (by simp) (fun y hy => ks (.inl (by simp only [List.mem_cons, List.not_mem_nil, or_false] at hy; rcases hy with rfl | rfl | rfl <;> exact ⟨_, rfl⟩))) fun _ xs e nd => by
            match xs, e with
            | [a, b, c], e => cases e; simp at nd
    · walk_at "dl kb"
      exact ⟨Less.refl _, _, _, rfl, by simp, base⟩
  · rintro ρ' μ2 ⟨l2, xs, y4, rfl, hl, hx⟩
    walk_at "dl rd"
    intro g3 hg3
    have l3 := less1 (o := .dK []) hg3
    have d3 : put μ2 g3 (.dK []) g3 = some (.dK (([] : List (Key × Int)).map fun q : Key × Int => (q.1, .int q.2))) := put_same
    have p3 : put μ2 g3 (.dK []) p = some .pot := less_at (l3.trans l2) pg
    walk_at "dl rd"
    refine ⟨_, p3, rfl, by simp, by simp; omega, fun z hz => ?_⟩
    refine wkR.same (q _ _ (l3.trans (l2.trans ls)) ?_)
    rcases List.mem_append.mp hz with hz | hz
    · exact (hx z hz).less l3
    · simp only [List.mem_cons, List.not_mem_nil, or_false] at hz
      rcases hz with rfl | rfl | rfl | rfl | rfl | rfl | rfl | rfl
      · exact og_dat (n := "NoneType") (fun _ => .non) (Shw.none.mono (by decide) (by decide)) (by decide) (by decide) fun _ => rfl
      · exact og_dat (n := "int") (fun _ => .int _) ((Shw.int (by decide)).mono (by decide) (by decide)) (by decide) (by decide) fun _ => rfl
      · exact og_dat (n := "bool") (fun _ => .bl _) ((Shw.bool _).mono (by decide) (by decide)) (by decide) (by decide) fun _ => rfl
      · exact og_dat (n := "str") (fun _ => .str _) ((Tx.shw (n := 100) ⟨by decide, fun _ h => by cases h⟩).mono (by decide) (by decide)) (by decide) (by decide) fun _ => rfl
      · exact og_dat (n := "tuple") (fun _ => .tup .nil) ((shw_nil 0).2.mono (by decide) (by decide)) (by decide) (by decide) fun _ => rfl
      · exact og_dict d3 (by decide +kernel) (by decide +kernel) (by decide +kernel)
      · exact og_dat (n := "str") (fun _ => .str _) ((Tx.shw (n := 100) ⟨by decide, by decide +kernel⟩).mono (by decide) (by decide)) (by decide) (by decide) fun _ => rfl
      · exact og_dat (n := "bool") (fun _ => .bl _) ((Shw.bool _).mono (by decide) (by decide)) (by decide) (by decide) fun _ => rfl
def sp_right (C_Store : Addr) : SpD := fun ds μ Q _ => match ds with
  | [.at p, .at t, .at m] => ∃ (M : MS) (S : SC) (b : Nat) (x6 : Option Addr) (μb : Mu), m = M.m ∧ t = S.t ∧ WdG C_Store (fl6 x6) μb μ M S b ∧ μb p = some .pot ∧ Fam M ∧ b ≤ 9000 ∧ ∀ μ' hd, WdG C_Store (fl6 (some hd)) μb μ' M S b → Q (.bl true) μ'
  | _ => False
theorem sc_right : FnScope ["_law_pot_here", "_law_den", "_law_own", "_law_gone", "_law_crew", "_law_due", "_law_handed", "_law_told", "_law_piece"] ["_law_pot_here", "_law_den", "_law_own"] (defScope s_right) := ⟨rfl, rfl, rfl, by decide +kernel, rfl, by decide +kernel, by decide +kernel⟩
theorem g_right (T : Txt K mg C_NoCount C_NoGroup C_NoHold C_NoName C_NoOrder C_NoThing C_Store C_StoreError) (d_right : Def0 K mg "_law_right" s_right) (c_holds : CalD P w K mg base 1 "_law_holds" s_holds ["_law_own", "_law_piece"] sp_holds) (c_left : CalD P w K mg base 2 "_law_left" s_left ["_law_own", "_law_some"] sp_left) (c_groups : CalD P w K mg base 3 "_law_groups" s_groups ["_law_pot_here", "_law_own"] sp_groups) (c_is_own_closed : CalD P w K mg base 1 "_law_is_own_closed" s_is_own_closed ["_law_own", "_law_crew", "_law_piece"] sp_is_own_closed) (c_is_closed : CalD P w K mg base 6 "is_closed" s_is_closed ["store", "group"] (sp_is_closed C_Store C_NoGroup)) (c_is_refused : CalD P w K mg base 7 "_law_is_refused" s_is_refused ["_law_den", "_law_piece"] (sp_is_refused C_Store)) (c_odd : CalD P w K mg base 3 "_law_odd" s_odd ["_law_pot_here", "_law_own"] sp_odd) : CalD P w K mg base 8 "_law_right" s_right ["_law_pot_here", "_law_den", "_law_own"] (sp_right C_Store) := by
  refine calD d_right sc_right (fun ds μ Q E h => by unfold sp_right at h; split at h <;> first | rfl | exact h.elim) ?_
  intro f cdv A outer s H EX ds μ Q E hg hr tk hp h
  obtain ⟨hu, hu1, hu2⟩ := rooms hr
  refine ⟨_, (jss_cons (js_dput hu1 (je_name 2) je_str (je_cty (cd_dictP rfl) T.n_dict (ja_cons (je_lc (own := [("_law_piece", 8)]) (g := gName 8) sc_right.nd (ji_range1 T.n_range (ja_cons (je_dget hu1 (je_name 2) je_str) ja_nil)) (blkOk_by (own := [("_law_piece", 8)]) (sc := defScope s_right) (N := ["_law_pot_here", "_law_den", "_law_own", "_law_gone", "_law_crew", "_law_due", "_law_handed", "_law_told", "_law_piece"]) (by decide +kernel)) (ct_name 8) (fun _ _ _ _ _ => (pg_name (i := 8) sc_right.nd rfl (by first | exact Or.inl rfl | exact Or.inr rfl))) (fun _ _ _ _ _ => jts_nil) (fun _ _ _ _ _ => (je_tup (ja_cons (je_name 8) (ja_cons (jf (ks := []) (n := 2) (idx := []) c_holds hr (by decide) hg tkN (fun _ _ _ _ _ _ us ws h1 h2 => match us, ws, h1, h2 with | [_, _], [], _, _ => rfl) (jc_p (ja_cons (je_name 2) (ja_cons (je_name 8) ja_nil)))) ja_nil))))) ja_nil)))
      (jss_cons (js_set 3 (jf (ks := []) (n := 2) (idx := []) c_left hr (by decide) hg tkN (fun _ _ _ _ _ _ us ws h1 h2 => match us, ws, h1, h2 with | [_, _], [], _, _ => rfl) (jc_p (ja_cons (je_name 2) (ja_cons (je_listRg false T.n_list T.n_range (je_dget hu1 (je_name 2) je_str)) ja_nil)))) sc_right.nd)
      (jss_cons (js_for hp (ji_list (jf (ks := []) (n := 2) (idx := []) c_groups hr (by decide) hg tkN (fun _ _ _ _ _ _ us ws h1 h2 => match us, ws, h1, h2 with | [_, _], [], _, _ => rfl) (jc_p (ja_cons (je_name 0) (ja_cons (je_name 2) ja_nil))))) (jg_name 4 sc_right.nd) (jss_cons (js_set 5 (je_cb (cd_all rfl) T.n_all (ja_cons (je_lc (own := [("_law_piece", 8)]) (g := gName 8) sc_right.nd (ji_list (je_name 4)) (blkOk_by (own := [("_law_piece", 8)]) (sc := defScope s_right) (N := ["_law_pot_here", "_law_den", "_law_own", "_law_gone", "_law_crew", "_law_due", "_law_handed", "_law_told", "_law_piece"]) (by decide +kernel)) (ct_name 8) (fun _ _ _ _ _ => (pg_name (i := 8) sc_right.nd rfl (by first | exact Or.inl rfl | exact Or.inr rfl))) (fun _ _ _ _ _ => jts_nil) (fun _ _ _ _ _ => (jf (ks := []) (n := 3) (idx := []) c_is_own_closed hr (by decide) hg tkN (fun _ _ _ _ _ _ us ws h1 h2 => match us, ws, h1, h2 with | [_, _, _], [], _, _ => rfl) (jc_p (ja_cons (je_name 2) (ja_cons (je_name 4) (ja_cons (je_name 8) ja_nil))))))) ja_nil)) sc_right.nd)
      (jss_cons (js_set 6 (je_cty (cd_list false) T.n_list (ja_cons (je_name 4) ja_nil)) sc_right.nd)
      (jss_cons (js_set 7 (je_lst false (ja_cons (jf (ks := []) (n := 2) (idx := []) c_is_closed hr (by decide) hg tkN (fun _ _ _ _ _ _ us ws h1 h2 => match us, ws, h1, h2 with | [_, _], [], _, _ => rfl) (jc_p (ja_cons (je_name 1) (ja_cons (je_name 6) ja_nil)))) (ja_cons (jf (ks := ["group", "store"]) (n := 0) (idx := [1, 0]) c_is_closed hr (by decide) hg tkN (fun _ _ _ _ _ _ us ws h1 h2 => match us, ws, h1, h2 with | [], [_, _], _, _ => rfl) (jc_k (jk_cons (je_name 6) (jk_cons (je_name 1) jk_nil)))) ja_nil))) sc_right.nd)
      (jss_cons (js_if (jt_w (jw_or (jt_cmp (od_ne hu) (je_cb (cd_repr hg hu) T.n_repr (ja_cons (je_name 7) ja_nil)) (je_cb (cd_repr hg hu) T.n_repr (ja_cons (je_lst false (ja_cons (je_name 5) (ja_cons (je_name 5) ja_nil))) ja_nil))) (jw_or1 (jt_cmp (od_ne hu) (je_name 6) (je_name 4))))) (jss_one (js_ret je_bl)) jss_nil)
      (jss_one (js_if (jt_w (jw_and (jt_val (je_name 5)) (jw_and1 (jt_not (jt_val (je_cb (cd_all rfl) T.n_all (ja_cons (je_lc (own := [("_law_piece", 8)]) (g := gName 8) sc_right.nd (ji_list (je_name 4)) (blkOk_by (own := [("_law_piece", 8)]) (sc := defScope s_right) (N := ["_law_pot_here", "_law_den", "_law_own", "_law_gone", "_law_crew", "_law_due", "_law_handed", "_law_told", "_law_piece"]) (by decide +kernel)) (ct_name 8) (fun _ _ _ _ _ => (pg_name (i := 8) sc_right.nd rfl (by first | exact Or.inl rfl | exact Or.inr rfl))) (fun _ _ _ _ _ => jts_nil) (fun _ _ _ _ _ => (je_cmp (od_in hu) (je_name 8) (je_name 3)))) ja_nil))))))) (jss_one (js_ret je_bl)) jss_nil)))))))
      (jss_one (js_ret (je_and (je_cmp od_isB (jf (ks := []) (n := 2) (idx := []) c_is_closed hr (by decide) hg tkN (fun _ _ _ _ _ _ us ws h1 h2 => match us, ws, h1, h2 with | [_, _], [], _, _ => rfl) (jc_p (ja_cons (je_name 1) (ja_cons (je_name 3) ja_nil)))) je_bl) (je_one (jf (ks := []) (n := 2) (idx := []) c_is_refused hr (by decide) hg tkN (fun _ _ _ _ _ _ us ws h1 h2 => match us, ws, h1, h2 with | [_, _], [], _, _ => rfl) (jc_p (ja_cons (je_name 1) (ja_cons (jf (ks := []) (n := 2) (idx := []) c_odd hr (by decide) hg tkN (fun _ _ _ _ _ _ us ws h1 h2 => match us, ws, h1, h2 with | [_, _], [], _, _ => rfl) (jc_p (ja_cons (je_name 0) (ja_cons (je_name 2) ja_nil)))) ja_nil))))))))))), ?_⟩
  clear hr hg tk hp hu hu1 hu2
  unfold sp_right at h
  split at h
  case h_2 => exact h.elim
  rename_i p t m
  obtain ⟨M, S, b, x6, μb, rfl, rfl, w, hpb, f, hb, q⟩ := h
  have pr := w.pr
  have o := pr.mok
  have m0 := o.m0
  have m1 := o.m1
  have tl := o.tl
  have em := f.many
  have nd := o.tn
  have hsm := hs_small pr
  have eNs := pr.rl.ns
  have nl : (M.ts.map MT.n).length ≤ 40 := by rw [List.length_map]; exact tl
  have hok : ∀ n ∈ M.ts.map MT.n, ∀ h ∈ M.hs n, h.length ≤ 100 ∧ ∀ x ∈ h, x ∈ M.ts.map MT.n := fun n hn h hh => by
    have := hs_ok pr hn hh
    exact ⟨by omega, this.2⟩
  have hok1 : ∀ n ∈ M.ts.map MT.n, ∀ h ∈ M.hs n, h.length ≤ 100 := fun n a h b => (hok n a h b).1
  have et : (List.range M.many.toNat).map (fun i : Nat => D.int (i : Int)) = (M.ts.map MT.n).map .int := by
    rw [em, Int.toNat_natCast, f.seq, List.map_map]
    rfl
  walk_at "dl go"
  unfold wLstRg
  walk_at "dl rd"
  refine rd_gAt w.ms ((fl6_ok x6).made M) ?_
  refine ⟨M.many, rfl, by omega, by omega, ?_⟩
  rw [et]
  refine lc_map (xs := M.ts.map MT.n) (f := .int) (h := fun n => .tup [.int n, .lst ((M.hs n).map hoD)]) (by omega) ?_ ?_ ?_
  · exact fun _ _ _ => trivial
  · intro n hn L acc K1 K2 hL k1
    walk_at "dl rd"
    refine rd_brT rfl ?_
    walk_at "dl rd"
    refine ⟨x6, M, rfl, w.ms.put (Sits.nf w.ms hL), o, ?_⟩
    walk_at "dl rd"
    exact k1
  have ek : ∀ l : List Int, l.map (fun n => D.tup [.int n, .lst ((M.hs n).map hoD)]) = (l.map fun n => ((.inl n : Key), D.lst ((M.hs n).map hoD))).map fun q => .tup [Dk q.1, q.2] := fun l => by rw [List.map_map]; rfl
  refine ⟨_, (M.ts.map MT.n).map fun n => ((.inl n : Key), D.lst ((M.hs n).map hoD)), rfl, ek _, fun hd hhd => ?_⟩
  have emr : mergeD [] ((M.ts.map MT.n).map fun n => ((.inl n : Key), D.lst ((M.hs n).map hoD))) = hdK M := by
    rw [merge_new, List.nil_append]
    · rfl
    rw [List.nil_append, List.map_map]
    exact nodup_inl (f := fun x : Int => x) (by rw [List.map_id']; exact nd)
  rw [emr]
  have hm : M.m ≠ hd := ne_no (GSt.m_ w.ms) hhd
  obtain ⟨w2, hh⟩ := w.holds (o := .dK (hdK M)) hhd
  walk_at "dl rd"
  refine rd_gPutHolds (x := x6) (show put μ hd (.dK (hdK M)) M.m = _ from by rw [put_ne hm]; exact GSt.m_ w.ms) ?_
  generalize put (put μ hd (.dK (hdK M))) M.m (.dK (fl6 (some hd) M)) = ν at w2 hh ⊢
  have hp : ν p = some .pot := w2.kp _ _ hpb
  walk_at "dl rd"
  refine rd_gAt w2.ms ((fl6_ok (some hd)).made M) ?_
  refine ⟨m0, by omega, rd_newF ?_⟩
  rw [et]
  refine ⟨rfl, ?_⟩
  refine ⟨M, hd, _, rfl, rfl, w2.ms, o, hh, nl, fun _ h => h, hok, fun gone gsub geq => ?_⟩
  have geq := geq rfl
  walk_at "dl rd"
  refine ⟨M, hd, rfl, hp, w2.ms, o, f, hh, hok, fun gs gl gok => ?_⟩
  have hc := fun n => can_at pr n
  have clS : ∀ g : List Int, (∀ x ∈ g, x ∈ M.ts.map MT.n) → clB M.hs g = clB S.hs_ g := fun g hg => cl_congr fun n hn => hs_same' pr (eNs ▸ hg n hn)
  walk_at "dl rd"
  refine ⟨fun i ρ μ' => (∃ y4 y5 y6 y7 y8, ρ = [some (.at p), some (.at S.t), some (.at M.m), some (.lst (gone.map .int)), y4, y5, y6, y7, y8]) ∧ μ' = ν, wk.same ⟨⟨_, _, _, _, _, rfl⟩, rfl⟩, fun _ _ _ _ _ => rfl, ?_, ?_⟩
  · rintro i d ρ μ' hdd ⟨⟨y4, y5, y6, y7, y8, rfl⟩, hμ⟩
    subst hμ
    obtain ⟨g, hg, _, rfl⟩ := map_get hdd
    obtain ⟨gn, gi⟩ := gok g hg
    have gi2 : ∀ x ∈ g, x ∈ S.ts.map Th.n := fun x hx => eNs ▸ gi x hx
    have g40 : g.length ≤ 40 := Nat.le_trans (len_sub gn gi) nl
    walk_at "dl rd"
    refine lc_map (xs := g) (f := .int) (h := fun n => .bl (keptB M.hs g n)) (by omega) ?_ ?_ ?_
    · exact fun _ _ _ => rfl
    · intro n hn L acc K1 K2 hL k1
      walk_at "dl rd"
      refine rd_brT rfl ?_
      walk_at "dl rd"
      refine ⟨M, hd, g, rfl, rfl, w2.ms.put (Sits.nf w2.ms hL), o, put_at hh (ne_no hh hL), gi n hn, hok1, ?_⟩
      exact k1
    have e9 : (g.map fun n => D.bl (keptB M.hs g n)) = (g.map fun n => keptB M.hs g n).map D.bl := (List.map_map ..).symm
    rw [e9]
    refine ⟨_, g.map fun n => keptB M.hs g n, rfl, rfl, ?_⟩
    rw [List.all_map]
    have ecl : g.all (id ∘ fun n => keptB M.hs g n) = clB M.hs g := rfl
    rw [ecl]
    walk_at "dl rd"
    refine rd_listL rfl ?_
    refine rd_newF ?_
    walk_at "dl rd"
    refine ⟨S, b, rfl, w2.st, pr.ok, by omega, hsm, .inl ⟨g, rfl, gn, gi2, ?_⟩⟩
    walk_at "dl rd"
    refine ⟨S, b, rfl, w2.st, pr.ok, by omega, hsm, .inl ⟨g, rfl, gn, gi2, ?_⟩⟩
    rw [← clS g gi]
    have shB : Shw (.list [.bool (clB M.hs g), .bool (clB M.hs g)]) 10 3 := (Shw.two (Shw.bool _) (Shw.bool _)).mono (by decide) (by decide)
    walk_at "dl rd"
    refine rd_repr (.lst (.cons (.bl _) (.cons (.bl _) .nil))) shB (by decide) (by decide) ?_
    walk_at "dl rd"
    refine rd_repr (.lst (.cons (.bl _) (.cons (.bl _) .nil))) shB (by decide) (by decide) ?_
    walk_at "dl rd"
    refine rd_brF (by simp) ?_
    walk_at "dl rd"
    refine rd_eqSame (.lst (rss_ints g)) (by have := depth_ints g; omega) ?_
    walk_at "dl kb"
    cases ec : clB M.hs g with
    | false =>
      walk_at "dl kb"
      exact wk.same ⟨⟨_, _, _, _, _, rfl⟩, rfl⟩
    | true =>
      walk_at "dl kb"
      refine lc_map (xs := g) (f := .int) (h := fun _ => .bl true) (by omega) ?_ ?_ ?_
      · exact fun _ _ _ => rfl
      · intro n hn L acc K1 K2 hL k1
        walk_at "dl rd"
        refine rd_brT rfl ?_
        walk_at "dl rd"
        refine rd_inInts (xs := gone) (n := false) rfl ?_
        have hgo : n ∈ gone := by
          rw [geq]
          exact List.mem_filter.mpr ⟨gi n hn, by rw [cl_lost (ns := M.ts.map MT.n) ec hn]; rfl⟩
        rw [show (if false = true then !decide (n ∈ gone) else decide (n ∈ gone)) = true from decide_eq_true hgo]
        exact k1
      have e9 : (g.map fun _ => D.bl true) = (g.map fun _ => true).map D.bl := (List.map_map ..).symm
      rw [e9]
      refine ⟨_, g.map fun _ => true, rfl, rfl, ?_⟩
      rw [show (g.map fun _ => true).all id = true from by simp]
      walk_at "dl kb"
      exact wk.same ⟨⟨_, _, _, _, _, rfl⟩, rfl⟩
  · rintro ρ μ' ⟨⟨y4, y5, y6, y7, y8, rfl⟩, hμ⟩
    subst hμ
    have gn : gone.Nodup := nd.sublist gsub
    have gi : ∀ x ∈ gone, x ∈ M.ts.map MT.n := fun x hx => gsub.subset hx
    have clG : clB S.hs_ gone = true := by
      rw [← clS gone gi, geq]
      exact cl_gone fun n hn h hh => (hok n hn h hh).2
    walk_at "dl rd"
    refine ⟨S, b, rfl, w2.st, pr.ok, by omega, hsm, .inl ⟨gone, rfl, gn, fun x hx => eNs ▸ gi x hx, ?_⟩⟩
    rw [clG]
    refine rd_isT ?_
    walk_at "dl kb"
    refine ⟨M, some hd, rfl, hp, w2.ms, o, f, fun d μ3 l3 og => ?_⟩
    refine ⟨rfl, ?_⟩
    refine ⟨S, b, rfl, w2.st.less l3, pr.ok, by omega, hsm, eNs ▸ og, ?_⟩
    exact wkR.less l3 (q _ hd w2)
def sp_law : SpD := fun ds μ Q _ => match ds with
  | [.at a] => ∃ ns : List Int, μ a = some (.ro (ns.map .int)) ∧ ns.length ≤ 63 ∧ Q (.bl true) μ
  | _ => False
theorem law_end (a : Addr) (ns : List Int) (h : ns.length ≤ 63) : sp_law [.at a] (scriptMu a ns) (fun d _ => d = .bl true) noX := ⟨ns, put_same, h, rfl⟩
theorem sc_law : FnScope ["_law_script", "_law_k", "_law_pot_here", "_law_own", "_law_den", "_law_turn"] ["_law_script"] (defScope s_law) := ⟨rfl, rfl, rfl, by decide +kernel, rfl, by decide +kernel, by decide +kernel⟩
theorem g_law (T : Txt K mg C_NoCount C_NoGroup C_NoHold C_NoName C_NoOrder C_NoThing C_Store C_StoreError) (d_law : Def0 K mg "law" s_law) (c_pot : CalD P w K mg base 1 "_law_pot" s_pot ["_law_script", "_law_k"] sp_pot) (c_begun : CalD P w K mg base 4 "_law_begun" s_begun ["_law_pot_here", "_law_most_hands"] sp_begun) (c_Store___init__ : MakD P w K mg base 3 "Store" C_Store "Store.__init__" s_Store___init__ ["self", "hands"] (sp_Store___init__ C_Store)) (c_take : CalD P w K mg base 1 "_law_take" s_take ["_law_pot_here", "_law_many"] sp_take) (c_all_done : CalD P w K mg base 7 "_law_all_done" s_all_done ["_law_den", "_law_own", "_law_deeds"] (sp_all_done C_Store)) (c_next : CalD P w K mg base 4 "_law_next" s_next ["_law_pot_here", "_law_own"] sp_next) (c_right : CalD P w K mg base 8 "_law_right" s_right ["_law_pot_here", "_law_den", "_law_own"] (sp_right C_Store)) (c_is_refused : CalD P w K mg base 7 "_law_is_refused" s_is_refused ["_law_den", "_law_piece"] (sp_is_refused C_Store)) (c_odd : CalD P w K mg base 3 "_law_odd" s_odd ["_law_pot_here", "_law_own"] sp_odd) : CalD P w K mg base 9 "law" s_law ["_law_script"] sp_law := by
  refine calD d_law sc_law (fun ds μ Q E h => by unfold sp_law at h; split at h <;> first | rfl | exact h.elim) ?_
  intro f cdv A outer s H EX ds μ Q E hg hr tk hp h
  obtain ⟨hu, hu1, hu2⟩ := rooms hr
  refine ⟨_, (jss_cons (js_for hp (ji_range1 T.n_range (ja_cons (je_cb (cd_max2 rfl) T.n_max (ja_cons je_int (ja_cons (je_cb (cd_min2 rfl) T.n_min (ja_cons je_int (ja_cons (je_cb cd_len T.n_len (ja_cons (je_name 0) ja_nil)) ja_nil))) ja_nil))) ja_nil)) (jg_name 1 sc_law.nd) (jss_cons (js_set 2 (jf (ks := []) (n := 2) (idx := []) c_pot hr (by decide) hg tkN (fun _ _ _ _ _ _ us ws h1 h2 => match us, ws, h1, h2 with | [_, _], [], _, _ => rfl) (jc_p (ja_cons (je_name 0) (ja_cons (je_name 1) ja_nil)))) sc_law.nd)
      (jss_cons (js_set 3 (jf (ks := []) (n := 2) (idx := []) c_begun hr (by decide) hg tkN (fun _ _ _ _ _ _ us ws h1 h2 => match us, ws, h1, h2 with | [_, _], [], _, _ => rfl) (jc_p (ja_cons (je_name 2) (ja_cons je_int ja_nil)))) sc_law.nd)
      (jss_cons (js_set 4 (jk (ks := []) (n := 2) (idx := []) c_Store___init__ hr (by decide) hg tkN (fun _ _ _ _ _ _ us ws h1 h2 => match us, ws, h1, h2 with | [_, _], [], _, _ => rfl) (jc_p (ja_cons (je_cty (cd_list false) T.n_list (ja_cons (je_dget hu1 (je_name 3) je_str) ja_nil)) ja_nil))) sc_law.nd)
      (jss_cons (js_for hp (ji_range1 T.n_range (ja_cons (jf (ks := []) (n := 2) (idx := []) c_take hr (by decide) hg tkN (fun _ _ _ _ _ _ us ws h1 h2 => match us, ws, h1, h2 with | [_, _], [], _, _ => rfl) (jc_p (ja_cons (je_name 2) (ja_cons je_int ja_nil)))) ja_nil)) (jg_name 5 sc_law.nd) (jss_cons (js_expr (jf (ks := []) (n := 3) (idx := []) c_all_done hr (by decide) hg tkN (fun _ _ _ _ _ _ us ws h1 h2 => match us, ws, h1, h2 with | [_, _, _], [], _, _ => rfl) (jc_p (ja_cons (je_name 4) (ja_cons (je_name 3) (ja_cons (jf (ks := []) (n := 2) (idx := []) c_next hr (by decide) hg tkN (fun _ _ _ _ _ _ us ws h1 h2 => match us, ws, h1, h2 with | [_, _], [], _, _ => rfl) (jc_p (ja_cons (je_name 2) (ja_cons (je_name 3) ja_nil)))) ja_nil))))))
      (jss_one (js_if (jt_w (jw_and (jt_cmp (od_eq hu) (jf (ks := []) (n := 2) (idx := []) c_take hr (by decide) hg tkN (fun _ _ _ _ _ _ us ws h1 h2 => match us, ws, h1, h2 with | [_, _], [], _, _ => rfl) (jc_p (ja_cons (je_name 2) (ja_cons je_int ja_nil)))) je_int) (jw_and1 (jt_not (jt_val (jf (ks := []) (n := 3) (idx := []) c_right hr (by decide) hg tkN (fun _ _ _ _ _ _ us ws h1 h2 => match us, ws, h1, h2 with | [_, _, _], [], _, _ => rfl) (jc_p (ja_cons (je_name 2) (ja_cons (je_name 4) (ja_cons (je_name 3) ja_nil)))))))))) (jss_one (js_ret je_bl)) jss_nil))))
      (jss_one (js_if (jt_w (jw_or (jt_not (jt_val (jf (ks := []) (n := 3) (idx := []) c_right hr (by decide) hg tkN (fun _ _ _ _ _ _ us ws h1 h2 => match us, ws, h1, h2 with | [_, _, _], [], _, _ => rfl) (jc_p (ja_cons (je_name 2) (ja_cons (je_name 4) (ja_cons (je_name 3) ja_nil))))))) (jw_or1 (jt_not (jt_val (jf (ks := []) (n := 2) (idx := []) c_is_refused hr (by decide) hg tkN (fun _ _ _ _ _ _ us ws h1 h2 => match us, ws, h1, h2 with | [_, _], [], _, _ => rfl) (jc_p (ja_cons (je_name 4) (ja_cons (jf (ks := []) (n := 2) (idx := []) c_odd hr (by decide) hg tkN (fun _ _ _ _ _ _ us ws h1 h2 => match us, ws, h1, h2 with | [_, _], [], _, _ => rfl) (jc_p (ja_cons (je_name 2) (ja_cons (je_name 3) ja_nil)))) ja_nil))))))))) (jss_one (js_ret je_bl)) jss_nil)))))))
      (jss_one (js_ret je_bl))), ?_⟩
  clear hr hg tk hp hu hu1 hu2
  unfold sp_law at h
  split at h
  case h_2 => exact h.elim
  rename_i a0
  obtain ⟨ns, ha, hn63, q⟩ := h
  have hcnt : (if (if ((ns.map D.int).length : Int) < 3 then ((ns.map D.int).length : Int) else 3) > 1 then (if ((ns.map D.int).length : Int) < 3 then ((ns.map D.int).length : Int) else 3) else 1).toNat ≤ 3 := by
    split <;> split <;> omega
  walk_at "dl go"
  walk_at "dl rd"
  generalize (if (if ((ns.map D.int).length : Int) < 3 then ((ns.map D.int).length : Int) else 3) > 1 then (if ((ns.map D.int).length : Int) < 3 then ((ns.map D.int).length : Int) else 3) else 1).toNat = cnt at hcnt ⊢
  refine ⟨fun i ρ μ' => μ' = μ ∧ ∃ x1 x2 x3 x4 x5, ρ = [some (.at a0), x1, x2, x3, x4, x5], wk.same ⟨rfl, _, _, _, _, _, rfl⟩, fun _ _ _ _ _ => trivial, ?_, fun ρ μ' ⟨hμ, _⟩ => (by subst hμ; walk_at "dl rd"; exact wkR.same q)⟩
  rintro i d ρ μ' hd ⟨hμ, x1, x2, x3, x4, x5, rfl⟩
  subst μ'
  obtain ⟨k, hk, _, rfl⟩ := map_get hd
  have hk2 : k < cnt := List.mem_range.mp hk
  walk_at "dl rd"
  refine ⟨ns, ha, by omega, by omega, fun p hp => ?_⟩
  walk_at "dl rd"
  have pot0 : put μ p .pot p = some .pot := put_same
  refine ⟨pot0, by decide, by decide, fun μ1 M xs e1 e2 e3 e4 e5 e6 e7 e8 e9 e10 e11 sM fM smM => ?_⟩
  have exs : M.rs.map (fun q : Str × List Int => q.1) = xs := by rw [e1, List.map_map]; exact List.map_id _
  have e60 : fl5 = fl6 none := funext fun M => fl6_none.symm
  rw [e60] at sM fM smM
  walk_at "dl rd"
  refine rd_gAt sM fl6_hands ?_
  rw [exs]
  refine ⟨_, _, rfl, rfl, rd_newF ?_⟩
  refine ⟨rfl, ?_⟩
  intro t ht
  refine ⟨put_same, xs, rfl, e2, e3, e4, e5, fun μ2 S f1 f2 f3 f4 f5 f6 f7 s2 fr2 sm2 => ⟨rfl, ?_⟩⟩
  subst f1
  have w0 : WdG C_Store (fl6 none) (put μ p .pot) μ2 M S 0 := WdG.init sM fM smM ht s2 fr2 sm2 (Pr.init e1 e2 e3 e4 e5 e6 e7 e8 (by omega) e10 f2 f3 f4 f6 f7)
  have fm0 := Fam.init e6 e7 e9 e11
  walk_at "dl rd"
  refine ⟨w0.kp _ _ pot0, by decide, by decide, fun tn t0 t1 => ?_⟩
  refine ⟨tn, rfl, by omega, by omega, ?_⟩
  refine ⟨fun i ρ μ' => ∃ (x6 : Option Addr) (M' : MS) (S' : SC), (∃ y1, ρ = [some (.at a0), some (.int k), some (.at p), some (.at M.m), some (.at S.t), y1]) ∧ M'.m = M.m ∧ S'.t = S.t ∧ WdG C_Store (fl6 x6) (put μ p .pot) μ' M' S' (20 * i) ∧ Fam M', wk.same ⟨none, M, S, ⟨_, rfl⟩, rfl, rfl, w0, fm0⟩, fun _ _ _ _ _ => trivial, ?_, ?_⟩
  · rintro i d ρ μ' hd ⟨x6, M1, S1, ⟨y1, rfl⟩, em, et, w1, g1⟩
    have hi := (List.getElem?_eq_some_iff.mp hd).1
    rw [List.length_map, List.length_range] at hi
    have hi60 : i ≤ 60 := by omega
    walk_at "dl rd"
    refine ⟨x6, M1, em.symm, w1.kp _ _ pot0, w1.ms, w1.pr.mok, fun dds sh l20 => ?_⟩
    walk_at "dl rd"
    refine ⟨x6, M1, S1, _, _, dds, em.symm, et.symm, rfl, w1, g1, sh, l20, by omega, by have := g1.sm w1.pr; omega, fun μ3 M3 S3 em3 et3 g3 w3 _ => ?_⟩
    walk_at "dl rd"
    refine ⟨w3.kp _ _ pot0, by decide, by decide, fun z z0 z1 => ?_⟩
    have nx : ∀ {x μ4}, WdG C_Store (fl6 x) (put μ p .pot) μ4 M3 S3 (20 * i + 20) → wk (fun ρ μ' => ∃ (x6 : Option Addr) (M' : MS) (S' : SC), (∃ y1, ρ = [some (.at a0), some (.int k), some (.at p), some (.at M.m), some (.at S.t), y1]) ∧ M'.m = M.m ∧ S'.t = S.t ∧ WdG C_Store (fl6 x6) (put μ p .pot) μ' M' S' (20 * (i + 1)) ∧ Fam M') [some (.at a0), some (.int k), some (.at p), some (.at M.m), some (.at S.t), some d] μ4 := fun {x μ4} w4 => wk.same ⟨x, M3, S3, ⟨_, rfl⟩, em3.trans em, et3.trans et, w4.mono (by omega), g3⟩
    walk_at "dl rd"
    refine rd_br (fun c => ?_) fun c => ?_
    · walk_at "dl rd"
      refine ⟨M3, S3, _, x6, _, (em3.trans em).symm, (et3.trans et).symm, w3, pot0, g3, by omega, fun μ4 hd4 w4 => ?_⟩
      walk_at "dl kb"
      exact nx w4
    · walk_at "dl kb"
      exact nx w3
  · rintro ρ μ' ⟨x6, M1, S1, ⟨y1, rfl⟩, em, et, w1, g1⟩
    rw [List.length_map, List.length_range] at w1
    walk_at "dl rd"
    refine ⟨M1, S1, _, x6, _, em.symm, et.symm, w1, pot0, g1, by omega, fun μ4 hd4 w4 => ?_⟩
    walk_at "dl kb"
    refine ⟨M1, some hd4, em.symm, w4.kp _ _ pot0, w4.ms, w4.pr.mok, g1, fun d μ5 l5 og => ?_⟩
    refine ⟨rfl, ?_⟩
    refine ⟨S1, _, et.symm, w4.st.less l5, w4.pr.ok, by omega, hs_small w4.pr, w4.pr.rl.ns ▸ og, ?_⟩
    walk_at "dl kb"
    exact wk.same' (l5.trans (w4.less.trans (less1 hp))) ⟨rfl, _, _, _, _, _, rfl⟩
end Dl.M
namespace Dl.M
open PySem PySem.Spec PyProof.Rows L2 Dl
theorem all_mk {l : PySem.W.OpenLaw} {w : World} {K : Frg} {h : Heap} {mg : Str → Option Value} {fa C_NoCount C_NoGroup C_NoHold C_NoName C_NoOrder C_NoThing C_Store C_StoreError f0 f1 f2 f3 f4 f5 f6 f7 f8 f9 f10 f11 f12 f13 f14 f15 f16 f17 f18 f19 f20 f21 f22 f23 f24 f25 f26 f27 f28 f29 f30 f31 f32 f33 f34 f35 f36 f37 f38 f39 f40 f41 f42 f43 f44 f45 f46 f47 f48 f49 f50 f51 f52 f53 f54 f55 f56 f57 : Addr} (X : K.In h) (G : h.Ns mainGlobals mg) (hfa : mg "law" = some (.ref fa))
    {od0 an0 od1 an1 od2 an2 od3 an3 od4 an4 od5 an5 od6 an6 od7 an7 od8 an8 od9 an9 od10 an10 od11 an11 od12 an12 od13 an13 od14 an14 od15 an15 od16 an16 od17 an17 od18 an18 od19 an19 od20 an20 od21 an21 od22 an22 od23 an23 od24 an24 od25 an25 od26 an26 od27 an27 od28 an28 od29 an29 od30 an30 od31 an31 od32 an32 od33 an33 od34 an34 od35 an35 od36 an36 od37 an37 od38 an38 od39 an39 od40 an40 od41 an41 od42 an42 od43 an43 od44 an44 od45 an45 od46 an46 od47 an47 od48 an48 od49 an49 od50 an50 od51 an51 od52 an52 od53 an53 od54 an54 od55 an55 od56 an56 od57 an57 : Option Addr} {sl0 sl1 sl2 sl3 sl4 sl5 sl6 sl7 sl8 sl9 sl10 sl11 sl12 sl13 sl14 sl15 sl16 sl17 sl18 sl19 sl20 sl21 sl22 sl23 sl24 sl25 sl26 sl27 sl28 sl29 sl30 sl31 sl32 sl33 sl34 sl35 sl36 sl37 sl38 sl39 sl40 sl41 sl42 sl43 sl44 sl45 sl46 sl47 sl48 sl49 sl50 sl51 sl52 sl53 sl54 sl55 sl56 sl57 : Array (Option Value)} {oc0 kV0 dc0 pm0 cd0 ct0 oc1 kV1 dc1 pm1 cd1 ct1 oc2 kV2 dc2 pm2 cd2 ct2 oc3 kV3 dc3 pm3 cd3 ct3 oc4 kV4 dc4 pm4 cd4 ct4 oc5 kV5 dc5 pm5 cd5 ct5 oc6 kV6 dc6 pm6 cd6 ct6 oc7 kV7 dc7 pm7 cd7 ct7 oc8 kV8 dc8 pm8 cd8 ct8 oc9 kV9 dc9 pm9 cd9 ct9 oc10 kV10 dc10 pm10 cd10 ct10 oc11 kV11 dc11 pm11 cd11 ct11 oc12 kV12 dc12 pm12 cd12 ct12 oc13 kV13 dc13 pm13 cd13 ct13 oc14 kV14 dc14 pm14 cd14 ct14 oc15 kV15 dc15 pm15 cd15 ct15 oc16 kV16 dc16 pm16 cd16 ct16 oc17 dc17 pm17 cd17 ct17 oc18 kV18 dc18 pm18 cd18 ct18 oc19 kV19 dc19 pm19 cd19 ct19 oc20 kV20 dc20 pm20 cd20 ct20 oc21 kV21 dc21 pm21 cd21 ct21 oc22 kV22 dc22 pm22 cd22 ct22 oc23 kV23 dc23 pm23 cd23 ct23 oc24 kV24 dc24 pm24 cd24 ct24 oc25 kV25 dc25 pm25 cd25 ct25 oc26 kV26 dc26 pm26 cd26 ct26 oc27 kV27 dc27 pm27 cd27 ct27 oc28 kV28 dc28 pm28 cd28 ct28 oc29 kV29 dc29 pm29 cd29 ct29 oc30 kV30 dc30 pm30 cd30 ct30 oc31 kV31 dc31 pm31 cd31 ct31 oc32 kV32 dc32 pm32 cd32 ct32 oc33 kV33 dc33 pm33 cd33 ct33 oc34 kV34 dc34 pm34 cd34 ct34 oc35 kV35 dc35 pm35 cd35 ct35 oc36 kV36 dc36 pm36 cd36 ct36 oc37 kV37 dc37 pm37 cd37 ct37 oc38 kV38 dc38 pm38 cd38 ct38 oc39 kV39 dc39 pm39 cd39 ct39 oc40 kV40 dc40 pm40 cd40 ct40 oc41 kV41 dc41 pm41 cd41 ct41 oc42 kV42 dc42 pm42 cd42 ct42 oc43 kV43 dc43 pm43 cd43 ct43 oc44 kV44 dc44 pm44 cd44 ct44 oc45 kV45 dc45 pm45 cd45 ct45 oc46 kV46 dc46 pm46 cd46 ct46 oc47 kV47 dc47 pm47 cd47 ct47 oc48 kV48 dc48 pm48 cd48 ct48 oc49 kV49 dc49 pm49 cd49 ct49 oc50 kV50 dc50 pm50 cd50 ct50 oc51 kV51 dc51 pm51 cd51 ct51 oc52 kV52 dc52 pm52 cd52 ct52 oc53 kV53 dc53 pm53 cd53 ct53 oc54 kV54 dc54 pm54 cd54 ct54 oc55 kV55 dc55 pm55 cd55 ct55 oc56 kV56 dc56 pm56 cd56 ct56 oc57 kV57 dc57 pm57 cd57 ct57 : Value}
    {kd17 : Addr} {kt17 : Tok}
    (aC_NoCount : PySem.W.nsIn K mainGlobals "NoCount" = some (some (.ref C_NoCount)))
    (tC_NoCount : PySem.W.typeIn K (.ref C_NoCount) = some (.type "type"))
    (ix_NoCount : PySem.W.isClsIn K C_NoCount = true)
    (aC_NoGroup : PySem.W.nsIn K mainGlobals "NoGroup" = some (some (.ref C_NoGroup)))
    (eo_NoGroup : PySem.W.excIn K C_NoGroup [.type "ValueError", .type "Exception", .type "BaseException", .type "object"] "ValueError.__new__" = true)
    (kC_NoGroup : PySem.W.keepIn K (.ref C_NoGroup) = true)
    (eC_NoGroup : PySem.W.subIn K (.ref C_NoGroup) (.type "BaseException") = some true)
    (tC_NoGroup : PySem.W.typeIn K (.ref C_NoGroup) = some (.type "type"))
    (ga_NoGroup : PySem.W.findIn K (.ref C_NoGroup) "__getattribute__" = some (some (.builtin "BaseException.__getattribute__")))
    (gt_NoGroup : PySem.W.findIn K (.ref C_NoGroup) "__getattr__" = some none)
    (hd_NoGroup : PySem.W.hasDictIn K C_NoGroup = true)
    (ix_NoGroup : PySem.W.isClsIn K C_NoGroup = true)
    (ci1_NoGroup : PySem.W.findIn K (.ref C_NoGroup) "__class__" = some (some (.builtin "object.__class__")))
    (ci2_NoGroup : PySem.W.specialIn K (.builtin "object.__class__") "__get__" = some (some (.builtin "getset_descriptor.__get__")))
    (ci3_NoGroup : PySem.W.takesIn K (.builtin "object.__class__") = some true)
    (ci4_NoGroup : PySem.W.mroIn K C_NoGroup (.type "object") = some true)
    (ss_NoGroup : PySem.W.subIn K (.ref C_NoGroup) (.ref C_NoGroup) = some true)
    (aC_NoHold : PySem.W.nsIn K mainGlobals "NoHold" = some (some (.ref C_NoHold)))
    (tC_NoHold : PySem.W.typeIn K (.ref C_NoHold) = some (.type "type"))
    (ix_NoHold : PySem.W.isClsIn K C_NoHold = true)
    (aC_NoName : PySem.W.nsIn K mainGlobals "NoName" = some (some (.ref C_NoName)))
    (tC_NoName : PySem.W.typeIn K (.ref C_NoName) = some (.type "type"))
    (ix_NoName : PySem.W.isClsIn K C_NoName = true)
    (aC_NoOrder : PySem.W.nsIn K mainGlobals "NoOrder" = some (some (.ref C_NoOrder)))
    (tC_NoOrder : PySem.W.typeIn K (.ref C_NoOrder) = some (.type "type"))
    (ix_NoOrder : PySem.W.isClsIn K C_NoOrder = true)
    (aC_NoThing : PySem.W.nsIn K mainGlobals "NoThing" = some (some (.ref C_NoThing)))
    (tC_NoThing : PySem.W.typeIn K (.ref C_NoThing) = some (.type "type"))
    (ix_NoThing : PySem.W.isClsIn K C_NoThing = true)
    (aC_StoreError : PySem.W.nsIn K mainGlobals "StoreError" = some (some (.ref C_StoreError)))
    (tC_StoreError : PySem.W.typeIn K (.ref C_StoreError) = some (.type "type"))
    (ix_StoreError : PySem.W.isClsIn K C_StoreError = true)
    (h_ib_NoGroup_ValueError : PySem.W.subIn K (.ref C_NoGroup) (.type "ValueError") = some true)
    (h_ik_NoGroup_NoCount : PySem.W.subIn K (.ref C_NoGroup) (.ref C_NoCount) = some false)
    (h_ik_NoGroup_NoHold : PySem.W.subIn K (.ref C_NoGroup) (.ref C_NoHold) = some false)
    (h_ik_NoGroup_NoName : PySem.W.subIn K (.ref C_NoGroup) (.ref C_NoName) = some false)
    (h_ik_NoGroup_NoOrder : PySem.W.subIn K (.ref C_NoGroup) (.ref C_NoOrder) = some false)
    (h_ik_NoGroup_NoThing : PySem.W.subIn K (.ref C_NoGroup) (.ref C_NoThing) = some false)
    (h_ik_NoGroup_StoreError : PySem.W.subIn K (.ref C_NoGroup) (.ref C_StoreError) = some true)
    (aC_Store : PySem.W.nsIn K mainGlobals "Store" = some (some (.ref C_Store)))
    (pg_Store : PySem.W.plainGet K C_Store Str.empty = true)
    (hd_Store : PySem.W.hasDictIn K C_Store = true)
    (po_Store : PySem.W.plainOver K C_Store = true)
    (sa_Store : PySem.W.findIn K (.ref C_Store) "__setattr__" = some (some (.builtin "object.__setattr__")))
    (mk_Store : PySem.W.makesIn K C_Store = true)
    (kc_Store : PySem.W.keepIn K (.ref C_Store) = true)
    (a0 : PySem.W.nsIn K mainGlobals "_law_pot" = some (some (.ref f0)))
    (l0 : K.lookup f0 = some ⟨oc0, od0, .func (PySem.W.fnOf "_law_pot" "_law_pot" (defArgs s_pot) (defBody s_pot) (defScope s_pot) .none kV0 dc0 pm0 an0 cd0 ct0), sl0⟩)
    (c0 : PySem.W.codeIn K cd0 "_law_pot" = true)
    (k0 : PySem.W.keepIn K (.ref f0) = true)
    (a1 : PySem.W.nsIn K mainGlobals "_law_take" = some (some (.ref f1)))
    (l1 : K.lookup f1 = some ⟨oc1, od1, .func (PySem.W.fnOf "_law_take" "_law_take" (defArgs s_take) (defBody s_take) (defScope s_take) .none kV1 dc1 pm1 an1 cd1 ct1), sl1⟩)
    (c1 : PySem.W.codeIn K cd1 "_law_take" = true)
    (k1 : PySem.W.keepIn K (.ref f1) = true)
    (a2 : PySem.W.nsIn K mainGlobals "_law_name" = some (some (.ref f2)))
    (l2 : K.lookup f2 = some ⟨oc2, od2, .func (PySem.W.fnOf "_law_name" "_law_name" (defArgs s_name) (defBody s_name) (defScope s_name) .none kV2 dc2 pm2 an2 cd2 ct2), sl2⟩)
    (c2 : PySem.W.codeIn K cd2 "_law_name" = true)
    (k2 : PySem.W.keepIn K (.ref f2) = true)
    (a3 : PySem.W.nsIn K mainGlobals "_law_names" = some (some (.ref f3)))
    (l3 : K.lookup f3 = some ⟨oc3, od3, .func (PySem.W.fnOf "_law_names" "_law_names" (defArgs s_names) (defBody s_names) (defScope s_names) .none kV3 dc3 pm3 an3 cd3 ct3), sl3⟩)
    (c3 : PySem.W.codeIn K cd3 "_law_names" = true)
    (k3 : PySem.W.keepIn K (.ref f3) = true)
    (a4 : PySem.W.nsIn K mainGlobals "_law_begun" = some (some (.ref f4)))
    (l4 : K.lookup f4 = some ⟨oc4, od4, .func (PySem.W.fnOf "_law_begun" "_law_begun" (defArgs s_begun) (defBody s_begun) (defScope s_begun) .none kV4 dc4 pm4 an4 cd4 ct4), sl4⟩)
    (c4 : PySem.W.codeIn K cd4 "_law_begun" = true)
    (k4 : PySem.W.keepIn K (.ref f4) = true)
    (a5 : PySem.W.nsIn K mainGlobals "is_name" = some (some (.ref f5)))
    (l5 : K.lookup f5 = some ⟨oc5, od5, .func (PySem.W.fnOf "is_name" "is_name" (defArgs s_is_name) (defBody s_is_name) (defScope s_is_name) .none kV5 dc5 pm5 an5 cd5 ct5), sl5⟩)
    (c5 : PySem.W.codeIn K cd5 "is_name" = true)
    (k5 : PySem.W.keepIn K (.ref f5) = true)
    (a6 : PySem.W.nsIn K mainGlobals "want_hands" = some (some (.ref f6)))
    (l6 : K.lookup f6 = some ⟨oc6, od6, .func (PySem.W.fnOf "want_hands" "want_hands" (defArgs s_want_hands) (defBody s_want_hands) (defScope s_want_hands) .none kV6 dc6 pm6 an6 cd6 ct6), sl6⟩)
    (c6 : PySem.W.codeIn K cd6 "want_hands" = true)
    (k6 : PySem.W.keepIn K (.ref f6) = true)
    (a7 : PySem.W.findIn K (.ref C_Store) "__init__" = some (some (.ref f7)))
    (i7 : PySem.W.isFn K (.ref f7) = true)
    (l7 : K.lookup f7 = some ⟨oc7, od7, .func (PySem.W.fnOf "__init__" "Store.__init__" (defArgs s_Store___init__) (defBody s_Store___init__) (defScope s_Store___init__) .none kV7 dc7 pm7 an7 cd7 ct7), sl7⟩)
    (c7 : PySem.W.codeIn K cd7 "Store.__init__" = true)
    (k7 : PySem.W.keepIn K (.ref f7) = true)
    (a8 : PySem.W.nsIn K mainGlobals "_law_row_in" = some (some (.ref f8)))
    (l8 : K.lookup f8 = some ⟨oc8, od8, .func (PySem.W.fnOf "_law_row_in" "_law_row_in" (defArgs s_row_in) (defBody s_row_in) (defScope s_row_in) .none kV8 dc8 pm8 an8 cd8 ct8), sl8⟩)
    (c8 : PySem.W.codeIn K cd8 "_law_row_in" = true)
    (k8 : PySem.W.keepIn K (.ref f8) = true)
    (a9 : PySem.W.nsIn K mainGlobals "_law_is_let" = some (some (.ref f9)))
    (l9 : K.lookup f9 = some ⟨oc9, od9, .func (PySem.W.fnOf "_law_is_let" "_law_is_let" (defArgs s_is_let) (defBody s_is_let) (defScope s_is_let) .none kV9 dc9 pm9 an9 cd9 ct9), sl9⟩)
    (c9 : PySem.W.codeIn K cd9 "_law_is_let" = true)
    (k9 : PySem.W.keepIn K (.ref f9) = true)
    (a10 : PySem.W.findIn K (.ref C_Store) "want_hand" = some (some (.ref f10)))
    (i10 : PySem.W.isFn K (.ref f10) = true)
    (l10 : K.lookup f10 = some ⟨oc10, od10, .func (PySem.W.fnOf "want_hand" "Store.want_hand" (defArgs s_Store_want_hand) (defBody s_Store_want_hand) (defScope s_Store_want_hand) .none kV10 dc10 pm10 an10 cd10 ct10), sl10⟩)
    (c10 : PySem.W.codeIn K cd10 "Store.want_hand" = true)
    (k10 : PySem.W.keepIn K (.ref f10) = true)
    (a11 : PySem.W.nsIn K mainGlobals "want_word" = some (some (.ref f11)))
    (l11 : K.lookup f11 = some ⟨oc11, od11, .func (PySem.W.fnOf "want_word" "want_word" (defArgs s_want_word) (defBody s_want_word) (defScope s_want_word) .none kV11 dc11 pm11 an11 cd11 ct11), sl11⟩)
    (c11 : PySem.W.codeIn K cd11 "want_word" = true)
    (k11 : PySem.W.keepIn K (.ref f11) = true)
    (a12 : PySem.W.findIn K (.ref C_Store) "want_room" = some (some (.ref f12)))
    (i12 : PySem.W.isFn K (.ref f12) = true)
    (l12 : K.lookup f12 = some ⟨oc12, od12, .func (PySem.W.fnOf "want_room" "Store.want_room" (defArgs s_Store_want_room) (defBody s_Store_want_room) (defScope s_Store_want_room) .none kV12 dc12 pm12 an12 cd12 ct12), sl12⟩)
    (c12 : PySem.W.codeIn K cd12 "Store.want_room" = true)
    (k12 : PySem.W.keepIn K (.ref f12) = true)
    (a13 : PySem.W.findIn K (.ref C_Store) "come_in" = some (some (.ref f13)))
    (i13 : PySem.W.isFn K (.ref f13) = true)
    (l13 : K.lookup f13 = some ⟨oc13, od13, .func (PySem.W.fnOf "come_in" "Store.come_in" (defArgs s_Store_come_in) (defBody s_Store_come_in) (defScope s_Store_come_in) .none kV13 dc13 pm13 an13 cd13 ct13), sl13⟩)
    (c13 : PySem.W.codeIn K cd13 "Store.come_in" = true)
    (k13 : PySem.W.keepIn K (.ref f13) = true)
    (a14 : PySem.W.findIn K (.ref C_Store) "add_hold" = some (some (.ref f14)))
    (i14 : PySem.W.isFn K (.ref f14) = true)
    (l14 : K.lookup f14 = some ⟨oc14, od14, .func (PySem.W.fnOf "add_hold" "Store.add_hold" (defArgs s_Store_add_hold) (defBody s_Store_add_hold) (defScope s_Store_add_hold) .none kV14 dc14 pm14 an14 cd14 ct14), sl14⟩)
    (c14 : PySem.W.codeIn K cd14 "Store.add_hold" = true)
    (k14 : PySem.W.keepIn K (.ref f14) = true)
    (a15 : PySem.W.findIn K (.ref C_Store) "have" = some (some (.ref f15)))
    (i15 : PySem.W.isFn K (.ref f15) = true)
    (l15 : K.lookup f15 = some ⟨oc15, od15, .func (PySem.W.fnOf "have" "Store.have" (defArgs s_Store_have) (defBody s_Store_have) (defScope s_Store_have) .none kV15 dc15 pm15 an15 cd15 ct15), sl15⟩)
    (c15 : PySem.W.codeIn K cd15 "Store.have" = true)
    (k15 : PySem.W.keepIn K (.ref f15) = true)
    (a16 : PySem.W.findIn K (.ref C_Store) "done" = some (some (.ref f16)))
    (i16 : PySem.W.isFn K (.ref f16) = true)
    (l16 : K.lookup f16 = some ⟨oc16, od16, .func (PySem.W.fnOf "done" "Store.done" (defArgs s_Store_done) (defBody s_Store_done) (defScope s_Store_done) .none kV16 dc16 pm16 an16 cd16 ct16), sl16⟩)
    (c16 : PySem.W.codeIn K cd16 "Store.done" = true)
    (k16 : PySem.W.keepIn K (.ref f16) = true)
    (a17 : PySem.W.findIn K (.ref C_Store) "make" = some (some (.ref f17)))
    (i17 : PySem.W.isFn K (.ref f17) = true)
    (l17 : K.lookup f17 = some ⟨oc17, od17, .func (PySem.W.fnOf "make" "Store.make" (defArgs s_Store_make) (defBody s_Store_make) (defScope s_Store_make) .none (.ref kd17) dc17 pm17 an17 cd17 ct17), sl17⟩)
    (kw17 : PySem.W.nsIn K kd17 "word" = some (some (.str "" kt17)))
    (c17 : PySem.W.codeIn K cd17 "Store.make" = true)
    (k17 : PySem.W.keepIn K (.ref f17) = true)
    (a18 : PySem.W.nsIn K mainGlobals "is_whole" = some (some (.ref f18)))
    (l18 : K.lookup f18 = some ⟨oc18, od18, .func (PySem.W.fnOf "is_whole" "is_whole" (defArgs s_is_whole) (defBody s_is_whole) (defScope s_is_whole) .none kV18 dc18 pm18 an18 cd18 ct18), sl18⟩)
    (c18 : PySem.W.codeIn K cd18 "is_whole" = true)
    (k18 : PySem.W.keepIn K (.ref f18) = true)
    (a19 : PySem.W.nsIn K mainGlobals "is_count" = some (some (.ref f19)))
    (l19 : K.lookup f19 = some ⟨oc19, od19, .func (PySem.W.fnOf "is_count" "is_count" (defArgs s_is_count) (defBody s_is_count) (defScope s_is_count) .none kV19 dc19 pm19 an19 cd19 ct19), sl19⟩)
    (c19 : PySem.W.codeIn K cd19 "is_count" = true)
    (k19 : PySem.W.keepIn K (.ref f19) = true)
    (a20 : PySem.W.findIn K (.ref C_Store) "want_had" = some (some (.ref f20)))
    (i20 : PySem.W.isFn K (.ref f20) = true)
    (l20 : K.lookup f20 = some ⟨oc20, od20, .func (PySem.W.fnOf "want_had" "Store.want_had" (defArgs s_Store_want_had) (defBody s_Store_want_had) (defScope s_Store_want_had) .none kV20 dc20 pm20 an20 cd20 ct20), sl20⟩)
    (c20 : PySem.W.codeIn K cd20 "Store.want_had" = true)
    (k20 : PySem.W.keepIn K (.ref f20) = true)
    (a21 : PySem.W.nsIn K mainGlobals "want_name" = some (some (.ref f21)))
    (l21 : K.lookup f21 = some ⟨oc21, od21, .func (PySem.W.fnOf "want_name" "want_name" (defArgs s_want_name) (defBody s_want_name) (defScope s_want_name) .none kV21 dc21 pm21 an21 cd21 ct21), sl21⟩)
    (c21 : PySem.W.codeIn K cd21 "want_name" = true)
    (k21 : PySem.W.keepIn K (.ref f21) = true)
    (a22 : PySem.W.findIn K (.ref C_Store) "want_owner" = some (some (.ref f22)))
    (i22 : PySem.W.isFn K (.ref f22) = true)
    (l22 : K.lookup f22 = some ⟨oc22, od22, .func (PySem.W.fnOf "want_owner" "Store.want_owner" (defArgs s_Store_want_owner) (defBody s_Store_want_owner) (defScope s_Store_want_owner) .none kV22 dc22 pm22 an22 cd22 ct22), sl22⟩)
    (c22 : PySem.W.codeIn K cd22 "Store.want_owner" = true)
    (k22 : PySem.W.keepIn K (.ref f22) = true)
    (a23 : PySem.W.nsIn K mainGlobals "joint" = some (some (.ref f23)))
    (l23 : K.lookup f23 = some ⟨oc23, od23, .func (PySem.W.fnOf "joint" "joint" (defArgs s_joint) (defBody s_joint) (defScope s_joint) .none kV23 dc23 pm23 an23 cd23 ct23), sl23⟩)
    (c23 : PySem.W.codeIn K cd23 "joint" = true)
    (k23 : PySem.W.keepIn K (.ref f23) = true)
    (a24 : PySem.W.findIn K (.ref C_Store) "holds_by" = some (some (.ref f24)))
    (i24 : PySem.W.isFn K (.ref f24) = true)
    (l24 : K.lookup f24 = some ⟨oc24, od24, .func (PySem.W.fnOf "holds_by" "Store.holds_by" (defArgs s_Store_holds_by) (defBody s_Store_holds_by) (defScope s_Store_holds_by) .none kV24 dc24 pm24 an24 cd24 ct24), sl24⟩)
    (c24 : PySem.W.codeIn K cd24 "Store.holds_by" = true)
    (k24 : PySem.W.keepIn K (.ref f24) = true)
    (a25 : PySem.W.findIn K (.ref C_Store) "end_hold" = some (some (.ref f25)))
    (i25 : PySem.W.isFn K (.ref f25) = true)
    (l25 : K.lookup f25 = some ⟨oc25, od25, .func (PySem.W.fnOf "end_hold" "Store.end_hold" (defArgs s_Store_end_hold) (defBody s_Store_end_hold) (defScope s_Store_end_hold) .none kV25 dc25 pm25 an25 cd25 ct25), sl25⟩)
    (c25 : PySem.W.codeIn K cd25 "Store.end_hold" = true)
    (k25 : PySem.W.keepIn K (.ref f25) = true)
    (a26 : PySem.W.findIn K (.ref C_Store) "clear_slot" = some (some (.ref f26)))
    (i26 : PySem.W.isFn K (.ref f26) = true)
    (l26 : K.lookup f26 = some ⟨oc26, od26, .func (PySem.W.fnOf "clear_slot" "Store.clear_slot" (defArgs s_Store_clear_slot) (defBody s_Store_clear_slot) (defScope s_Store_clear_slot) .none kV26 dc26 pm26 an26 cd26 ct26), sl26⟩)
    (c26 : PySem.W.codeIn K cd26 "Store.clear_slot" = true)
    (k26 : PySem.W.keepIn K (.ref f26) = true)
    (a27 : PySem.W.findIn K (.ref C_Store) "fill" = some (some (.ref f27)))
    (i27 : PySem.W.isFn K (.ref f27) = true)
    (l27 : K.lookup f27 = some ⟨oc27, od27, .func (PySem.W.fnOf "fill" "Store.fill" (defArgs s_Store_fill) (defBody s_Store_fill) (defScope s_Store_fill) .none kV27 dc27 pm27 an27 cd27 ct27), sl27⟩)
    (c27 : PySem.W.codeIn K cd27 "Store.fill" = true)
    (k27 : PySem.W.keepIn K (.ref f27) = true)
    (a28 : PySem.W.findIn K (.ref C_Store) "put" = some (some (.ref f28)))
    (i28 : PySem.W.isFn K (.ref f28) = true)
    (l28 : K.lookup f28 = some ⟨oc28, od28, .func (PySem.W.fnOf "put" "Store.put" (defArgs s_Store_put) (defBody s_Store_put) (defScope s_Store_put) .none kV28 dc28 pm28 an28 cd28 ct28), sl28⟩)
    (c28 : PySem.W.codeIn K cd28 "Store.put" = true)
    (k28 : PySem.W.keepIn K (.ref f28) = true)
    (a29 : PySem.W.findIn K (.ref C_Store) "show" = some (some (.ref f29)))
    (i29 : PySem.W.isFn K (.ref f29) = true)
    (l29 : K.lookup f29 = some ⟨oc29, od29, .func (PySem.W.fnOf "show" "Store.show" (defArgs s_Store_show) (defBody s_Store_show) (defScope s_Store_show) .none kV29 dc29 pm29 an29 cd29 ct29), sl29⟩)
    (c29 : PySem.W.codeIn K cd29 "Store.show" = true)
    (k29 : PySem.W.keepIn K (.ref f29) = true)
    (a30 : PySem.W.findIn K (.ref C_Store) "tie" = some (some (.ref f30)))
    (i30 : PySem.W.isFn K (.ref f30) = true)
    (l30 : K.lookup f30 = some ⟨oc30, od30, .func (PySem.W.fnOf "tie" "Store.tie" (defArgs s_Store_tie) (defBody s_Store_tie) (defScope s_Store_tie) .none kV30 dc30 pm30 an30 cd30 ct30), sl30⟩)
    (c30 : PySem.W.codeIn K cd30 "Store.tie" = true)
    (k30 : PySem.W.keepIn K (.ref f30) = true)
    (a31 : PySem.W.findIn K (.ref C_Store) "empty" = some (some (.ref f31)))
    (i31 : PySem.W.isFn K (.ref f31) = true)
    (l31 : K.lookup f31 = some ⟨oc31, od31, .func (PySem.W.fnOf "empty" "Store.empty" (defArgs s_Store_empty) (defBody s_Store_empty) (defScope s_Store_empty) .none kV31 dc31 pm31 an31 cd31 ct31), sl31⟩)
    (c31 : PySem.W.codeIn K cd31 "Store.empty" = true)
    (k31 : PySem.W.keepIn K (.ref f31) = true)
    (a32 : PySem.W.findIn K (.ref C_Store) "take" = some (some (.ref f32)))
    (i32 : PySem.W.isFn K (.ref f32) = true)
    (l32 : K.lookup f32 = some ⟨oc32, od32, .func (PySem.W.fnOf "take" "Store.take" (defArgs s_Store_take) (defBody s_Store_take) (defScope s_Store_take) .none kV32 dc32 pm32 an32 cd32 ct32), sl32⟩)
    (c32 : PySem.W.codeIn K cd32 "Store.take" = true)
    (k32 : PySem.W.keepIn K (.ref f32) = true)
    (a33 : PySem.W.findIn K (.ref C_Store) "lose" = some (some (.ref f33)))
    (i33 : PySem.W.isFn K (.ref f33) = true)
    (l33 : K.lookup f33 = some ⟨oc33, od33, .func (PySem.W.fnOf "lose" "Store.lose" (defArgs s_Store_lose) (defBody s_Store_lose) (defScope s_Store_lose) .none kV33 dc33 pm33 an33 cd33 ct33), sl33⟩)
    (c33 : PySem.W.codeIn K cd33 "Store.lose" = true)
    (k33 : PySem.W.keepIn K (.ref f33) = true)
    (a34 : PySem.W.findIn K (.ref C_Store) "give" = some (some (.ref f34)))
    (i34 : PySem.W.isFn K (.ref f34) = true)
    (l34 : K.lookup f34 = some ⟨oc34, od34, .func (PySem.W.fnOf "give" "Store.give" (defArgs s_Store_give) (defBody s_Store_give) (defScope s_Store_give) .none kV34 dc34 pm34 an34 cd34 ct34), sl34⟩)
    (c34 : PySem.W.codeIn K cd34 "Store.give" = true)
    (k34 : PySem.W.keepIn K (.ref f34) = true)
    (a35 : PySem.W.findIn K (.ref C_Store) "drop" = some (some (.ref f35)))
    (i35 : PySem.W.isFn K (.ref f35) = true)
    (l35 : K.lookup f35 = some ⟨oc35, od35, .func (PySem.W.fnOf "drop" "Store.drop" (defArgs s_Store_drop) (defBody s_Store_drop) (defScope s_Store_drop) .none kV35 dc35 pm35 an35 cd35 ct35), sl35⟩)
    (c35 : PySem.W.codeIn K cd35 "Store.drop" = true)
    (k35 : PySem.W.keepIn K (.ref f35) = true)
    (a36 : PySem.W.nsIn K mainGlobals "_law_store_done" = some (some (.ref f36)))
    (l36 : K.lookup f36 = some ⟨oc36, od36, .func (PySem.W.fnOf "_law_store_done" "_law_store_done" (defArgs s_store_done) (defBody s_store_done) (defScope s_store_done) .none kV36 dc36 pm36 an36 cd36 ct36), sl36⟩)
    (c36 : PySem.W.codeIn K cd36 "_law_store_done" = true)
    (k36 : PySem.W.keepIn K (.ref f36) = true)
    (a37 : PySem.W.nsIn K mainGlobals "_law_less" = some (some (.ref f37)))
    (l37 : K.lookup f37 = some ⟨oc37, od37, .func (PySem.W.fnOf "_law_less" "_law_less" (defArgs s_less) (defBody s_less) (defScope s_less) .none kV37 dc37 pm37 an37 cd37 ct37), sl37⟩)
    (c37 : PySem.W.codeIn K cd37 "_law_less" = true)
    (k37 : PySem.W.keepIn K (.ref f37) = true)
    (a38 : PySem.W.nsIn K mainGlobals "_law_own_done" = some (some (.ref f38)))
    (l38 : K.lookup f38 = some ⟨oc38, od38, .func (PySem.W.fnOf "_law_own_done" "_law_own_done" (defArgs s_own_done) (defBody s_own_done) (defScope s_own_done) .none kV38 dc38 pm38 an38 cd38 ct38), sl38⟩)
    (c38 : PySem.W.codeIn K cd38 "_law_own_done" = true)
    (k38 : PySem.W.keepIn K (.ref f38) = true)
    (a39 : PySem.W.nsIn K mainGlobals "_law_all_done" = some (some (.ref f39)))
    (l39 : K.lookup f39 = some ⟨oc39, od39, .func (PySem.W.fnOf "_law_all_done" "_law_all_done" (defArgs s_all_done) (defBody s_all_done) (defScope s_all_done) .none kV39 dc39 pm39 an39 cd39 ct39), sl39⟩)
    (c39 : PySem.W.codeIn K cd39 "_law_all_done" = true)
    (k39 : PySem.W.keepIn K (.ref f39) = true)
    (a40 : PySem.W.nsIn K mainGlobals "_law_among" = some (some (.ref f40)))
    (l40 : K.lookup f40 = some ⟨oc40, od40, .func (PySem.W.fnOf "_law_among" "_law_among" (defArgs s_among) (defBody s_among) (defScope s_among) .none kV40 dc40 pm40 an40 cd40 ct40), sl40⟩)
    (c40 : PySem.W.codeIn K cd40 "_law_among" = true)
    (k40 : PySem.W.keepIn K (.ref f40) = true)
    (a41 : PySem.W.nsIn K mainGlobals "_law_ring" = some (some (.ref f41)))
    (l41 : K.lookup f41 = some ⟨oc41, od41, .func (PySem.W.fnOf "_law_ring" "_law_ring" (defArgs s_ring) (defBody s_ring) (defScope s_ring) .none kV41 dc41 pm41 an41 cd41 ct41), sl41⟩)
    (c41 : PySem.W.codeIn K cd41 "_law_ring" = true)
    (k41 : PySem.W.keepIn K (.ref f41) = true)
    (a42 : PySem.W.nsIn K mainGlobals "_law_deed" = some (some (.ref f42)))
    (l42 : K.lookup f42 = some ⟨oc42, od42, .func (PySem.W.fnOf "_law_deed" "_law_deed" (defArgs s_deed) (defBody s_deed) (defScope s_deed) .none kV42 dc42 pm42 an42 cd42 ct42), sl42⟩)
    (c42 : PySem.W.codeIn K cd42 "_law_deed" = true)
    (k42 : PySem.W.keepIn K (.ref f42) = true)
    (a43 : PySem.W.nsIn K mainGlobals "_law_next" = some (some (.ref f43)))
    (l43 : K.lookup f43 = some ⟨oc43, od43, .func (PySem.W.fnOf "_law_next" "_law_next" (defArgs s_next) (defBody s_next) (defScope s_next) .none kV43 dc43 pm43 an43 cd43 ct43), sl43⟩)
    (c43 : PySem.W.codeIn K cd43 "_law_next" = true)
    (k43 : PySem.W.keepIn K (.ref f43) = true)
    (a44 : PySem.W.nsIn K mainGlobals "_law_holds" = some (some (.ref f44)))
    (l44 : K.lookup f44 = some ⟨oc44, od44, .func (PySem.W.fnOf "_law_holds" "_law_holds" (defArgs s_holds) (defBody s_holds) (defScope s_holds) .none kV44 dc44 pm44 an44 cd44 ct44), sl44⟩)
    (c44 : PySem.W.codeIn K cd44 "_law_holds" = true)
    (k44 : PySem.W.keepIn K (.ref f44) = true)
    (a45 : PySem.W.nsIn K mainGlobals "_law_is_own_closed" = some (some (.ref f45)))
    (l45 : K.lookup f45 = some ⟨oc45, od45, .func (PySem.W.fnOf "_law_is_own_closed" "_law_is_own_closed" (defArgs s_is_own_closed) (defBody s_is_own_closed) (defScope s_is_own_closed) .none kV45 dc45 pm45 an45 cd45 ct45), sl45⟩)
    (c45 : PySem.W.codeIn K cd45 "_law_is_own_closed" = true)
    (k45 : PySem.W.keepIn K (.ref f45) = true)
    (a46 : PySem.W.nsIn K mainGlobals "_law_left" = some (some (.ref f46)))
    (l46 : K.lookup f46 = some ⟨oc46, od46, .func (PySem.W.fnOf "_law_left" "_law_left" (defArgs s_left) (defBody s_left) (defScope s_left) .none kV46 dc46 pm46 an46 cd46 ct46), sl46⟩)
    (c46 : PySem.W.codeIn K cd46 "_law_left" = true)
    (k46 : PySem.W.keepIn K (.ref f46) = true)
    (a47 : PySem.W.nsIn K mainGlobals "_law_mixed" = some (some (.ref f47)))
    (l47 : K.lookup f47 = some ⟨oc47, od47, .func (PySem.W.fnOf "_law_mixed" "_law_mixed" (defArgs s_mixed) (defBody s_mixed) (defScope s_mixed) .none kV47 dc47 pm47 an47 cd47 ct47), sl47⟩)
    (c47 : PySem.W.codeIn K cd47 "_law_mixed" = true)
    (k47 : PySem.W.keepIn K (.ref f47) = true)
    (a48 : PySem.W.nsIn K mainGlobals "_law_groups" = some (some (.ref f48)))
    (l48 : K.lookup f48 = some ⟨oc48, od48, .func (PySem.W.fnOf "_law_groups" "_law_groups" (defArgs s_groups) (defBody s_groups) (defScope s_groups) .none kV48 dc48 pm48 an48 cd48 ct48), sl48⟩)
    (c48 : PySem.W.codeIn K cd48 "_law_groups" = true)
    (k48 : PySem.W.keepIn K (.ref f48) = true)
    (a49 : PySem.W.findIn K (.ref C_Store) "has_thing" = some (some (.ref f49)))
    (i49 : PySem.W.isFn K (.ref f49) = true)
    (l49 : K.lookup f49 = some ⟨oc49, od49, .func (PySem.W.fnOf "has_thing" "Store.has_thing" (defArgs s_Store_has_thing) (defBody s_Store_has_thing) (defScope s_Store_has_thing) .none kV49 dc49 pm49 an49 cd49 ct49), sl49⟩)
    (c49 : PySem.W.codeIn K cd49 "Store.has_thing" = true)
    (k49 : PySem.W.keepIn K (.ref f49) = true)
    (a50 : PySem.W.nsIn K mainGlobals "want_group" = some (some (.ref f50)))
    (l50 : K.lookup f50 = some ⟨oc50, od50, .func (PySem.W.fnOf "want_group" "want_group" (defArgs s_want_group) (defBody s_want_group) (defScope s_want_group) .none kV50 dc50 pm50 an50 cd50 ct50), sl50⟩)
    (c50 : PySem.W.codeIn K cd50 "want_group" = true)
    (k50 : PySem.W.keepIn K (.ref f50) = true)
    (a51 : PySem.W.findIn K (.ref C_Store) "want_thing" = some (some (.ref f51)))
    (i51 : PySem.W.isFn K (.ref f51) = true)
    (l51 : K.lookup f51 = some ⟨oc51, od51, .func (PySem.W.fnOf "want_thing" "Store.want_thing" (defArgs s_Store_want_thing) (defBody s_Store_want_thing) (defScope s_Store_want_thing) .none kV51 dc51 pm51 an51 cd51 ct51), sl51⟩)
    (c51 : PySem.W.codeIn K cd51 "Store.want_thing" = true)
    (k51 : PySem.W.keepIn K (.ref f51) = true)
    (a52 : PySem.W.nsIn K mainGlobals "holds_of" = some (some (.ref f52)))
    (l52 : K.lookup f52 = some ⟨oc52, od52, .func (PySem.W.fnOf "holds_of" "holds_of" (defArgs s_holds_of) (defBody s_holds_of) (defScope s_holds_of) .none kV52 dc52 pm52 an52 cd52 ct52), sl52⟩)
    (c52 : PySem.W.codeIn K cd52 "holds_of" = true)
    (k52 : PySem.W.keepIn K (.ref f52) = true)
    (a53 : PySem.W.nsIn K mainGlobals "is_closed" = some (some (.ref f53)))
    (l53 : K.lookup f53 = some ⟨oc53, od53, .func (PySem.W.fnOf "is_closed" "is_closed" (defArgs s_is_closed) (defBody s_is_closed) (defScope s_is_closed) .none kV53 dc53 pm53 an53 cd53 ct53), sl53⟩)
    (c53 : PySem.W.codeIn K cd53 "is_closed" = true)
    (k53 : PySem.W.keepIn K (.ref f53) = true)
    (a54 : PySem.W.nsIn K mainGlobals "_law_is_refused" = some (some (.ref f54)))
    (l54 : K.lookup f54 = some ⟨oc54, od54, .func (PySem.W.fnOf "_law_is_refused" "_law_is_refused" (defArgs s_is_refused) (defBody s_is_refused) (defScope s_is_refused) .none kV54 dc54 pm54 an54 cd54 ct54), sl54⟩)
    (c54 : PySem.W.codeIn K cd54 "_law_is_refused" = true)
    (k54 : PySem.W.keepIn K (.ref f54) = true)
    (a55 : PySem.W.nsIn K mainGlobals "_law_odd" = some (some (.ref f55)))
    (l55 : K.lookup f55 = some ⟨oc55, od55, .func (PySem.W.fnOf "_law_odd" "_law_odd" (defArgs s_odd) (defBody s_odd) (defScope s_odd) .none kV55 dc55 pm55 an55 cd55 ct55), sl55⟩)
    (c55 : PySem.W.codeIn K cd55 "_law_odd" = true)
    (k55 : PySem.W.keepIn K (.ref f55) = true)
    (a56 : PySem.W.nsIn K mainGlobals "_law_right" = some (some (.ref f56)))
    (l56 : K.lookup f56 = some ⟨oc56, od56, .func (PySem.W.fnOf "_law_right" "_law_right" (defArgs s_right) (defBody s_right) (defScope s_right) .none kV56 dc56 pm56 an56 cd56 ct56), sl56⟩)
    (c56 : PySem.W.codeIn K cd56 "_law_right" = true)
    (k56 : PySem.W.keepIn K (.ref f56) = true)
    (a57 : PySem.W.nsIn K mainGlobals "law" = some (some (.ref f57)))
    (l57 : K.lookup f57 = some ⟨oc57, od57, .func (PySem.W.fnOf "law" "law" (defArgs s_law) (defBody s_law) (defScope s_law) .none kV57 dc57 pm57 an57 cd57 ct57), sl57⟩)
    (c57 : PySem.W.codeIn K cd57 "law" = true)
    (k57 : PySem.W.keepIn K (.ref f57) = true)
    (z_na_Store_filled : PySem.W.findIn K (.ref C_Store) "filled" = some none)
    (z_na_Store_kept : PySem.W.findIn K (.ref C_Store) "kept" = some none)
    (z_na_Store_last : PySem.W.findIn K (.ref C_Store) "last" = some none)
    (z_na_Store_many : PySem.W.findIn K (.ref C_Store) "many" = some none)
    (z_na_Store_rows : PySem.W.findIn K (.ref C_Store) "rows" = some none)
    (z_n_ValueError : PySem.W.nsIn K mainGlobals "ValueError" = some none)
    (z_n_abs : PySem.W.nsIn K mainGlobals "abs" = some none)
    (z_n_all : PySem.W.nsIn K mainGlobals "all" = some none)
    (z_n_any : PySem.W.nsIn K mainGlobals "any" = some none)
    (z_n_bool : PySem.W.nsIn K mainGlobals "bool" = some none)
    (z_n_dict : PySem.W.nsIn K mainGlobals "dict" = some none)
    (z_n_divmod : PySem.W.nsIn K mainGlobals "divmod" = some none)
    (z_n_enumerate : PySem.W.nsIn K mainGlobals "enumerate" = some none)
    (z_n_int : PySem.W.nsIn K mainGlobals "int" = some none)
    (z_n_isinstance : PySem.W.nsIn K mainGlobals "isinstance" = some none)
    (z_n_len : PySem.W.nsIn K mainGlobals "len" = some none)
    (z_n_list : PySem.W.nsIn K mainGlobals "list" = some none)
    (z_n_max : PySem.W.nsIn K mainGlobals "max" = some none)
    (z_n_min : PySem.W.nsIn K mainGlobals "min" = some none)
    (z_n_range : PySem.W.nsIn K mainGlobals "range" = some none)
    (z_n_repr : PySem.W.nsIn K mainGlobals "repr" = some none)
    (z_n_set : PySem.W.nsIn K mainGlobals "set" = some none)
    (z_n_sorted : PySem.W.nsIn K mainGlobals "sorted" = some none)
    (z_n_str : PySem.W.nsIn K mainGlobals "str" = some none)
    (z_n_tuple : PySem.W.nsIn K mainGlobals "tuple" = some none)
    (z_n_zip : PySem.W.nsIn K mainGlobals "zip" = some none)
    {t_k_KEYED : Tok}
    (z_k_KEYED : PySem.W.nsIn K mainGlobals "KEYED" = some (some (.str "keyed" t_k_KEYED)))
    {t_k_LETTERS : Tok}
    (z_k_LETTERS : PySem.W.nsIn K mainGlobals "LETTERS" = some (some (.str "abcdefghijklmnopqrstuvwxyz" t_k_LETTERS)))
    {t_k_LONGEST : Tok}
    (z_k_LONGEST : PySem.W.nsIn K mainGlobals "LONGEST" = some (some (.int 8 t_k_LONGEST)))
    {t_k_MOST_HAD : Tok}
    (z_k_MOST_HAD : PySem.W.nsIn K mainGlobals "MOST_HAD" = some (some (.int 30 t_k_MOST_HAD)))
    {t_k_MOST_HANDS : Tok}
    (z_k_MOST_HANDS : PySem.W.nsIn K mainGlobals "MOST_HANDS" = some (some (.int 6 t_k_MOST_HANDS)))
    {t_k_MOST_SLOTS : Tok}
    (z_k_MOST_SLOTS : PySem.W.nsIn K mainGlobals "MOST_SLOTS" = some (some (.int 8 t_k_MOST_SLOTS)))
    {t_k_MOST_THINGS : Tok}
    (z_k_MOST_THINGS : PySem.W.nsIn K mainGlobals "MOST_THINGS" = some (some (.int 40 t_k_MOST_THINGS)))
    {t_k_PLAIN : Tok}
    (z_k_PLAIN : PySem.W.nsIn K mainGlobals "PLAIN" = some (some (.str "plain" t_k_PLAIN)))
    {t_k_WEAK : Tok}
    (z_k_WEAK : PySem.W.nsIn K mainGlobals "WEAK" = some (some (.str "weak" t_k_WEAK)))
    : ∃ fd : FuncData, (∀ (s : Shared) (v : Value), BindsTo s fd ⟨[v], []⟩ [("_law_script", v)]) ∧ ∀ base : Heap, K.In base → base.Ns mainGlobals mg → FnG l.prog w K mg base 9 fa fd ["_law_script"] sp_law := by
  have e := hfa.symm.trans (PySem.W.mg_of X G a57)
  cases e
  have T : Txt K mg C_NoCount C_NoGroup C_NoHold C_NoName C_NoOrder C_NoThing C_Store C_StoreError := ⟨⟨pg_Store, hd_Store, po_Store, sa_Store⟩, z_na_Store_filled, z_na_Store_kept, z_na_Store_last, z_na_Store_many, z_na_Store_rows, PySem.W.mg_of X G aC_NoCount, PySem.W.mg_of X G aC_NoGroup, PySem.W.mg_of X G aC_NoHold, PySem.W.mg_of X G aC_NoName, PySem.W.mg_of X G aC_NoOrder, PySem.W.mg_of X G aC_NoThing, PySem.W.mg_of X G aC_StoreError, PySem.W.mg_none_of X G z_n_ValueError, PySem.W.mg_none_of X G z_n_abs, PySem.W.mg_none_of X G z_n_all, PySem.W.mg_none_of X G z_n_any, PySem.W.mg_none_of X G z_n_bool, PySem.W.mg_none_of X G z_n_dict, PySem.W.mg_none_of X G z_n_divmod, PySem.W.mg_none_of X G z_n_enumerate, PySem.W.mg_none_of X G z_n_int, PySem.W.mg_none_of X G z_n_isinstance, PySem.W.mg_none_of X G z_n_len, PySem.W.mg_none_of X G z_n_list, PySem.W.mg_none_of X G z_n_max, PySem.W.mg_none_of X G z_n_min, PySem.W.mg_none_of X G z_n_range, PySem.W.mg_none_of X G z_n_repr, PySem.W.mg_none_of X G z_n_set, PySem.W.mg_none_of X G z_n_sorted, PySem.W.mg_none_of X G z_n_str, PySem.W.mg_none_of X G z_n_tuple, PySem.W.mg_none_of X G z_n_zip, ⟨eo_NoGroup, kC_NoGroup, eC_NoGroup, tC_NoGroup⟩, kit_ty h_ib_NoGroup_ValueError (by decide +kernel), ⟨ix_NoGroup, ga_NoGroup, gt_NoGroup, eC_NoGroup, ci1_NoGroup, ci2_NoGroup, ci3_NoGroup, ci4_NoGroup⟩, kit_no ss_NoGroup h_ik_NoGroup_NoCount ix_NoCount tC_NoCount, kit_no ss_NoGroup h_ik_NoGroup_NoHold ix_NoHold tC_NoHold, kit_no ss_NoGroup h_ik_NoGroup_NoName ix_NoName tC_NoName, kit_no ss_NoGroup h_ik_NoGroup_NoOrder ix_NoOrder tC_NoOrder, kit_no ss_NoGroup h_ik_NoGroup_NoThing ix_NoThing tC_NoThing, kit_yes h_ik_NoGroup_StoreError ix_StoreError tC_StoreError, PySem.W.exm_ref eC_NoGroup hd_NoGroup tC_NoGroup ss_NoGroup, ⟨⟨_, _, _, _, _, _, _, _, _, _, _, a17, l17, kw17⟩⟩, ⟨_, PySem.W.mg_of X G z_k_KEYED⟩, ⟨_, PySem.W.mg_of X G z_k_LETTERS⟩, ⟨_, PySem.W.mg_of X G z_k_LONGEST⟩, ⟨_, PySem.W.mg_of X G z_k_MOST_HAD⟩, ⟨_, PySem.W.mg_of X G z_k_MOST_HANDS⟩, ⟨_, PySem.W.mg_of X G z_k_MOST_SLOTS⟩, ⟨_, PySem.W.mg_of X G z_k_MOST_THINGS⟩, ⟨_, PySem.W.mg_of X G z_k_PLAIN⟩, ⟨_, PySem.W.mg_of X G z_k_WEAK⟩⟩
  have F0 := fun_mk (st := s_pot) l0 c0 k0
  have d_pot : Def0 K mg "_law_pot" s_pot := ⟨_, _, F0, PySem.W.mg_of X G a0⟩
  have F1 := fun_mk (st := s_take) l1 c1 k1
  have d_take : Def0 K mg "_law_take" s_take := ⟨_, _, F1, PySem.W.mg_of X G a1⟩
  have F2 := fun_mk (st := s_name) l2 c2 k2
  have d_name : Def0 K mg "_law_name" s_name := ⟨_, _, F2, PySem.W.mg_of X G a2⟩
  have F3 := fun_mk (st := s_names) l3 c3 k3
  have d_names : Def0 K mg "_law_names" s_names := ⟨_, _, F3, PySem.W.mg_of X G a3⟩
  have F4 := fun_mk (st := s_begun) l4 c4 k4
  have d_begun : Def0 K mg "_law_begun" s_begun := ⟨_, _, F4, PySem.W.mg_of X G a4⟩
  have F5 := fun_mk (st := s_is_name) l5 c5 k5
  have d_is_name : Def0 K mg "is_name" s_is_name := ⟨_, _, F5, PySem.W.mg_of X G a5⟩
  have F6 := fun_mk (st := s_want_hands) l6 c6 k6
  have d_want_hands : Def0 K mg "want_hands" s_want_hands := ⟨_, _, F6, PySem.W.mg_of X G a6⟩
  have F7 := fun_mk (st := s_Store___init__) l7 c7 k7
  have d_Store___init__ : ∃ (f : Addr) (fd : FuncData), Fun K "__init__" "Store.__init__" s_Store___init__ f fd ∧ Mk K C_Store f ∧ mg "Store" = some (.ref C_Store) := ⟨_, _, F7, ⟨mk_Store, a7, i7, kc_Store⟩, PySem.W.mg_of X G aC_Store⟩
  have F8 := fun_mk (st := s_row_in) l8 c8 k8
  have d_row_in : Def0 K mg "_law_row_in" s_row_in := ⟨_, _, F8, PySem.W.mg_of X G a8⟩
  have F9 := fun_mk (st := s_is_let) l9 c9 k9
  have d_is_let : Def0 K mg "_law_is_let" s_is_let := ⟨_, _, F9, PySem.W.mg_of X G a9⟩
  have F10 := fun_mk (st := s_Store_want_hand) l10 c10 k10
  have d_Store_want_hand : Met0 K C_Store "want_hand" "Store.want_hand" s_Store_want_hand := ⟨_, _, F10, ⟨a10, i10, k10⟩⟩
  have F11 := fun_mk (st := s_want_word) l11 c11 k11
  have d_want_word : Def0 K mg "want_word" s_want_word := ⟨_, _, F11, PySem.W.mg_of X G a11⟩
  have F12 := fun_mk (st := s_Store_want_room) l12 c12 k12
  have d_Store_want_room : Met0 K C_Store "want_room" "Store.want_room" s_Store_want_room := ⟨_, _, F12, ⟨a12, i12, k12⟩⟩
  have F13 := fun_mk (st := s_Store_come_in) l13 c13 k13
  have d_Store_come_in : Met0 K C_Store "come_in" "Store.come_in" s_Store_come_in := ⟨_, _, F13, ⟨a13, i13, k13⟩⟩
  have F14 := fun_mk (st := s_Store_add_hold) l14 c14 k14
  have d_Store_add_hold : Met0 K C_Store "add_hold" "Store.add_hold" s_Store_add_hold := ⟨_, _, F14, ⟨a14, i14, k14⟩⟩
  have F15 := fun_mk (st := s_Store_have) l15 c15 k15
  have d_Store_have : Met0 K C_Store "have" "Store.have" s_Store_have := ⟨_, _, F15, ⟨a15, i15, k15⟩⟩
  have F16 := fun_mk (st := s_Store_done) l16 c16 k16
  have d_Store_done : Met0 K C_Store "done" "Store.done" s_Store_done := ⟨_, _, F16, ⟨a16, i16, k16⟩⟩
  have F17 := fun_mk (st := s_Store_make) l17 c17 k17
  have d_Store_make : Met0 K C_Store "make" "Store.make" s_Store_make := ⟨_, _, F17, ⟨a17, i17, k17⟩⟩
  have F18 := fun_mk (st := s_is_whole) l18 c18 k18
  have d_is_whole : Def0 K mg "is_whole" s_is_whole := ⟨_, _, F18, PySem.W.mg_of X G a18⟩
  have F19 := fun_mk (st := s_is_count) l19 c19 k19
  have d_is_count : Def0 K mg "is_count" s_is_count := ⟨_, _, F19, PySem.W.mg_of X G a19⟩
  have F20 := fun_mk (st := s_Store_want_had) l20 c20 k20
  have d_Store_want_had : Met0 K C_Store "want_had" "Store.want_had" s_Store_want_had := ⟨_, _, F20, ⟨a20, i20, k20⟩⟩
  have F21 := fun_mk (st := s_want_name) l21 c21 k21
  have d_want_name : Def0 K mg "want_name" s_want_name := ⟨_, _, F21, PySem.W.mg_of X G a21⟩
  have F22 := fun_mk (st := s_Store_want_owner) l22 c22 k22
  have d_Store_want_owner : Met0 K C_Store "want_owner" "Store.want_owner" s_Store_want_owner := ⟨_, _, F22, ⟨a22, i22, k22⟩⟩
  have F23 := fun_mk (st := s_joint) l23 c23 k23
  have d_joint : Def0 K mg "joint" s_joint := ⟨_, _, F23, PySem.W.mg_of X G a23⟩
  have F24 := fun_mk (st := s_Store_holds_by) l24 c24 k24
  have d_Store_holds_by : Met0 K C_Store "holds_by" "Store.holds_by" s_Store_holds_by := ⟨_, _, F24, ⟨a24, i24, k24⟩⟩
  have F25 := fun_mk (st := s_Store_end_hold) l25 c25 k25
  have d_Store_end_hold : Met0 K C_Store "end_hold" "Store.end_hold" s_Store_end_hold := ⟨_, _, F25, ⟨a25, i25, k25⟩⟩
  have F26 := fun_mk (st := s_Store_clear_slot) l26 c26 k26
  have d_Store_clear_slot : Met0 K C_Store "clear_slot" "Store.clear_slot" s_Store_clear_slot := ⟨_, _, F26, ⟨a26, i26, k26⟩⟩
  have F27 := fun_mk (st := s_Store_fill) l27 c27 k27
  have d_Store_fill : Met0 K C_Store "fill" "Store.fill" s_Store_fill := ⟨_, _, F27, ⟨a27, i27, k27⟩⟩
  have F28 := fun_mk (st := s_Store_put) l28 c28 k28
  have d_Store_put : Met0 K C_Store "put" "Store.put" s_Store_put := ⟨_, _, F28, ⟨a28, i28, k28⟩⟩
  have F29 := fun_mk (st := s_Store_show) l29 c29 k29
  have d_Store_show : Met0 K C_Store "show" "Store.show" s_Store_show := ⟨_, _, F29, ⟨a29, i29, k29⟩⟩
  have F30 := fun_mk (st := s_Store_tie) l30 c30 k30
  have d_Store_tie : Met0 K C_Store "tie" "Store.tie" s_Store_tie := ⟨_, _, F30, ⟨a30, i30, k30⟩⟩
  have F31 := fun_mk (st := s_Store_empty) l31 c31 k31
  have d_Store_empty : Met0 K C_Store "empty" "Store.empty" s_Store_empty := ⟨_, _, F31, ⟨a31, i31, k31⟩⟩
  have F32 := fun_mk (st := s_Store_take) l32 c32 k32
  have d_Store_take : Met0 K C_Store "take" "Store.take" s_Store_take := ⟨_, _, F32, ⟨a32, i32, k32⟩⟩
  have F33 := fun_mk (st := s_Store_lose) l33 c33 k33
  have d_Store_lose : Met0 K C_Store "lose" "Store.lose" s_Store_lose := ⟨_, _, F33, ⟨a33, i33, k33⟩⟩
  have F34 := fun_mk (st := s_Store_give) l34 c34 k34
  have d_Store_give : Met0 K C_Store "give" "Store.give" s_Store_give := ⟨_, _, F34, ⟨a34, i34, k34⟩⟩
  have F35 := fun_mk (st := s_Store_drop) l35 c35 k35
  have d_Store_drop : Met0 K C_Store "drop" "Store.drop" s_Store_drop := ⟨_, _, F35, ⟨a35, i35, k35⟩⟩
  have F36 := fun_mk (st := s_store_done) l36 c36 k36
  have d_store_done : Def0 K mg "_law_store_done" s_store_done := ⟨_, _, F36, PySem.W.mg_of X G a36⟩
  have F37 := fun_mk (st := s_less) l37 c37 k37
  have d_less : Def0 K mg "_law_less" s_less := ⟨_, _, F37, PySem.W.mg_of X G a37⟩
  have F38 := fun_mk (st := s_own_done) l38 c38 k38
  have d_own_done : Def0 K mg "_law_own_done" s_own_done := ⟨_, _, F38, PySem.W.mg_of X G a38⟩
  have F39 := fun_mk (st := s_all_done) l39 c39 k39
  have d_all_done : Def0 K mg "_law_all_done" s_all_done := ⟨_, _, F39, PySem.W.mg_of X G a39⟩
  have F40 := fun_mk (st := s_among) l40 c40 k40
  have d_among : Def0 K mg "_law_among" s_among := ⟨_, _, F40, PySem.W.mg_of X G a40⟩
  have F41 := fun_mk (st := s_ring) l41 c41 k41
  have d_ring : Def0 K mg "_law_ring" s_ring := ⟨_, _, F41, PySem.W.mg_of X G a41⟩
  have F42 := fun_mk (st := s_deed) l42 c42 k42
  have d_deed : Def0 K mg "_law_deed" s_deed := ⟨_, _, F42, PySem.W.mg_of X G a42⟩
  have F43 := fun_mk (st := s_next) l43 c43 k43
  have d_next : Def0 K mg "_law_next" s_next := ⟨_, _, F43, PySem.W.mg_of X G a43⟩
  have F44 := fun_mk (st := s_holds) l44 c44 k44
  have d_holds : Def0 K mg "_law_holds" s_holds := ⟨_, _, F44, PySem.W.mg_of X G a44⟩
  have F45 := fun_mk (st := s_is_own_closed) l45 c45 k45
  have d_is_own_closed : Def0 K mg "_law_is_own_closed" s_is_own_closed := ⟨_, _, F45, PySem.W.mg_of X G a45⟩
  have F46 := fun_mk (st := s_left) l46 c46 k46
  have d_left : Def0 K mg "_law_left" s_left := ⟨_, _, F46, PySem.W.mg_of X G a46⟩
  have F47 := fun_mk (st := s_mixed) l47 c47 k47
  have d_mixed : Def0 K mg "_law_mixed" s_mixed := ⟨_, _, F47, PySem.W.mg_of X G a47⟩
  have F48 := fun_mk (st := s_groups) l48 c48 k48
  have d_groups : Def0 K mg "_law_groups" s_groups := ⟨_, _, F48, PySem.W.mg_of X G a48⟩
  have F49 := fun_mk (st := s_Store_has_thing) l49 c49 k49
  have d_Store_has_thing : Met0 K C_Store "has_thing" "Store.has_thing" s_Store_has_thing := ⟨_, _, F49, ⟨a49, i49, k49⟩⟩
  have F50 := fun_mk (st := s_want_group) l50 c50 k50
  have d_want_group : Def0 K mg "want_group" s_want_group := ⟨_, _, F50, PySem.W.mg_of X G a50⟩
  have F51 := fun_mk (st := s_Store_want_thing) l51 c51 k51
  have d_Store_want_thing : Met0 K C_Store "want_thing" "Store.want_thing" s_Store_want_thing := ⟨_, _, F51, ⟨a51, i51, k51⟩⟩
  have F52 := fun_mk (st := s_holds_of) l52 c52 k52
  have d_holds_of : Def0 K mg "holds_of" s_holds_of := ⟨_, _, F52, PySem.W.mg_of X G a52⟩
  have F53 := fun_mk (st := s_is_closed) l53 c53 k53
  have d_is_closed : Def0 K mg "is_closed" s_is_closed := ⟨_, _, F53, PySem.W.mg_of X G a53⟩
  have F54 := fun_mk (st := s_is_refused) l54 c54 k54
  have d_is_refused : Def0 K mg "_law_is_refused" s_is_refused := ⟨_, _, F54, PySem.W.mg_of X G a54⟩
  have F55 := fun_mk (st := s_odd) l55 c55 k55
  have d_odd : Def0 K mg "_law_odd" s_odd := ⟨_, _, F55, PySem.W.mg_of X G a55⟩
  have F56 := fun_mk (st := s_right) l56 c56 k56
  have d_right : Def0 K mg "_law_right" s_right := ⟨_, _, F56, PySem.W.mg_of X G a56⟩
  have F57 := fun_mk (st := s_law) l57 c57 k57
  have d_law : Def0 K mg "law" s_law := ⟨_, _, F57, PySem.W.mg_of X G a57⟩
  refine ⟨PySem.W.fnOf "law" "law" (defArgs s_law) (defBody s_law) (defScope s_law) .none kV57 dc57 pm57 an57 cd57 ct57, fun s v => .of_eq rfl, fun base _ _ => ?_⟩
  have c_pot : CalD l.prog w K mg base 1 "_law_pot" s_pot ["_law_script", "_law_k"] sp_pot := g_pot T d_pot 
  have c_take : CalD l.prog w K mg base 1 "_law_take" s_take ["_law_pot_here", "_law_many"] sp_take := g_take T d_take 
  have c_name : CalD l.prog w K mg base 2 "_law_name" s_name ["_law_pot_here", "_law_taken"] sp_name := g_name T d_name c_take
  have c_names : CalD l.prog w K mg base 3 "_law_names" s_names ["_law_pot_here", "_law_many"] sp_names := g_names T d_names c_name
  have c_begun : CalD l.prog w K mg base 4 "_law_begun" s_begun ["_law_pot_here", "_law_most_hands"] sp_begun := g_begun T d_begun c_names c_take
  have c_is_name : CalD l.prog w K mg base 1 "is_name" s_is_name ["thing"] sp_is_name := g_is_name T d_is_name 
  have c_want_hands : CalD l.prog w K mg base 2 "want_hands" s_want_hands ["hands"] sp_want_hands := g_want_hands T d_want_hands c_is_name
  have c_Store___init__ : MakD l.prog w K mg base 3 "Store" C_Store "Store.__init__" s_Store___init__ ["self", "hands"] (sp_Store___init__ C_Store) := g_Store___init__ T d_Store___init__ c_want_hands
  have c_row_in : CalD l.prog w K mg base 1 "_law_row_in" s_row_in ["_law_own", "_law_deed_here"] sp_row_in := g_row_in T d_row_in 
  have c_is_let : CalD l.prog w K mg base 2 "_law_is_let" s_is_let ["_law_own", "_law_deed_here"] sp_is_let := g_is_let T d_is_let c_row_in
  have c_Store_want_hand : MetD l.prog w K mg base 2 C_Store "want_hand" "Store.want_hand" s_Store_want_hand ["self", "hand"] (sp_Store_want_hand C_Store) := g_Store_want_hand T d_Store_want_hand c_is_name
  have c_want_word : CalD l.prog w K mg base 2 "want_word" s_want_word ["thing"] sp_want_word := g_want_word T d_want_word c_is_name
  have c_Store_want_room : MetD l.prog w K mg base 1 C_Store "want_room" "Store.want_room" s_Store_want_room ["self", "hand"] (sp_Store_want_room C_Store) := g_Store_want_room T d_Store_want_room 
  have c_Store_come_in : MetD l.prog w K mg base 1 C_Store "come_in" "Store.come_in" s_Store_come_in ["self", "thing"] sp_Store_come_in := g_Store_come_in T d_Store_come_in 
  have c_Store_add_hold : MetD l.prog w K mg base 1 C_Store "add_hold" "Store.add_hold" s_Store_add_hold ["self", "thing", "hold"] (sp_Store_add_hold C_Store) := g_Store_add_hold T d_Store_add_hold 
  have c_Store_have : MetD l.prog w K mg base 2 C_Store "have" "Store.have" s_Store_have ["self", "hand", "thing"] (sp_Store_have C_Store) := g_Store_have T d_Store_have c_Store_add_hold
  have c_Store_done : MetD l.prog w K mg base 1 C_Store "done" "Store.done" s_Store_done ["self"] sp_Store_done := g_Store_done T d_Store_done 
  have c_Store_make : MetD l.prog w K mg base 3 C_Store "make" "Store.make" s_Store_make ["self", "hand", "word"] (sp_Store_make C_Store) := g_Store_make T d_Store_make c_Store_want_hand c_want_word c_Store_want_room c_Store_come_in c_Store_have c_Store_done
  have c_is_whole : CalD l.prog w K mg base 1 "is_whole" s_is_whole ["thing"] sp_is_whole := g_is_whole T d_is_whole 
  have c_is_count : CalD l.prog w K mg base 2 "is_count" s_is_count ["thing"] sp_is_count := g_is_count T d_is_count c_is_whole
  have c_Store_want_had : MetD l.prog w K mg base 3 C_Store "want_had" "Store.want_had" s_Store_want_had ["self", "hand", "thing"] (sp_Store_want_had C_Store) := g_Store_want_had T d_Store_want_had c_is_count
  have c_want_name : CalD l.prog w K mg base 2 "want_name" s_want_name ["thing"] sp_want_name := g_want_name T d_want_name c_is_name
  have c_Store_want_owner : MetD l.prog w K mg base 4 C_Store "want_owner" "Store.want_owner" s_Store_want_owner ["self", "hand", "owner", "slot"] (sp_Store_want_owner C_Store) := g_Store_want_owner T d_Store_want_owner c_Store_want_hand c_Store_want_had c_want_name
  have c_joint : CalD l.prog w K mg base 1 "joint" s_joint ["owner", "key"] sp_joint := g_joint T d_joint 
  have c_Store_holds_by : MetD l.prog w K mg base 2 C_Store "holds_by" "Store.holds_by" s_Store_holds_by ["self", "owner", "row"] sp_Store_holds_by := g_Store_holds_by T d_Store_holds_by c_joint
  have c_Store_end_hold : MetD l.prog w K mg base 1 C_Store "end_hold" "Store.end_hold" s_Store_end_hold ["self", "thing", "hold"] (sp_Store_end_hold C_Store) := g_Store_end_hold T d_Store_end_hold 
  have c_Store_clear_slot : MetD l.prog w K mg base 3 C_Store "clear_slot" "Store.clear_slot" s_Store_clear_slot ["self", "owner", "slot"] (sp_Store_clear_slot C_Store) := g_Store_clear_slot T d_Store_clear_slot c_Store_holds_by c_Store_end_hold
  have c_Store_fill : MetD l.prog w K mg base 4 C_Store "fill" "Store.fill" s_Store_fill ["self", "owner", "slot", "row"] (sp_Store_fill C_Store) := g_Store_fill T d_Store_fill c_Store_clear_slot c_Store_holds_by c_Store_add_hold c_Store_done
  have c_Store_put : MetD l.prog w K mg base 5 C_Store "put" "Store.put" s_Store_put ["self", "hand", "owner", "slot", "thing"] (sp_Store_put C_Store) := g_Store_put T d_Store_put c_Store_want_owner c_Store_want_had c_Store_fill
  have c_Store_show : MetD l.prog w K mg base 5 C_Store "show" "Store.show" s_Store_show ["self", "hand", "owner", "slot", "thing"] (sp_Store_show C_Store) := g_Store_show T d_Store_show c_Store_want_owner c_Store_want_had c_Store_fill
  have c_Store_tie : MetD l.prog w K mg base 5 C_Store "tie" "Store.tie" s_Store_tie ["self", "hand", "owner", "slot", "key", "value"] (sp_Store_tie C_Store) := g_Store_tie T d_Store_tie c_Store_want_owner c_Store_want_had c_Store_fill
  have c_Store_empty : MetD l.prog w K mg base 5 C_Store "empty" "Store.empty" s_Store_empty ["self", "hand", "owner", "slot"] (sp_Store_empty C_Store) := g_Store_empty T d_Store_empty c_Store_want_owner c_Store_clear_slot c_Store_done
  have c_Store_take : MetD l.prog w K mg base 5 C_Store "take" "Store.take" s_Store_take ["self", "hand", "owner", "slot"] (sp_Store_take C_Store) := g_Store_take T d_Store_take c_Store_want_owner c_Store_want_had c_Store_want_room c_Store_have c_Store_done
  have c_Store_lose : MetD l.prog w K mg base 2 C_Store "lose" "Store.lose" s_Store_lose ["self", "hand", "thing"] (sp_Store_lose C_Store) := g_Store_lose T d_Store_lose c_Store_end_hold
  have c_Store_give : MetD l.prog w K mg base 4 C_Store "give" "Store.give" s_Store_give ["self", "hand", "thing", "to"] (sp_Store_give C_Store) := g_Store_give T d_Store_give c_Store_want_hand c_Store_want_had c_Store_want_room c_Store_lose c_Store_have c_Store_done
  have c_Store_drop : MetD l.prog w K mg base 4 C_Store "drop" "Store.drop" s_Store_drop ["self", "hand", "thing"] (sp_Store_drop C_Store) := g_Store_drop T d_Store_drop c_Store_want_hand c_Store_want_had c_Store_lose c_Store_done
  have c_store_done : CalD l.prog w K mg base 6 "_law_store_done" s_store_done ["_law_den", "_law_deed_here"] (sp_store_done C_Store) := g_store_done T d_store_done c_Store_make c_Store_put c_Store_show c_Store_tie c_Store_empty c_Store_take c_Store_give c_Store_drop
  have c_less : CalD l.prog w K mg base 1 "_law_less" s_less ["_law_row", "_law_piece"] sp_less := g_less T d_less 
  have c_own_done : CalD l.prog w K mg base 2 "_law_own_done" s_own_done ["_law_own", "_law_deed_here"] sp_own_done := g_own_done T d_own_done c_row_in c_less
  have c_all_done : CalD l.prog w K mg base 7 "_law_all_done" s_all_done ["_law_den", "_law_own", "_law_deeds"] (sp_all_done C_Store) := g_all_done T d_all_done c_is_let c_store_done c_own_done
  have c_among : CalD l.prog w K mg base 2 "_law_among" s_among ["_law_pot_here", "_law_some"] sp_among := g_among T d_among c_take
  have c_ring : CalD l.prog w K mg base 3 "_law_ring" s_ring ["_law_pot_here", "_law_own"] sp_ring := g_ring T d_ring c_among c_take
  have c_deed : CalD l.prog w K mg base 3 "_law_deed" s_deed ["_law_pot_here", "_law_own"] sp_deed := g_deed T d_deed c_among c_take
  have c_next : CalD l.prog w K mg base 4 "_law_next" s_next ["_law_pot_here", "_law_own"] sp_next := g_next T d_next c_take c_ring c_deed
  have c_holds : CalD l.prog w K mg base 1 "_law_holds" s_holds ["_law_own", "_law_piece"] sp_holds := g_holds T d_holds 
  have c_is_own_closed : CalD l.prog w K mg base 1 "_law_is_own_closed" s_is_own_closed ["_law_own", "_law_crew", "_law_piece"] sp_is_own_closed := g_is_own_closed T d_is_own_closed 
  have c_left : CalD l.prog w K mg base 2 "_law_left" s_left ["_law_own", "_law_some"] sp_left := g_left T d_left c_is_own_closed
  have c_mixed : CalD l.prog w K mg base 2 "_law_mixed" s_mixed ["_law_pot_here", "_law_some"] sp_mixed := g_mixed T d_mixed c_take
  have c_groups : CalD l.prog w K mg base 3 "_law_groups" s_groups ["_law_pot_here", "_law_own"] sp_groups := g_groups T d_groups c_left c_take c_among c_mixed
  have c_Store_has_thing : MetD l.prog w K mg base 3 C_Store "has_thing" "Store.has_thing" s_Store_has_thing ["self", "thing"] (sp_Store_has_thing C_Store) := g_Store_has_thing T d_Store_has_thing c_is_count
  have c_want_group : CalD l.prog w K mg base 4 "want_group" s_want_group ["store", "group"] (sp_want_group C_Store C_NoGroup) := g_want_group T d_want_group c_Store_has_thing
  have c_Store_want_thing : MetD l.prog w K mg base 4 C_Store "want_thing" "Store.want_thing" s_Store_want_thing ["self", "thing"] (sp_Store_want_thing C_Store) := g_Store_want_thing T d_Store_want_thing c_Store_has_thing
  have c_holds_of : CalD l.prog w K mg base 5 "holds_of" s_holds_of ["store", "thing"] (sp_holds_of C_Store) := g_holds_of T d_holds_of c_Store_want_thing
  have c_is_closed : CalD l.prog w K mg base 6 "is_closed" s_is_closed ["store", "group"] (sp_is_closed C_Store C_NoGroup) := g_is_closed T d_is_closed c_want_group c_holds_of
  have c_is_refused : CalD l.prog w K mg base 7 "_law_is_refused" s_is_refused ["_law_den", "_law_piece"] (sp_is_refused C_Store) := g_is_refused T d_is_refused c_is_closed
  have c_odd : CalD l.prog w K mg base 3 "_law_odd" s_odd ["_law_pot_here", "_law_own"] sp_odd := g_odd T d_odd c_take c_among
  have c_right : CalD l.prog w K mg base 8 "_law_right" s_right ["_law_pot_here", "_law_den", "_law_own"] (sp_right C_Store) := g_right T d_right c_holds c_left c_groups c_is_own_closed c_is_closed c_is_refused c_odd
  have c_law : CalD l.prog w K mg base 9 "law" s_law ["_law_script"] sp_law := g_law T d_law c_pot c_begun c_Store___init__ c_take c_all_done c_next c_right c_is_refused c_odd
  exact c_law.fn (PySem.W.mg_of X G a57) l57
end Dl.M
open PySem PySem.W PyProof.Rows
set_option maxRecDepth 100000 in
set_option maxHeartbeats 0 in
theorem PySem.Challenge.cw_deepfall_k24_whole_closed_groups_holds : PySem.Challenge.rw_deepfall_k24_whole_closed_groups.Holds := by
  w_on; o_law; k_head; (case hw => w_witness2)
  k_fill
  refine Dl.walk_G (l := PySem.Challenge.rw_deepfall_k24_whole_closed_groups) (n := 63) (k := 9) (x := "_law_script") (sp := Dl.M.sp_law) rfl (by decide) rfl ⟨rfl, by decide, by decide⟩ (fun w h Y => PySem.W.kIn_of Y) ?nl ?F (fun a ns h => Dl.M.law_end a ns h)
  case nl => intro p; rfl
  case F =>
    intro w mg fa h KX G hmg
    refine' Dl.M.all_mk KX G hmg ?aC_NoCount ?tC_NoCount ?ix_NoCount ?aC_NoGroup ?eo_NoGroup ?kC_NoGroup ?eC_NoGroup ?tC_NoGroup ?ga_NoGroup ?gt_NoGroup ?hd_NoGroup ?ix_NoGroup ?ci1_NoGroup ?ci2_NoGroup ?ci3_NoGroup ?ci4_NoGroup ?ss_NoGroup ?aC_NoHold ?tC_NoHold ?ix_NoHold ?aC_NoName ?tC_NoName ?ix_NoName ?aC_NoOrder ?tC_NoOrder ?ix_NoOrder ?aC_NoThing ?tC_NoThing ?ix_NoThing ?aC_StoreError ?tC_StoreError ?ix_StoreError ?h_ib_NoGroup_ValueError ?h_ik_NoGroup_NoCount ?h_ik_NoGroup_NoHold ?h_ik_NoGroup_NoName ?h_ik_NoGroup_NoOrder ?h_ik_NoGroup_NoThing ?h_ik_NoGroup_StoreError ?aC_Store ?pg_Store ?hd_Store ?po_Store ?sa_Store ?mk_Store ?kc_Store ?a0 ?l0 ?c0 ?k0 ?a1 ?l1 ?c1 ?k1 ?a2 ?l2 ?c2 ?k2 ?a3 ?l3 ?c3 ?k3 ?a4 ?l4 ?c4 ?k4 ?a5 ?l5 ?c5 ?k5 ?a6 ?l6 ?c6 ?k6 ?a7 ?i7 ?l7 ?c7 ?k7 ?a8 ?l8 ?c8 ?k8 ?a9 ?l9 ?c9 ?k9 ?a10 ?i10 ?l10 ?c10 ?k10 ?a11 ?l11 ?c11 ?k11 ?a12 ?i12 ?l12 ?c12 ?k12 ?a13 ?i13 ?l13 ?c13 ?k13 ?a14 ?i14 ?l14 ?c14 ?k14 ?a15 ?i15 ?l15 ?c15 ?k15 ?a16 ?i16 ?l16 ?c16 ?k16 ?a17 ?i17 ?l17 ?kw17 ?c17 ?k17 ?a18 ?l18 ?c18 ?k18 ?a19 ?l19 ?c19 ?k19 ?a20 ?i20 ?l20 ?c20 ?k20 ?a21 ?l21 ?c21 ?k21 ?a22 ?i22 ?l22 ?c22 ?k22 ?a23 ?l23 ?c23 ?k23 ?a24 ?i24 ?l24 ?c24 ?k24 ?a25 ?i25 ?l25 ?c25 ?k25 ?a26 ?i26 ?l26 ?c26 ?k26 ?a27 ?i27 ?l27 ?c27 ?k27 ?a28 ?i28 ?l28 ?c28 ?k28 ?a29 ?i29 ?l29 ?c29 ?k29 ?a30 ?i30 ?l30 ?c30 ?k30 ?a31 ?i31 ?l31 ?c31 ?k31 ?a32 ?i32 ?l32 ?c32 ?k32 ?a33 ?i33 ?l33 ?c33 ?k33 ?a34 ?i34 ?l34 ?c34 ?k34 ?a35 ?i35 ?l35 ?c35 ?k35 ?a36 ?l36 ?c36 ?k36 ?a37 ?l37 ?c37 ?k37 ?a38 ?l38 ?c38 ?k38 ?a39 ?l39 ?c39 ?k39 ?a40 ?l40 ?c40 ?k40 ?a41 ?l41 ?c41 ?k41 ?a42 ?l42 ?c42 ?k42 ?a43 ?l43 ?c43 ?k43 ?a44 ?l44 ?c44 ?k44 ?a45 ?l45 ?c45 ?k45 ?a46 ?l46 ?c46 ?k46 ?a47 ?l47 ?c47 ?k47 ?a48 ?l48 ?c48 ?k48 ?a49 ?i49 ?l49 ?c49 ?k49 ?a50 ?l50 ?c50 ?k50 ?a51 ?i51 ?l51 ?c51 ?k51 ?a52 ?l52 ?c52 ?k52 ?a53 ?l53 ?c53 ?k53 ?a54 ?l54 ?c54 ?k54 ?a55 ?l55 ?c55 ?k55 ?a56 ?l56 ?c56 ?k56 ?a57 ?l57 ?c57 ?k57 ?z_na_Store_filled ?z_na_Store_kept ?z_na_Store_last ?z_na_Store_many ?z_na_Store_rows ?z_n_ValueError ?z_n_abs ?z_n_all ?z_n_any ?z_n_bool ?z_n_dict ?z_n_divmod ?z_n_enumerate ?z_n_int ?z_n_isinstance ?z_n_len ?z_n_list ?z_n_max ?z_n_min ?z_n_range ?z_n_repr ?z_n_set ?z_n_sorted ?z_n_str ?z_n_tuple ?z_n_zip ?z_k_KEYED ?z_k_LETTERS ?z_k_LONGEST ?z_k_MOST_HAD ?z_k_MOST_HANDS ?z_k_MOST_SLOTS ?z_k_MOST_THINGS ?z_k_PLAIN ?z_k_WEAK
    (case aC_NoCount => k_is)
    (case tC_NoCount => k_is)
    (case ix_NoCount => k_is)
    (case aC_NoGroup => k_is)
    (case eo_NoGroup => first | k_is | k_exc)
    (case kC_NoGroup => k_is)
    (case eC_NoGroup => k_is)
    (case tC_NoGroup => k_is)
    (case ga_NoGroup => k_is)
    (case gt_NoGroup => k_is)
    (case hd_NoGroup => k_is)
    (case ix_NoGroup => k_is)
    (case ci1_NoGroup => k_is)
    (case ci2_NoGroup => k_is)
    (case ci3_NoGroup => k_is)
    (case ci4_NoGroup => k_is)
    (case ss_NoGroup => k_is)
    (case aC_NoHold => k_is)
    (case tC_NoHold => k_is)
    (case ix_NoHold => k_is)
    (case aC_NoName => k_is)
    (case tC_NoName => k_is)
    (case ix_NoName => k_is)
    (case aC_NoOrder => k_is)
    (case tC_NoOrder => k_is)
    (case ix_NoOrder => k_is)
    (case aC_NoThing => k_is)
    (case tC_NoThing => k_is)
    (case ix_NoThing => k_is)
    (case aC_StoreError => k_is)
    (case tC_StoreError => k_is)
    (case ix_StoreError => k_is)
    (case h_ib_NoGroup_ValueError => k_is)
    (case h_ik_NoGroup_NoCount => k_is)
    (case h_ik_NoGroup_NoHold => k_is)
    (case h_ik_NoGroup_NoName => k_is)
    (case h_ik_NoGroup_NoOrder => k_is)
    (case h_ik_NoGroup_NoThing => k_is)
    (case h_ik_NoGroup_StoreError => k_is)
    (case aC_Store => k_is)
    (case pg_Store => k_is)
    (case hd_Store => k_is)
    (case po_Store => k_is)
    (case sa_Store => k_is)
    (case mk_Store => k_is)
    (case kc_Store => k_is)
    (case a0 => k_is)
    (case l0 => k_is)
    (case c0 => k_is)
    (case k0 => k_is)
    (case a1 => k_is)
    (case l1 => k_is)
    (case c1 => k_is)
    (case k1 => k_is)
    (case a2 => k_is)
    (case l2 => k_is)
    (case c2 => k_is)
    (case k2 => k_is)
    (case a3 => k_is)
    (case l3 => k_is)
    (case c3 => k_is)
    (case k3 => k_is)
    (case a4 => k_is)
    (case l4 => k_is)
    (case c4 => k_is)
    (case k4 => k_is)
    (case a5 => k_is)
    (case l5 => k_is)
    (case c5 => k_is)
    (case k5 => k_is)
    (case a6 => k_is)
    (case l6 => k_is)
    (case c6 => k_is)
    (case k6 => k_is)
    (case a7 => k_is)
    (case i7 => k_is)
    (case l7 => k_is)
    (case c7 => k_is)
    (case k7 => k_is)
    (case a8 => k_is)
    (case l8 => k_is)
    (case c8 => k_is)
    (case k8 => k_is)
    (case a9 => k_is)
    (case l9 => k_is)
    (case c9 => k_is)
    (case k9 => k_is)
    (case a10 => k_is)
    (case i10 => k_is)
    (case l10 => k_is)
    (case c10 => k_is)
    (case k10 => k_is)
    (case a11 => k_is)
    (case l11 => k_is)
    (case c11 => k_is)
    (case k11 => k_is)
    (case a12 => k_is)
    (case i12 => k_is)
    (case l12 => k_is)
    (case c12 => k_is)
    (case k12 => k_is)
    (case a13 => k_is)
    (case i13 => k_is)
    (case l13 => k_is)
    (case c13 => k_is)
    (case k13 => k_is)
    (case a14 => k_is)
    (case i14 => k_is)
    (case l14 => k_is)
    (case c14 => k_is)
    (case k14 => k_is)
    (case a15 => k_is)
    (case i15 => k_is)
    (case l15 => k_is)
    (case c15 => k_is)
    (case k15 => k_is)
    (case a16 => k_is)
    (case i16 => k_is)
    (case l16 => k_is)
    (case c16 => k_is)
    (case k16 => k_is)
    (case a17 => k_is)
    (case i17 => k_is)
    (case l17 => k_is)
    (case kw17 => k_is)
    (case c17 => k_is)
    (case k17 => k_is)
    (case a18 => k_is)
    (case l18 => k_is)
    (case c18 => k_is)
    (case k18 => k_is)
    (case a19 => k_is)
    (case l19 => k_is)
    (case c19 => k_is)
    (case k19 => k_is)
    (case a20 => k_is)
    (case i20 => k_is)
    (case l20 => k_is)
    (case c20 => k_is)
    (case k20 => k_is)
    (case a21 => k_is)
    (case l21 => k_is)
    (case c21 => k_is)
    (case k21 => k_is)
    (case a22 => k_is)
    (case i22 => k_is)
    (case l22 => k_is)
    (case c22 => k_is)
    (case k22 => k_is)
    (case a23 => k_is)
    (case l23 => k_is)
    (case c23 => k_is)
    (case k23 => k_is)
    (case a24 => k_is)
    (case i24 => k_is)
    (case l24 => k_is)
    (case c24 => k_is)
    (case k24 => k_is)
    (case a25 => k_is)
    (case i25 => k_is)
    (case l25 => k_is)
    (case c25 => k_is)
    (case k25 => k_is)
    (case a26 => k_is)
    (case i26 => k_is)
    (case l26 => k_is)
    (case c26 => k_is)
    (case k26 => k_is)
    (case a27 => k_is)
    (case i27 => k_is)
    (case l27 => k_is)
    (case c27 => k_is)
    (case k27 => k_is)
    (case a28 => k_is)
    (case i28 => k_is)
    (case l28 => k_is)
    (case c28 => k_is)
    (case k28 => k_is)
    (case a29 => k_is)
    (case i29 => k_is)
    (case l29 => k_is)
    (case c29 => k_is)
    (case k29 => k_is)
    (case a30 => k_is)
    (case i30 => k_is)
    (case l30 => k_is)
    (case c30 => k_is)
    (case k30 => k_is)
    (case a31 => k_is)
    (case i31 => k_is)
    (case l31 => k_is)
    (case c31 => k_is)
    (case k31 => k_is)
    (case a32 => k_is)
    (case i32 => k_is)
    (case l32 => k_is)
    (case c32 => k_is)
    (case k32 => k_is)
    (case a33 => k_is)
    (case i33 => k_is)
    (case l33 => k_is)
    (case c33 => k_is)
    (case k33 => k_is)
    (case a34 => k_is)
    (case i34 => k_is)
    (case l34 => k_is)
    (case c34 => k_is)
    (case k34 => k_is)
    (case a35 => k_is)
    (case i35 => k_is)
    (case l35 => k_is)
    (case c35 => k_is)
    (case k35 => k_is)
    (case a36 => k_is)
    (case l36 => k_is)
    (case c36 => k_is)
    (case k36 => k_is)
    (case a37 => k_is)
    (case l37 => k_is)
    (case c37 => k_is)
    (case k37 => k_is)
    (case a38 => k_is)
    (case l38 => k_is)
    (case c38 => k_is)
    (case k38 => k_is)
    (case a39 => k_is)
    (case l39 => k_is)
    (case c39 => k_is)
    (case k39 => k_is)
    (case a40 => k_is)
    (case l40 => k_is)
    (case c40 => k_is)
    (case k40 => k_is)
    (case a41 => k_is)
    (case l41 => k_is)
    (case c41 => k_is)
    (case k41 => k_is)
    (case a42 => k_is)
    (case l42 => k_is)
    (case c42 => k_is)
    (case k42 => k_is)
    (case a43 => k_is)
    (case l43 => k_is)
    (case c43 => k_is)
    (case k43 => k_is)
    (case a44 => k_is)
    (case l44 => k_is)
    (case c44 => k_is)
    (case k44 => k_is)
    (case a45 => k_is)
    (case l45 => k_is)
    (case c45 => k_is)
    (case k45 => k_is)
    (case a46 => k_is)
    (case l46 => k_is)
    (case c46 => k_is)
    (case k46 => k_is)
    (case a47 => k_is)
    (case l47 => k_is)
    (case c47 => k_is)
    (case k47 => k_is)
    (case a48 => k_is)
    (case l48 => k_is)
    (case c48 => k_is)
    (case k48 => k_is)
    (case a49 => k_is)
    (case i49 => k_is)
    (case l49 => k_is)
    (case c49 => k_is)
    (case k49 => k_is)
    (case a50 => k_is)
    (case l50 => k_is)
    (case c50 => k_is)
    (case k50 => k_is)
    (case a51 => k_is)
    (case i51 => k_is)
    (case l51 => k_is)
    (case c51 => k_is)
    (case k51 => k_is)
    (case a52 => k_is)
    (case l52 => k_is)
    (case c52 => k_is)
    (case k52 => k_is)
    (case a53 => k_is)
    (case l53 => k_is)
    (case c53 => k_is)
    (case k53 => k_is)
    (case a54 => k_is)
    (case l54 => k_is)
    (case c54 => k_is)
    (case k54 => k_is)
    (case a55 => k_is)
    (case l55 => k_is)
    (case c55 => k_is)
    (case k55 => k_is)
    (case a56 => k_is)
    (case l56 => k_is)
    (case c56 => k_is)
    (case k56 => k_is)
    (case a57 => k_is)
    (case l57 => k_is)
    (case c57 => k_is)
    (case k57 => k_is)
    (case z_na_Store_filled => k_is)
    (case z_na_Store_kept => k_is)
    (case z_na_Store_last => k_is)
    (case z_na_Store_many => k_is)
    (case z_na_Store_rows => k_is)
    (case z_n_ValueError => k_is)
    (case z_n_abs => k_is)
    (case z_n_all => k_is)
    (case z_n_any => k_is)
    (case z_n_bool => k_is)
    (case z_n_dict => k_is)
    (case z_n_divmod => k_is)
    (case z_n_enumerate => k_is)
    (case z_n_int => k_is)
    (case z_n_isinstance => k_is)
    (case z_n_len => k_is)
    (case z_n_list => k_is)
    (case z_n_max => k_is)
    (case z_n_min => k_is)
    (case z_n_range => k_is)
    (case z_n_repr => k_is)
    (case z_n_set => k_is)
    (case z_n_sorted => k_is)
    (case z_n_str => k_is)
    (case z_n_tuple => k_is)
    (case z_n_zip => k_is)
    (case z_k_KEYED => k_is)
    (case z_k_LETTERS => k_is)
    (case z_k_LONGEST => k_is)
    (case z_k_MOST_HAD => k_is)
    (case z_k_MOST_HANDS => k_is)
    (case z_k_MOST_SLOTS => k_is)
    (case z_k_MOST_THINGS => k_is)
    (case z_k_PLAIN => k_is)
    (case z_k_WEAK => k_is)
