import PyProof.Rows.All
import Wide.All
import OpenK.AllK
import Wide.FinOn
import HandS.ForMost
import HandS.Gcd
import HandS.Flt
import HandS.Style
import HandS.Zip
import HandS.Star
import HandS.Walk
import HandS.IsInst
import HandS.Slots
import HandS.SlotsOwn
import PySem.Challenge.RW_formrings_k25_whole_least_forms_judged
import HandS.Head0
import HandS.Head1
import HandS.Head2
import HandS.Head3
import HandS.HeadEnd
import HandS.HeadHook1
import HandS.HeadHook2
import KE.DataCmp
import HandS.FltList
import KE.GoesEnum
import HandS.Defaults
import HandS.DictComp
import HandS.Conv
import HandS.DictTup
import HandS.SortRule
section
set_option Elab.async false
set_option linter.all false
set_option maxRecDepth 100000
set_option maxHeartbeats 4000000
/-! DV: plain data over the abstract heap, and the judgements of a small evaluator. -/
namespace DV
open PySem PySem.Spec PyProof.Rows L2
abbrev St := L2.St

inductive D where
  | non | bl (b : Bool) | int (i : Int) | tup (ds : List D) | lst (ds : List D) | ob (C : Addr) (ds : List D) | pt (C a dx : Addr) (ds : List D)

mutual
def Den (K : PySem.W.Frag) (H : Hp) : D → V → Prop
  | .non, v => v = .non
  | .bl b, v => v = .bl b
  | .int i, v => v = .int i
  | .ob C ds, v => ∃ a dx vs, v = .ref a ∧ SlX.Slt H a C dx (vs.map some) ∧ DenL K H ds vs
  | .pt C a dx ds, v => ∃ vs, v = .ref a ∧ SlX.Slt H a C dx (vs.map some) ∧ DenL K H ds vs
  | .tup ds, v => ∃ a vs, v = .ref a ∧ SqT K H a vs ∧ DenL K H ds vs
  | .lst ds, v => ∃ a vs, v = .ref a ∧ H a = some (.lst vs) ∧ DenL K H ds vs
def DenL (K : PySem.W.Frag) (H : Hp) : List D → List V → Prop
  | [], vs => vs = []
  | d :: ds, vs => ∃ v r, vs = v :: r ∧ Den K H d v ∧ DenL K H ds r
end

mutual
/-- no list within -/
def flat : D → Bool
  | .lst _ => false
  | .tup ds => flatL ds
  | .ob _ ds => flatL ds
  | .pt _ _ _ ds => flatL ds
  | _ => true
def flatL : List D → Bool
  | [] => true
  | d :: ds => flat d && flatL ds
end

section
variable {K : PySem.W.Frag} {H H' : Hp}
theorem seqT {a : Addr} {xs : List V} (e : Same H H') (h : SqT K H a xs) : SqT K H' a xs := by
  rcases h with (h | ⟨o, h⟩) | h
  · exact .inl (.inl (e _ _ h))
  · exact .inl (.inr ⟨o, e _ _ h⟩)
  · exact .inr h
theorem slt_same {a C dx : Addr} {vs : List (Option V)} (e : Same H H') (h : SlX.Slt H a C dx vs) : SlX.Slt H' a C dx vs := by
  rcases h with ⟨h1, h2⟩ | ⟨h1, h2⟩
  · exact .inl ⟨e _ _ h1, h2⟩
  · exact .inr ⟨e _ _ h1, e _ _ h2⟩
theorem slt_upd {a C dx b : Addr} {vs : List (Option V)} {ws : List V} {o' : HO} (hb : H b = some (.lst ws)) (h : SlX.Slt H a C dx vs) : SlX.Slt (upd H b o') a C dx vs := by
  rcases h with ⟨h1, h2⟩ | ⟨h1, h2⟩
  · have n : a ≠ b := by intro e; subst e; rw [h1] at hb; cases hb
    exact .inl ⟨by rw [upd_ne n]; exact h1, h2⟩
  · have n : a ≠ b := by intro e; subst e; rw [h1] at hb; cases hb
    have n2 : dx ≠ b := by intro e; subst e; rw [h2] at hb; cases hb
    exact .inr ⟨by rw [upd_ne n]; exact h1, by rw [upd_ne n2]; exact h2⟩
mutual
theorem Den.same (e : Same H H') : ∀ (d : D) (v : V), Den K H d v → Den K H' d v
  | .non, _, h => h
  | .bl _, _, h => h
  | .int _, _, h => h
  | .ob C ds, _, h => by
    obtain ⟨a, dx, vs, r, h1, h2⟩ := h
    exact ⟨a, dx, vs, r, slt_same e h1, DenL.same e ds vs h2⟩
  | .pt C a dx ds, _, h => by
    obtain ⟨vs, r, h1, h2⟩ := h
    exact ⟨vs, r, slt_same e h1, DenL.same e ds vs h2⟩
  | .tup ds, _, h => by
    obtain ⟨a, vs, r, h1, h2⟩ := h
    exact ⟨a, vs, r, seqT e h1, DenL.same e ds vs h2⟩
  | .lst ds, _, h => by
    obtain ⟨a, vs, r, h1, h2⟩ := h
    exact ⟨a, vs, r, e _ _ h1, DenL.same e ds vs h2⟩
theorem DenL.same (e : Same H H') : ∀ (ds : List D) (vs : List V), DenL K H ds vs → DenL K H' ds vs
  | [], _, h => h
  | d :: ds, _, h => by
    obtain ⟨v, r, rfl, h1, h2⟩ := h
    exact ⟨v, r, rfl, Den.same e d v h1, DenL.same e ds r h2⟩
end
/-- a list that changes is nothing to flat data -/
theorem seqT_upd {a b : Addr} {xs : List V} {o o' : HO} (hb : H b = some o) (no : ∀ xs, o ≠ .tup xs) (nf : ∀ q u, o ≠ .frz q u) (h : SqT K H a xs) : SqT K (upd H b o') a xs := by
  rcases h with (h | ⟨q, h⟩) | h
  · have n : a ≠ b := by intro e; subst e; rw [h] at hb; cases hb; exact no _ rfl
    exact .inl (.inl (by rw [upd_ne n]; exact h))
  · have n : a ≠ b := by intro e; subst e; rw [h] at hb; cases hb; exact nf _ _ rfl
    exact .inl (.inr ⟨q, by rw [upd_ne n]; exact h⟩)
  · exact .inr h
mutual
theorem Den.upd {b : Addr} {ws : List V} {o' : HO} (hb : H b = some (.lst ws)) : ∀ (d : D) (v : V), flat d = true → Den K H d v → Den K (upd H b o') d v
  | .non, _, _, h => h
  | .bl _, _, _, h => h
  | .int _, _, _, h => h
  | .ob C ds, _, p, h => by
    obtain ⟨a, dx, vs, r, h1, h2⟩ := h
    exact ⟨a, dx, vs, r, slt_upd hb h1, DenL.upd hb ds vs (by simpa [flat] using p) h2⟩
  | .pt C a dx ds, _, p, h => by
    obtain ⟨vs, r, h1, h2⟩ := h
    exact ⟨vs, r, slt_upd hb h1, DenL.upd hb ds vs (by simpa [flat] using p) h2⟩
  | .tup ds, _, p, h => by
    obtain ⟨a, vs, r, h1, h2⟩ := h
    exact ⟨a, vs, r, seqT_upd hb (fun _ q => nomatch q) (fun _ _ q => nomatch q) h1, DenL.upd hb ds vs (by simpa [flat] using p) h2⟩
  | .lst ds, _, p, _ => by simp [flat] at p
theorem DenL.upd {b : Addr} {ws : List V} {o' : HO} (hb : H b = some (.lst ws)) : ∀ (ds : List D) (vs : List V), flatL ds = true → DenL K H ds vs → DenL K (upd H b o') ds vs
  | [], _, _, h => h
  | d :: ds, _, p, h => by
    obtain ⟨v, r, rfl, h1, h2⟩ := h
    have p' : flat d = true ∧ flatL ds = true := by simpa [flatL] using p
    exact ⟨v, r, rfl, Den.upd hb d v p'.1 h1, DenL.upd hb ds r p'.2 h2⟩
end
theorem DenL.length : ∀ {ds : List D} {vs : List V}, DenL K H ds vs → vs.length = ds.length
  | [], _, h => by cases h; rfl
  | d :: ds, _, h => by
    obtain ⟨v, r, rfl, _, h2⟩ := h
    simp [DenL.length h2]
theorem DenL.get : ∀ {ds : List D} {vs : List V} {i : Nat} {d : D}, DenL K H ds vs → ds[i]? = some d → ∃ v, vs[i]? = some v ∧ Den K H d v
  | [], _, _, _, _, e => by simp at e
  | d :: ds, _, 0, _, h, e => by
    obtain ⟨v, r, rfl, h1, h2⟩ := h
    simp at e; subst e
    exact ⟨v, rfl, h1⟩
  | d :: ds, _, i + 1, _, h, e => by
    obtain ⟨v, r, rfl, h1, h2⟩ := h
    obtain ⟨w, e1, e2⟩ := DenL.get (i := i) h2 (by simpa using e)
    exact ⟨w, by simpa using e1, e2⟩
theorem DenL.back : ∀ {ds : List D} {vs : List V} {i : Nat} {v : V}, DenL K H ds vs → vs[i]? = some v → ∃ d, ds[i]? = some d ∧ Den K H d v := fun {ds vs i v} h e => by
  have hl := h.length
  have hi : i < vs.length := (List.getElem?_eq_some_iff.mp e).1
  obtain ⟨w, e1, e2⟩ := h.get (i := i) (d := ds[i]'(by omega)) (by simp [hl ▸ hi])
  rw [e] at e1; cases e1
  exact ⟨_, by simp [hl ▸ hi], e2⟩
theorem DenL.append : ∀ {ds es : List D} {vs ws : List V}, DenL K H ds vs → DenL K H es ws → DenL K H (ds ++ es) (vs ++ ws)
  | [], _, _, _, h, k => by cases h; exact k
  | d :: ds, _, _, _, h, k => by
    obtain ⟨v, r, rfl, h1, h2⟩ := h
    exact ⟨v, r ++ _, rfl, h1, DenL.append h2 k⟩
theorem DenL.rep {ds : List D} {vs : List V} (h : DenL K H ds vs) : ∀ k : Nat, DenL K H (List.replicate k ds).flatten (List.replicate k vs).flatten
  | 0 => rfl
  | k + 1 => by
    rw [List.replicate_succ, List.replicate_succ, List.flatten_cons, List.flatten_cons]
    exact h.append (DenL.rep h k)
theorem DenL.nil : DenL K H [] [] := rfl
theorem DenL.cons {d : D} {ds : List D} {v : V} {vs : List V} (h : Den K H d v) (k : DenL K H ds vs) : DenL K H (d :: ds) (v :: vs) := ⟨v, vs, rfl, h, k⟩
theorem DenL.one {d : D} {vs : List V} (h : DenL K H [d] vs) : ∃ v, vs = [v] ∧ Den K H d v := by
  obtain ⟨v, r, rfl, h1, h2⟩ := h
  cases h2
  exact ⟨v, rfl, h1⟩
theorem DenL.two {d e : D} {vs : List V} (h : DenL K H [d, e] vs) : ∃ v w, vs = [v, w] ∧ Den K H d v ∧ Den K H e w := by
  obtain ⟨v, r, rfl, h1, h2⟩ := h
  obtain ⟨w, rfl, h3⟩ := h2.one
  exact ⟨v, w, rfl, h1, h3⟩
theorem DenL.three {d e f : D} {vs : List V} (h : DenL K H [d, e, f] vs) : ∃ v w u, vs = [v, w, u] ∧ Den K H d v ∧ Den K H e w ∧ Den K H f u := by
  obtain ⟨v, r, rfl, h1, h2⟩ := h
  obtain ⟨w, u, rfl, h3, h4⟩ := h2.two
  exact ⟨v, w, u, rfl, h1, h3, h4⟩
theorem DenL.ints : ∀ {ns : List Int} {vs : List V}, DenL K H (ns.map D.int) vs → vs = ns.map V.int
  | [], _, h => h
  | n :: ns, _, h => by
    obtain ⟨v, r, rfl, h1, h2⟩ := h
    cases h1
    rw [DenL.ints h2]; rfl
theorem DenL.of_ints : ∀ {ns : List Int}, DenL K H (ns.map D.int) (ns.map V.int)
  | [] => rfl
  | n :: ns => ⟨_, _, rfl, rfl, DenL.of_ints⟩
theorem DenL.bls : ∀ {ns : List Bool} {vs : List V}, DenL K H (ns.map D.bl) vs → vs = ns.map V.bl
  | [], _, h => h
  | n :: ns, _, h => by
    obtain ⟨v, r, rfl, h1, h2⟩ := h
    cases h1
    rw [DenL.bls h2]; rfl

/-! ### as data of the library -/
mutual
def py : D → PyData
  | .non => .none
  | .bl b => .bool b
  | .int i => .int i
  | .tup ds => .tuple (pyL ds)
  | .lst ds => .list (pyL ds)
  | .ob _ _ => .dict []
  | .pt _ _ _ _ => .dict []
def pyL : List D → List PyData
  | [] => []
  | d :: ds => py d :: pyL ds
end
mutual
theorem Den.dp : ∀ (d : D) (v : V), (py d).canLay0 = true → Den K H d v → Dp K H v (py d)
  | .non, _, _, h => by cases h; exact .non
  | .bl _, _, _, h => by cases h; exact .bl _
  | .int _, _, _, h => by cases h; exact .int _
  | .ob _ _, _, p, _ => by simp [py, PyData.canLay0] at p
  | .pt _ _ _ _, _, p, _ => by simp [py, PyData.canLay0] at p
  | .tup ds, _, p, h => by
    obtain ⟨a, vs, rfl, h1, h2⟩ := h
    exact .tup h1 (DenL.dp ds vs (by simpa [py, PyData.canLay0] using p) h2)
  | .lst ds, _, p, h => by
    obtain ⟨a, vs, rfl, h1, h2⟩ := h
    exact .lst (SqL.of h1) (DenL.dp ds vs (by simpa [py, PyData.canLay0] using p) h2)
theorem DenL.dp : ∀ (ds : List D) (vs : List V), PyData.canLayAll0 (pyL ds) = true → DenL K H ds vs → DpAll K H vs (pyL ds)
  | [], _, _, h => by cases h; exact .nil
  | d :: ds, _, p, h => by
    obtain ⟨v, r, rfl, h1, h2⟩ := h
    have p' : (py d).canLay0 = true ∧ PyData.canLayAll0 (pyL ds) = true := by simpa [pyL, PyData.canLayAll0] using p
    exact .cons (Den.dp d v p'.1 h1) (DenL.dp ds r p'.2 h2)
end
end

/-! ### environments -/
abbrev DEnv := List (Option D)
def EnvD (K : PySem.W.Frag) (H : Hp) (σ : St) (δ : DEnv) : Prop := σ.length = δ.length ∧ ∀ (i : Nat) (d : D), δ[i]? = some (some d) → ∃ v, σ[i]? = some (some v) ∧ Den K H d v
section
variable {K : PySem.W.Frag} {H H' : Hp} {σ : St} {δ : DEnv}
theorem EnvD.same (h : EnvD K H σ δ) (e : Same H H') : EnvD K H' σ δ := ⟨h.1, fun i d q => by
  obtain ⟨v, e1, e2⟩ := h.2 i d q
  exact ⟨v, e1, Den.same e d v e2⟩⟩
theorem EnvD.set (h : EnvD K H σ δ) (i : Nat) {v : V} {d : D} (hd : Den K H d v) : EnvD K H (σ.set i (some v)) (δ.set i (some d)) := ⟨by simp [h.1], fun j e q => by
  by_cases hj : i = j
  · subst hj
    by_cases hi : i < δ.length
    · rw [List.getElem?_set_self hi] at q
      cases q
      exact ⟨v, by rw [List.getElem?_set_self (by rw [h.1]; exact hi)], hd⟩
    · rw [List.getElem?_eq_none (by simpa using hi)] at q; cases q
  · rw [List.getElem?_set_ne hj] at q
    obtain ⟨w, e1, e2⟩ := h.2 j e q
    exact ⟨w, by rw [List.getElem?_set_ne hj]; exact e1, e2⟩⟩
def wipeD (δ : DEnv) : List Nat → DEnv
  | [] => δ
  | v :: vs => (wipeD δ vs).set v none
theorem EnvD.unset (h : EnvD K H σ δ) (i : Nat) (o : Option V) : EnvD K H (σ.set i o) (δ.set i none) := ⟨by simp [h.1], fun j e q => by
  by_cases hj : i = j
  · subst hj
    by_cases hi : i < δ.length
    · rw [List.getElem?_set_self hi] at q; cases q
    · rw [List.getElem?_eq_none (by simpa using hi)] at q; cases q
  · rw [List.getElem?_set_ne hj] at q
    obtain ⟨w, e1, e2⟩ := h.2 j e q
    exact ⟨w, by rw [List.getElem?_set_ne hj]; exact e1, e2⟩⟩
theorem EnvD.wipe (h : EnvD K H σ δ) : ∀ vs : List Nat, EnvD K H (L2.wipe σ vs) (wipeD δ vs)
  | [] => h
  | v :: vs => (EnvD.wipe h vs).unset v none
end
/-- slots off js are as they were -/
def Off (js : List Nat) (σ σ' : St) : Prop := σ'.length = σ.length ∧ ∀ i, i ∉ js → σ'[i]? = σ[i]?
theorem Off.refl {js : List Nat} {σ : St} : Off js σ σ := ⟨rfl, fun _ _ => rfl⟩
theorem Off.trans {js : List Nat} {σ σ1 σ2 : St} (a : Off js σ σ1) (b : Off js σ1 σ2) : Off js σ σ2 := ⟨b.1.trans a.1, fun i hi => (b.2 i hi).trans (a.2 i hi)⟩
theorem Off.mono {js ks : List Nat} {σ σ' : St} (a : Off js σ σ') (h : ∀ i ∈ js, i ∈ ks) : Off ks σ σ' := ⟨a.1, fun i hi => a.2 i fun z => hi (h i z)⟩
theorem Off.wipe {js vs : List Nat} {σ σ' : St} (a : Off js σ σ') (h : ∀ i ∈ js, i ∈ vs) : L2.wipe σ' vs = L2.wipe σ vs := by
  have key : ∀ (vs : List Nat) (τ : St) (i : Nat), (L2.wipe τ vs)[i]? = if i ∈ vs ∧ i < τ.length then some none else τ[i]? := by
    intro vs
    induction vs with
    | nil => intro τ i; simp [L2.wipe]
    | cons v vs ih =>
      intro τ i
      unfold L2.wipe
      by_cases hv : v = i
      · subst hv
        by_cases hl : v < τ.length
        · rw [List.getElem?_set_self (by rw [L2.wipe_length]; exact hl)]
          simp [hl]
        · rw [List.getElem?_eq_none (by rw [List.length_set, L2.wipe_length]; omega)]
          simp [hl]
      · rw [List.getElem?_set_ne hv, ih]
        simp [Ne.symm hv, show ¬ i = v from fun e => hv e.symm]
  apply List.ext_getElem?
  intro i
  rw [key, key]
  by_cases hi : i ∈ vs
  · by_cases hl : i < σ.length
    · simp [hi, hl, a.1]
    · have h1 : σ'[i]? = none := List.getElem?_eq_none (by rw [a.1]; omega)
      have h2 : σ[i]? = none := List.getElem?_eq_none (by omega)
      simp [hi, hl, a.1, h1, h2]
  · simp [hi]
    exact a.2 i fun z => hi (h i z)
/-- a list of data, walked -/
def Walks (K : PySem.W.Frag) (J : It) (ds : List D) (H1 : Hp) : Prop := ∀ i H, Same H1 H →
  (i < ds.length → J.go i H ∧ ∀ x H', J.yld i H x H' → Same H H' ∧ ∃ d, ds[i]? = some d ∧ Den K H' d x) ∧ (i = ds.length → J.stop i H)

/-! ### the judgements: over a family of contexts (a def's body, or a comprehension's blocks) that share the written part -/
inductive Out where
  | nx (δ : DEnv)
  | rt (d : D)
def Reach (K : PySem.W.Frag) (D : Ends) (H : Hp) : Out → Prop
  | .nx δ' => ∀ σ' H', Same H H' → EnvD K H' σ' δ' → D.nx σ' H'
  | .rt d => ∀ v H', Same H H' → Den K H' d v → D.rt v H'
section
variable (F : Cx → Prop) (K : PySem.W.Frag)
def SE (e : Expr) (f : DEnv → Option D) : Prop := ∃ t : TE, (∀ X, F X → PE X e t) ∧ ∀ σ H δ d Q, EnvD K H σ δ → f δ = some d → (∀ v H', Same H H' → Den K H' d v → Q v H') → t σ H Q
def ST (e : Expr) (f : DEnv → Option Bool) : Prop := ∃ t : TT, (∀ X, F X → PT X e t) ∧ ∀ σ H δ d Q, EnvD K H σ δ → f δ = some d → (∀ H', Same H H' → Q d H') → t σ H Q
def SW (e : Expr) (f : DEnv → Option Bool) : Prop := ∃ t : TT, (∀ X, F X → PW X e t) ∧ ∀ σ H δ d Q, EnvD K H σ δ → f δ = some d → (∀ H', Same H H' → Q d H') → t σ H Q
def SA (es : List Expr) (f : DEnv → Option (List D)) : Prop := ∃ t : TA, (∀ X, F X → PA X es t) ∧ ∀ σ H δ ds Q, EnvD K H σ δ → f δ = some ds → (∀ vs H', Same H H' → DenL K H' ds vs → Q vs H') → t σ H Q
def SG (tg : Expr) (js : List Nat) (f : D → DEnv → Option DEnv) : Prop := ∃ g : TG, (∀ X, F X → PG X tg g) ∧ ∀ σ H δ δ' d v Q, EnvD K H σ δ → Den K H d v → f d δ = some δ' → (∀ σ', EnvD K H σ' δ' → Off js σ σ' → Q σ' H) → g v σ H Q
def SGs (tg : List Expr) (js : List Nat) (f : List D → DEnv → Option DEnv) : Prop := ∃ g : TGs, (∀ X, F X → PGs X tg g) ∧ ∀ σ H δ δ' ds vs Q, EnvD K H σ δ → DenL K H ds vs → f ds δ = some δ' → (∀ σ', EnvD K H σ' δ' → Off js σ σ' → Q σ' H) → g vs σ H Q
def SI (tg iter : Expr) (f : DEnv → Option (List D)) : Prop := ∃ wi : TI, (∀ X, F X → PI X tg iter wi) ∧ ∀ σ H δ ds R, EnvD K H σ δ → f δ = some ds → (∀ J H', Same H H' → Walks K J ds H' → R J H') → wi σ H R
def SS (st : Stmt) (f : DEnv → Option Out) : Prop := ∃ t : TS, (∀ X, F X → PS X st t) ∧ ∀ σ H δ o D, EnvD K H σ δ → f δ = some o → Reach K D H o → t D σ H
def SSs (sts : List Stmt) (f : DEnv → Option Out) : Prop := ∃ t : TS, (∀ X, F X → PSs X sts t) ∧ ∀ σ H δ o D, EnvD K H σ δ → f δ = some o → Reach K D H o → t D σ H
end
theorem Reach.same {K : PySem.W.Frag} {D : Ends} {H H' : Hp} {o : Out} (h : Reach K D H o) (e : Same H H') : Reach K D H' o := by
  cases o with
  | nx δ => exact fun σ H1 e1 q => h σ H1 (e.trans e1) q
  | rt d => exact fun v H1 e1 q => h v H1 (e.trans e1) q
def bad {α β : Type} : α → Option β := fun _ => none
section
variable {F : Cx → Prop} {K : PySem.W.Frag}
theorem SE.bad {e : Expr} : SE F K e bad := ⟨fun _ _ _ => False, fun _ _ => ⟨fun _ _ _ _ _ _ h => h.elim⟩, fun _ _ _ _ _ _ h => nomatch h⟩
theorem ST.bad {e : Expr} : ST F K e bad := ⟨fun _ _ _ => False, fun _ _ => ⟨fun _ _ _ _ _ _ h => h.elim⟩, fun _ _ _ _ _ _ h => nomatch h⟩
theorem SW.bad {e : Expr} : SW F K e bad := ⟨fun _ _ _ => False, fun _ _ => ⟨fun _ _ _ _ _ _ _ h => h.elim⟩, fun _ _ _ _ _ _ h => nomatch h⟩
theorem SA.bad {e : List Expr} : SA F K e bad := ⟨fun _ _ _ => False, fun _ _ => ⟨fun _ _ _ _ _ _ _ h => h.elim⟩, fun _ _ _ _ _ _ h => nomatch h⟩
theorem SG.bad {e : Expr} {js : List Nat} : SG F K e js (fun _ => DV.bad) := ⟨fun _ _ _ _ => False, fun _ _ => ⟨fun _ _ _ _ _ _ _ _ _ h => h.elim⟩, fun _ _ _ _ _ _ _ _ _ h => nomatch h⟩
theorem SGs.bad {e : List Expr} {js : List Nat} : SGs F K e js (fun _ => DV.bad) := ⟨fun _ _ _ _ => False, fun _ _ => ⟨fun _ _ _ _ _ _ _ _ _ h => h.elim⟩, fun _ _ _ _ _ _ _ _ _ h => nomatch h⟩
theorem SI.bad {tg e : Expr} : SI F K tg e bad := ⟨fun _ _ _ => False, fun _ _ => ⟨fun _ _ _ _ _ _ h => h.elim⟩, fun _ _ _ _ _ _ h => nomatch h⟩
theorem SS.bad {e : Stmt} : SS F K e bad := ⟨fun _ _ _ => False, fun _ _ => ⟨fun _ _ _ _ _ _ h => h.elim⟩, fun _ _ _ _ _ _ h => nomatch h⟩
theorem SSs.bad {e : List Stmt} : SSs F K e bad := ⟨fun _ _ _ => False, fun _ _ => ⟨fun _ _ _ _ _ _ h => h.elim⟩, fun _ _ _ _ _ _ h => nomatch h⟩
end
/-! ### the family: contexts of one scope over one module -/
structure Ctx where
  P : Program
  w : World
  K : PySem.W.Frag
  mg : Str → Option Value
  base : Heap
  kk : Nat
  N : List Str
structure Fam (c : Ctx) (sc : Scope) (top : Bool) (X : Cx) : Prop where
  P : X.prog = c.P
  w : X.w = c.w
  K : X.K = c.K
  mg : X.mg = c.mg
  base : X.base = c.base
  N : X.N = c.N
  sc : X.env.scope = sc
  room : Room c.kk X.A
  calm : X.calm = true
  po : PassesOwn (model X.prog X.w) X.A X.env X.xe
  fn : top = true → ∀ x, X.fn x = true
theorem Fam.blk {c : Ctx} {sc : Scope} {top : Bool} {X : Cx} (h : Fam c sc top X) (s : Shared) (H : Hp) (scope : Scope) (cl : List (Str × Addr)) (C : Addr) (fp : List Addr) : Fam c (relS scope sc) false (X.blk s H scope (compEnvC scope cl C X.env) fp) :=
  ⟨h.P, h.w, h.K, h.mg, h.base, h.N, by show relS scope X.env.scope = _; rw [h.sc], h.room, h.calm, PassesOwn.never, fun q => nomatch q⟩
theorem Fam.units {c : Ctx} {sc : Scope} {top : Bool} {X : Cx} (h : Fam c sc top X) : X.A.units + 64 < cLine := h.room.units
end DV
end
section
set_option Elab.async false
set_option linter.all false
set_option maxRecDepth 100000
set_option maxHeartbeats 4000000
/-! The text: each def of the program by its place. Printed by wip/gen1.py and spl.py. -/
namespace FR
open PySem PySem.Spec PyProof.Rows L2 DV
def topS (i : Nat) : Stmt := PySem.Challenge.pw_formrings_k25_whole_least_forms_judged.main.body.getD i (.Pass ⟨0, 0, 0, 0⟩)
abbrev s_is_whole : Stmt := topS 12
abbrev s_is_integer : Stmt := topS 13
abbrev s_common_of : Stmt := topS 14
abbrev s_joined_in : Stmt := topS 21
abbrev s_are_integers : Stmt := topS 24
abbrev s_content_of : Stmt := topS 25
abbrev s_lowest_place : Stmt := topS 36
abbrev s_places_of_double : Stmt := topS 37
abbrev s_monic_at : Stmt := topS 38
abbrev s_bisected : Stmt := topS 39
abbrev s_monic_roots : Stmt := topS 40
abbrev s_places_of_cubic : Stmt := topS 41
abbrev s_form_at : Stmt := topS 48
abbrev s_form_led : Stmt := topS 49
abbrev s_discriminant_of : Stmt := topS 50
abbrev s_hessian_of : Stmt := topS 51
abbrev s_small_changes : Stmt := topS 63
abbrev s_way_to_small : Stmt := topS 64
abbrev s_led_above : Stmt := topS 65
abbrev s_bezout : Stmt := topS 72
abbrev s_end_change : Stmt := topS 73
abbrev s_lead_with_root : Stmt := topS 74
abbrev s_is_small : Stmt := topS 75
abbrev s_is_between : Stmt := topS 76
abbrev s_is_not_past : Stmt := topS 77
abbrev s_best_shift : Stmt := topS 78
abbrev s_lead_without_root : Stmt := topS 79
abbrev s_led_below : Stmt := topS 80
abbrev s_double_place : Stmt := topS 84
abbrev s_with_first : Stmt := topS 85
abbrev s_last_way : Stmt := topS 86
abbrev s_led_zero : Stmt := topS 87
abbrev s_least_of : Stmt := topS 90
abbrev s_least_row : Stmt := topS 91
abbrev s_least_made : Stmt := topS 92
abbrev s_require_short : Stmt := topS 93
abbrev s_is_least : Stmt := topS 94
abbrev s_least_form : Stmt := topS 95
abbrev s_form_told : Stmt := topS 54
abbrev s_made_form : Stmt := topS 55
abbrev s_require_form : Stmt := topS 56
abbrev s__law_crock : Stmt := topS 97
abbrev s__law_scoop : Stmt := topS 98
abbrev s__law_lines : Stmt := topS 100
abbrev s__law_led : Stmt := topS 101
abbrev s__law_discriminant : Stmt := topS 102
abbrev s__law_at : Stmt := topS 103
abbrev s__law_has_root : Stmt := topS 105
abbrev s__law_small : Stmt := topS 106
abbrev s__law_is_mathews : Stmt := topS 108
abbrev s__law_hessian : Stmt := topS 109
abbrev s__law_is_greatest : Stmt := topS 110
abbrev s__law_is_due : Stmt := topS 111
abbrev s__law_drawn : Stmt := topS 112
abbrev s__law_right : Stmt := topS 113
abbrev s_law : Stmt := topS 114
abbrev s_KeptForm_init : Stmt := inClass (topS 52) 1
abbrev s_Form_init : Stmt := inClass (topS 53) 1
abbrev s_Form_coefficients : Stmt := inClass (topS 53) 3
abbrev s_Form_eq : Stmt := inClass (topS 53) 17
abbrev s_Walk_init : Stmt := inClass (topS 71) 1
abbrev s_Walk_step : Stmt := inClass (topS 71) 2
end FR
end
section
set_option Elab.async false
set_option linter.all false
set_option maxRecDepth 100000
set_option maxHeartbeats 4000000
/-! The module's constants, as data. Printed by wip/res.py and spl.py. -/
namespace FR
open PySem PySem.Spec PyProof.Rows L2 DV
def tI (l : List Int) : D := .tup (l.map D.int)
def ch (p q r s : Int) : D := .tup [tI [p, q], tI [r, s]]
def consts0 : List (Str × D) := [("SIXTY_DIGITS", .int (10 ^ 60)), ("IDLE", ch 1 0 0 1), ("SWAPPED", ch 0 1 (-1) 0), ("MIRRORED", ch 1 0 0 (-1)), ("SIGNS", tI [-1, 0, 1]), ("END", tI [1, 0]), ("OPPOSITE_zero", ch (-1) 0 0 (-1)), ("TURNED", ch (-1) 0 0 1), ("SIZE_forms", .int 4), ("MIRROR_BACK", ch (-1) 0 0 1), ("MIRROR", ch 1 0 0 (-1)), ("OPPOSITE_below", ch (-1) 0 0 (-1)), ("EXCHANGE", ch 0 1 (-1) 0)]
end FR
end
section
set_option Elab.async false
set_option linter.all false
set_option maxRecDepth 100000
set_option maxHeartbeats 4000000
/-! What is asked of the module behind its top. Printed by wip/gen8.py. -/
namespace FR
open PySem PySem.Spec PyProof.Rows L2 DV He
def addrs : List Addr := [2, 3, 43, 45, 46, 48, 49, 50, 57, 58, 59, 60, 63, 70, 71, 72, 75, 82, 83, 84, 87, 94, 95, 96, 99, 102, 107, 108, 110, 111, 113, 114, 115, 116, 117, 120, 123, 128, 129, 131, 132, 134, 135, 136, 137, 138, 139, 142, 145, 150, 151, 153, 154, 156, 157, 158, 159, 160, 161, 164, 166, 167, 169, 170, 171, 173, 174, 176, 177, 178, 180, 181, 183, 184, 185, 186, 187, 188, 190, 191, 193, 194, 195, 198, 199, 200, 202, 203, 205, 206, 207, 210, 211, 212, 214, 215, 217, 218, 219, 222, 223, 224, 226, 227, 229, 230, 231, 234, 235, 236, 238, 239, 241, 242, 243, 245, 246, 248, 249, 250, 252, 253, 255, 256, 264, 265, 267, 268, 270, 271, 272, 274, 275, 276, 286, 287, 289, 290, 292, 293, 294, 296, 297, 299, 300, 301, 302, 304, 305, 307, 308, 309, 310, 312, 313, 315, 316, 317, 318, 320, 321, 323, 324, 325, 327, 328, 330, 331, 332, 335, 336, 337, 339, 340, 342, 343, 344, 346, 347, 349, 350, 351, 353, 354, 355, 358, 360, 361, 363, 364, 365, 367, 368, 370, 371, 372, 373, 375, 376, 378, 379, 380, 382, 383, 385, 386, 387, 389, 390, 392, 393, 394, 396, 397, 399, 400, 401, 403, 404, 406, 407, 408, 411, 412, 413, 415, 416, 418, 419, 420, 422, 423, 425, 426, 427, 429, 430, 432, 433, 434, 436, 437, 439, 440, 448, 449, 451, 452, 454, 455, 456, 458, 459, 460, 470, 471, 473, 474, 476, 477, 478, 480, 481, 483, 484, 485, 486, 487, 488, 490, 491, 493, 494, 495, 496, 498, 499, 501, 502, 503, 504, 506, 507, 509, 510, 511, 512, 514, 515, 517, 518, 519, 520, 522, 523, 525, 526, 527, 528, 530, 531, 533, 534, 535, 538, 539, 540, 542, 543, 545, 546, 547, 549, 550, 552, 553, 554, 556, 557, 559, 560, 561, 563, 564, 566, 567, 568, 570, 571, 573, 574, 575, 577, 578, 580, 581, 582, 585, 586, 587, 589, 590, 592, 593, 594, 596, 597, 599, 600, 601, 603, 604, 606, 607, 608, 610, 611, 612, 615, 617, 618, 620, 621, 622, 624, 625, 627, 628, 629, 631, 632, 634, 635, 636, 639, 640, 641, 644, 645, 646, 647, 648, 649, 650, 651, 652, 653, 656, 657, 658, 660, 661, 663, 664, 665, 667, 668, 670, 671, 672, 673, 674, 675, 676, 677, 678, 679, 680, 681, 682, 683, 691, 692, 694, 695, 697, 698, 699, 701, 702, 704, 705, 706, 708, 709, 710, 711, 714, 717, 718, 719, 721, 722, 724, 725, 726, 728, 729, 731, 732, 733, 735, 736, 738, 739, 740, 742, 743, 745, 746, 747, 749, 750, 752, 753, 754, 756, 757, 759, 760, 761, 763, 764, 766, 767, 768, 770, 771, 773, 774, 775, 776, 777, 778, 779, 780, 781, 783, 784, 786, 787, 788, 791, 792, 793, 795, 796, 798, 799, 800, 802, 803, 805, 806, 807, 809, 810, 812, 813, 814, 816, 817, 819, 820, 821, 823, 824, 826, 827, 828, 831, 832, 833, 835, 836, 838, 839, 840, 842, 843, 845, 846, 847, 849, 850, 852, 853, 854, 856, 857, 859, 860, 868, 871, 872, 873, 876, 877, 878, 880, 881, 883, 884, 885, 887, 888, 890, 891, 899, 902, 903, 904, 907, 908, 916, 918, 919, 921, 922, 923, 925, 926, 928, 929, 930, 933, 934, 935, 937, 938, 940, 941, 942, 944, 945, 947, 948, 949, 952, 953, 954, 957, 958]
def dfn (x : Str) (st : Stmt) : DefD := ⟨(x, none), x, x, defArgs st, defBody st, defScope st, [], []⟩
def dme (C m q : Str) (st : Stmt) : DefD := ⟨(C, some m), m, q, defArgs st, defBody st, defScope st, [], []⟩
def hfn : List DefD := [dfn "is_whole" s_is_whole, dfn "is_integer" s_is_integer, dfn "common_of" s_common_of, dfn "joined_in" s_joined_in, dfn "are_integers" s_are_integers, dfn "content_of" s_content_of, dfn "lowest_place" s_lowest_place, dfn "places_of_double" s_places_of_double, dfn "monic_at" s_monic_at, dfn "bisected" s_bisected, dfn "form_at" s_form_at, dfn "form_led" s_form_led, dfn "discriminant_of" s_discriminant_of, dfn "hessian_of" s_hessian_of, dfn "small_changes" s_small_changes, dfn "way_to_small" s_way_to_small, dfn "led_above" s_led_above, dfn "bezout" s_bezout, dfn "end_change" s_end_change, dfn "is_small" s_is_small, dfn "is_between" s_is_between, dfn "is_not_past" s_is_not_past, dfn "best_shift" s_best_shift, dfn "double_place" s_double_place, dfn "with_first" s_with_first, dfn "last_way" s_last_way, dfn "led_zero" s_led_zero, dfn "require_short" s_require_short, dfn "_law_lines" s__law_lines, dfn "_law_led" s__law_led, dfn "_law_discriminant" s__law_discriminant, dfn "_law_at" s__law_at, dfn "_law_has_root" s__law_has_root, dfn "_law_is_mathews" s__law_is_mathews, dfn "_law_hessian" s__law_hessian, dfn "monic_roots" s_monic_roots, dfn "places_of_cubic" s_places_of_cubic, dfn "lead_with_root" s_lead_with_root, dfn "lead_without_root" s_lead_without_root, dfn "led_below" s_led_below, dfn "form_told" s_form_told, dfn "made_form" s_made_form, dfn "require_form" s_require_form, dfn "least_of" s_least_of, dfn "least_row" s_least_row, dfn "least_made" s_least_made, dfn "is_least" s_is_least, dfn "least_form" s_least_form, dfn "_law_is_greatest" s__law_is_greatest, dfn "_law_is_due" s__law_is_due, dfn "_law_scoop" s__law_scoop, dfn "_law_small" s__law_small, dfn "_law_drawn" s__law_drawn, dfn "_law_crock" s__law_crock, dfn "_law_right" s__law_right, dfn "law" s_law, dme "Form" "__init__" "Form.__init__" s_Form_init, dme "KeptForm" "__init__" "KeptForm.__init__" s_KeptForm_init, dme "Walk" "__init__" "Walk.__init__" s_Walk_init, dme "Walk" "step" "Walk.step" s_Walk_step, dme "Form" "__eq__" "Form.__eq__" s_Form_eq]
def hfa : List Fa := [.glo "is_whole", .glo "is_integer", .glo "common_of", .glo "joined_in", .glo "are_integers", .glo "content_of", .glo "lowest_place", .glo "places_of_double", .glo "monic_at", .glo "bisected", .glo "form_at", .glo "form_led", .glo "discriminant_of", .glo "hessian_of", .glo "small_changes", .glo "way_to_small", .glo "led_above", .glo "bezout", .glo "end_change", .glo "is_small", .glo "is_between", .glo "is_not_past", .glo "best_shift", .glo "double_place", .glo "with_first", .glo "last_way", .glo "led_zero", .glo "require_short", .glo "_law_lines", .glo "_law_led", .glo "_law_discriminant", .glo "_law_at", .glo "_law_has_root", .glo "_law_is_mathews", .glo "_law_hessian", .glo "monic_roots", .glo "places_of_cubic", .glo "lead_with_root", .glo "lead_without_root", .glo "led_below", .glo "form_told", .glo "made_form", .glo "require_form", .glo "least_of", .glo "least_row", .glo "least_made", .glo "is_least", .glo "least_form", .glo "_law_is_greatest", .glo "_law_is_due", .glo "_law_scoop", .glo "_law_small", .glo "_law_drawn", .glo "_law_crock", .glo "_law_right", .glo "law", .free "abs", .free "max", .free "min", .free "len", .free "tuple", .free "int", .free "all", .free "any", .free "isinstance", .free "bool", .free "range", .free "zip", .free "enumerate", .free "sorted", .free "sum", .glo "Form", .glo "KeptForm", .glo "Walk", .mkr "Form", .mkr "KeptForm", .mkr "Walk", .meth "Walk" "step", .meth "Form" "__eq__"]
mutual
/-- the value is this data, in the written part -/
def isD (K : PySem.W.Frag) : D → Value → Bool
  | .int i, .int j _ => decide (j = i)
  | .tup ds, .ref a => (match K.lookup a with
    | some ⟨.type c, _, .seq its _, _⟩ => decide (c = "tuple") && (decide (its.size ≤ sizeLine) && isDL K ds its.toList)
    | _ => false)
  | _, _ => false
def isDL (K : PySem.W.Frag) : List D → List Value → Bool
  | [], [] => true
  | d :: ds, v :: vs => isD K d v && isDL K ds vs
  | _, _ => false
end
def constB (K : PySem.W.Frag) (q : Str × D) : Bool := match PySem.W.nsIn K mainGlobals q.1 with
  | some (some v) => isD K q.2 v
  | _ => false
def clsB (K : PySem.W.Frag) (C : Addr) : Bool := PySem.W.plainGet K C Str.empty && (PySem.W.isClsIn K C && (PySem.W.plainOver K C && eqO (PySem.W.findIn K (.ref C) "__setattr__") (some (some (.builtin "object.__setattr__")))))
def isiB (K : PySem.W.Frag) (C : Addr) : Bool := eqO (PySem.W.findIn K (.ref C) "__class__") (some (some (.builtin "object.__class__"))) && (eqO (PySem.W.specialIn K (.builtin "object.__class__") "__get__") (some (some (.builtin "getset_descriptor.__get__"))) &&
  (decide (PySem.W.takesIn K (.builtin "object.__class__") = some true) && (decide (PySem.W.mroIn K C (.type "object") = some true) && (decide (PySem.W.kitOne K (.ref C) (.ref C) = some true) && decide (PySem.W.kitOne K (.type "tuple") (.ref C) = some false)))))
def slotB (K : PySem.W.Frag) (C : Addr) (f : Str) (i : Nat) : Bool := eqO (PySem.W.findIn K (.ref C) f) (some (some (.ref (ma K C f)))) && (eqO (PySem.W.specialIn K (.ref (ma K C f)) "__get__") (some (some (.builtin "member_descriptor.__get__"))) &&
  (decide (PySem.W.takesIn K (.ref (ma K C f)) = some true) && (decide (PySem.W.typeIn K (.ref (ma K C f)) = some (.type "member_descriptor")) && decide (PySem.W.slotIn K (ma K C f) C = some i))))
/-- the getter of Form.coefficients -/
def pgA (K : PySem.W.Frag) : Addr := match PySem.W.recIn K (ma K (ga K "Form") "coefficients") "property" with
  | some (.ref a :: _) => a
  | _ => 0
def propB (K : PySem.W.Frag) : Bool := eqO (PySem.W.findIn K (.ref (ga K "Form")) "coefficients") (some (some (.ref (ma K (ga K "Form") "coefficients")))) && (eqO (PySem.W.specialIn K (.ref (ma K (ga K "Form") "coefficients")) "__get__") (some (some (.builtin "property.__get__"))) &&
  (decide (PySem.W.takesIn K (.ref (ma K (ga K "Form") "coefficients")) = some true) && (match PySem.W.recIn K (ma K (ga K "Form") "coefficients") "property" with
    | some (.ref _ :: _) => true
    | _ => false)))
def getB (K : PySem.W.Frag) : Bool := PySem.W.keepIn K (.ref (pgA K)) && (match K.lookup (pgA K) with
  | some ⟨_, _, .func fd, _⟩ => PySem.W.codeIn K fd.code "Form.coefficients" && (dflB K fd.defaults [] && kwdB K fd.kwdefaults [])
  | _ => false)
def fnA (K : PySem.W.Frag) (a : Addr) : FnW := match K.lookup a with
  | some ⟨_, _, .func fd, _⟩ => some (fd.name, fd.qualname, fd.params, fd.body, fd.scope, fd.globals, fd.closure, fd.builtins)
  | _ => none
def exL (K : PySem.W.Frag) : List Bool := consts0.map (constB K) ++ [eqO (PySem.W.nsIn K mainGlobals "gcd") (some (some (.builtin "math.gcd"))), eqO (PySem.W.nsIn K mainGlobals "isqrt") (some (some (.builtin "math.isqrt"))),
  clsB K (ga K "Form"), clsB K (ga K "KeptForm"), clsB K (ga K "Walk"), isiB K (ga K "Form"), isiB K (ga K "KeptForm"),
  slotB K (ga K "Form") "own_coefficients" 0, slotB K (ga K "KeptForm") "own_numbers" 0, slotB K (ga K "Walk") "own_change" 0, slotB K (ga K "Walk") "own_numbers" 1,
  propB K, getB K, PySem.W.notFirst K (ga K "Form") (.ref (ga K "Form")), decide (ga K "KeptForm" ≠ ga K "Walk")]
abbrev AlH : Type := AlD × FnW × Bool
def obsH (K : PySem.W.Frag) : AlH := (obsD hfa hfn K, fnA K (pgA K), (exL K).all id)
def valH : AlH := (valD hfn, some ("coefficients", "Form.coefficients", defArgs s_Form_coefficients, .stmts (defBody s_Form_coefficients), defScope s_Form_coefficients, mainGlobals, [], builtinsNs), true)
def hookH : PySem.W.Hook where
  α := AlH
  obs := fun s => obsH (frG s.heap.get? addrs)
  val := fun _ => valH
  says := fun _ h => ∃ K : PySem.W.Frag, K.In h ∧ obsH K = valH
  of := fun _ _ e => ⟨_, frG_in, e⟩
  keeps := fun _ _ _ ⟨K, hK, c⟩ k => ⟨K, PySem.W.Frag.In.keeps hK k, c⟩
end FR
end
section
set_option Elab.async false
set_option linter.all false
set_option maxRecDepth 100000
set_option maxHeartbeats 0
/-! The head's run. -/
namespace FR
open PySem PySem.Spec PyProof.Rows L2 DV He
abbrev R : PySem.W.OpenRow := PySem.W.OpenLaw.row PySem.Challenge.rw_formrings_k25_whole_least_forms_judged
def obT (s : PySem.W.SharedT) : AlH := obsH (frG (HandSHeadRun.getT s) addrs)
theorem obT_eq (s : PySem.W.SharedT) : obT s = hookH.obs s.abs := by
  have e : HandSHeadRun.getT s = s.abs.heap.get? := funext (HandSHeadRun.getT_eq s)
  unfold obT
  rw [e]
  rfl
abbrev qv : Program := PySem.W.view R.prog [0, 114]
def loose : List Str := ["_wall", "RingError", "InvalidForm", "InvalidChange", "InvalidDouble", "ParseError", "InvalidNumber", "TooMany", "SIXTY_DIGITS", "is_whole", "is_integer", "common_of", "IDLE", "determinant_of", "are_two_pairs", "is_change_in", "require_change", "joined_in", "SIZE_doubles", "are_integers", "content_of", "numbers_text", "require_two_integers", "double_at", "double_led", "KeptDouble", "Double", "double_told", "made_double"]
def loose2 : List Str := ["END", "lowest_place", "places_of_double", "monic_at", "bisected", "monic_roots", "places_of_cubic", "SIZE_forms", "MOST_DIGITS_forms", "MINUS", "BETWEEN", "DIGITS", "form_at", "form_led", "discriminant_of", "hessian_of", "KeptForm", "Form", "form_told", "made_form", "require_form", "number_in", "numbers_in", "SWAPPED", "MIRRORED", "SIGNS", "small_changes", "way_to_small", "led_above"]
def loose3 : List Str := ["EXCHANGE", "OPPOSITE_below", "MIRROR", "MIRROR_BACK", "Walk", "bezout", "end_change", "lead_with_root", "is_small", "is_between", "is_not_past", "best_shift", "lead_without_root", "led_below", "OPPOSITE_zero", "TURNED", "double_place", "with_first", "last_way", "led_zero", "MOST_DIGITS_least", "least_of", "least_row", "least_made", "require_short", "is_least", "least_form"]
def loose4 : List Str := ["_law_crock", "_law_scoop", "_law_choose", "_law_lines", "_law_led", "_law_discriminant", "_law_at", "_law_change", "_law_has_root", "_law_small", "_law_with", "_law_is_mathews", "_law_hessian", "_law_is_greatest", "_law_is_due", "_law_drawn", "_law_right"]
def looseA : List Str := loose ++ loose2 ++ loose3 ++ loose4
def kOf (s : PySem.W.SharedT) : PySem.W.Frag := frG (HandSHeadRun.getT s) addrs
end FR
namespace HandSHeadRun
open PySem PySem.W PySem.Calls PyProof.Rows
theorem fr_e1 (w : World) : (wholeF (fun p => stepQ (denQ tabQ) p w) fenceQ 9000 FR.R.prog).map (fun x => (looksF FR.R.prog x.1.heap x.2.abs, seenQ FR.qv FR.looseA (importedModules FR.R.prog.main.body) (fun s => xlAt FR.qv [] s && recOk FR.R.toRowW.records s) x.2.abs)) = some (true, openGood FR.qv FR.looseA) := by
  kernel_rfl
theorem fr_e2 (w : World) : (wholeF (fun p => stepQ (denQ tabQ) p w) fenceQ 9000 FR.R.prog).map (fun x => (FR.hfa.all fun f => f.ok (FR.kOf x.2)) && FR.hfn.all fun d => d.ok (FR.kOf x.2)) = some true := by
  kernel_rfl
theorem fr_e3 (w : World) : (wholeF (fun p => stepQ (denQ tabQ) p w) fenceQ 9000 FR.R.prog).map (fun x => (FR.hfn.map fun d => He.fnW (FR.kOf x.2) d.at_, FR.fnA (FR.kOf x.2) (FR.pgA (FR.kOf x.2)), (FR.exL (FR.kOf x.2)).all id)) = some (FR.hfn.map He.DefD.val, FR.valH.2) := by
  kernel_rfl
end HandSHeadRun
namespace FR
open PySem PySem.Spec PyProof.Rows L2 DV He
theorem run0 (w : World) : HandSHeadRun.RunEqI R qv hookH obT 9000 looseA w := by
  obtain ⟨x, hx, h1⟩ := Option.map_eq_some_iff.mp (HandSHeadRun.fr_e1 w)
  obtain ⟨x2, hx2, h2⟩ := Option.map_eq_some_iff.mp (HandSHeadRun.fr_e2 w)
  obtain ⟨x3, hx3, h3⟩ := Option.map_eq_some_iff.mp (HandSHeadRun.fr_e3 w)
  have q2 : x2 = x := Option.some.inj (hx2.symm.trans hx)
  have q3 : x3 = x := Option.some.inj (hx3.symm.trans hx)
  rw [q2] at h2
  rw [q3] at h3
  obtain ⟨h11, h12⟩ := Prod.mk.inj h1
  obtain ⟨h31, h32⟩ := Prod.mk.inj h3
  refine Option.map_eq_some_iff.mpr ⟨x, hx, Prod.ext h11 (Prod.ext h12 ?_)⟩
  exact Prod.ext (Prod.ext h2 h31) h32
end FR
end
section
set_option Elab.async false
set_option linter.all false
set_option maxRecDepth 100000
set_option maxHeartbeats 4000000
/-! DV: operations on values, and the expressions' combinators. -/
namespace DV
open PySem PySem.Spec PyProof.Rows L2

section
variable {K : PySem.W.Frag} {H : Hp}
theorem same_new {p : Addr} {o : HO} (h : H p = none) : Same H (upd H p o) := fun b x e => by
  have n : b ≠ p := ne_of_none e h
  rw [upd_ne n]; exact e
theorem den_lst {p : Addr} {ds : List D} {vs : List V} (h : H p = none) (d : DenL K H ds vs) : Den K (upd H p (.lst vs)) (.lst ds) (.ref p) :=
  ⟨p, vs, rfl, upd_same, DenL.same (same_new h) _ _ d⟩
theorem den_tup {p : Addr} {ds : List D} {vs : List V} (h : H p = none) (d : DenL K H ds vs) : Den K (upd H p (.tup vs)) (.tup ds) (.ref p) :=
  ⟨p, vs, rfl, SqT.of upd_same, DenL.same (same_new h) _ _ d⟩
theorem le1000 {n : Nat} (h : n ≤ 1000) : n ≤ sizeLine := Nat.le_of_lt (small1000 h)
end

section
variable (F : Cx → Prop) (K : PySem.W.Frag)
/-- a two-place operation of the model answers as a function of data -/
def OpS (f : Value → Value → Sem Value) (g : D → D → Option D) : Prop := ∃ r : R2, (∀ X, F X → OpR X f r) ∧
  ∀ x y d e z H Q, Den K H d x → Den K H e y → g d e = some z → (∀ v H', Same H H' → Den K H' z v → Q v H') → r x y H Q
/-- a call of a known value -/
def CallS (f : Value) (g : List D → Option D) : Prop := ∃ r : List V → Hp → VK → Prop, (∀ X, F X → CallR X f r) ∧
  ∀ xs ds z H Q, DenL K H ds xs → g ds = some z → (∀ v H', Same H H' → Den K H' z v → Q v H') → r xs H Q
end
section
variable {F : Cx → Prop} {K : PySem.W.Frag} {X : Cx}
theorem OpR.or {f : Value → Value → Sem Value} {r r' : R2} (h : OpR X f r) (h' : OpR X f r') : OpR X f (fun x y H Q => r x y H Q ∨ r' x y H Q) := by
  intro pins s σ H x y v u Q I rx ry q
  rcases q with q | q
  · exact h pins s σ H x y v u Q I rx ry q
  · exact h' pins s σ H x y v u Q I rx ry q
theorem OpR.no {f : Value → Value → Sem Value} : OpR X f (fun _ _ _ _ => False) := fun _ _ _ _ _ _ _ _ _ _ _ _ q => q.elim
theorem OpS.bad {f : Value → Value → Sem Value} : OpS F K f (fun _ => DV.bad) := ⟨_, fun _ _ => OpR.no, fun _ _ _ _ _ _ _ _ _ h => nomatch h⟩
theorem OpS.or {f : Value → Value → Sem Value} {g g' : D → D → Option D} (h : OpS F K f g) (h' : OpS F K f g') : OpS F K f (fun d e => (g d e).or (g' d e)) := by
  obtain ⟨r, a, b⟩ := h
  obtain ⟨r', a', b'⟩ := h'
  refine ⟨_, fun X hX => OpR.or (a X hX) (a' X hX), fun x y d e z H Q hx hy hz hQ => ?_⟩
  have hz : (g d e).or (g' d e) = some z := hz
  cases q : g d e with
  | some w => rw [q] at hz; cases hz; exact .inl (b x y d e _ H Q hx hy q hQ)
  | none => rw [q] at hz; exact .inr (b' x y d e z H Q hx hy hz hQ)
def intI (g : Int → Int → D) : D → D → Option D
  | .int i, .int j => some (g i j)
  | _, _ => none
def intC (c : Int → Int → Bool) (g : Int → Int → D) : D → D → Option D
  | .int i, .int j => if c i j = true then some (g i j) else none
  | _, _ => none
theorem intI_some {g : Int → Int → D} {d e z : D} (h : intI g d e = some z) : ∃ i j, d = .int i ∧ e = .int j ∧ z = g i j := by
  unfold intI at h
  split at h
  · cases h; exact ⟨_, _, rfl, rfl, rfl⟩
  · cases h
theorem intC_some {c : Int → Int → Bool} {g : Int → Int → D} {d e z : D} (h : intC c g d e = some z) : ∃ i j, d = .int i ∧ e = .int j ∧ c i j = true ∧ z = g i j := by
  unfold intC at h
  split at h
  · split at h
    · rename_i hc
      cases h; exact ⟨_, _, rfl, rfl, hc, rfl⟩
    · cases h
  · cases h
theorem OpS.int0 {f : Value → Value → Sem Value} {g : Int → Int → Int} (h : ∀ X, F X → OpR X f (rI0 fun i j => .int (g i j))) : OpS F K f (intI fun i j => .int (g i j)) := by
  refine ⟨_, h, fun x y d e z H Q hx hy hz hQ => ?_⟩
  obtain ⟨i, j, rfl, rfl, rfl⟩ := intI_some hz
  cases hx; cases hy
  exact ⟨_, _, rfl, rfl, hQ _ H (Same.refl H) rfl⟩
theorem OpS.bl0 {f : Value → Value → Sem Value} {g : Int → Int → Bool} (h : ∀ X, F X → OpR X f (rI0 fun i j => .bl (g i j))) : OpS F K f (intI fun i j => .bl (g i j)) := by
  refine ⟨_, h, fun x y d e z H Q hx hy hz hQ => ?_⟩
  obtain ⟨i, j, rfl, rfl, rfl⟩ := intI_some hz
  cases hx; cases hy
  exact ⟨_, _, rfl, rfl, hQ _ H (Same.refl H) rfl⟩
theorem OpS.intC {f : Value → Value → Sem Value} {g : Int → Int → Int} {C : Int → Int → Prop} {c : Int → Int → Bool} (hc : ∀ i j, c i j = true → C i j) (h : ∀ X, F X → OpR X f (rI C fun i j => .int (g i j))) : OpS F K f (intC c fun i j => .int (g i j)) := by
  refine ⟨_, h, fun x y d e z H Q hx hy hz hQ => ?_⟩
  obtain ⟨i, j, rfl, rfl, hcc, rfl⟩ := intC_some hz
  cases hx; cases hy
  exact ⟨_, _, rfl, rfl, hc _ _ hcc, hQ _ H (Same.refl H) rfl⟩
/-! ### numbers -/
def mulOk (i j : Int) : Bool := decide (i.natAbs < 18446744073709551616) || decide (j.natAbs < 18446744073709551616)
theorem mulOk_ok (i j : Int) (h : mulOk i j = true) : CMul i j := by
  unfold mulOk at h
  rw [Bool.or_eq_true, decide_eq_true_eq, decide_eq_true_eq] at h
  unfold CMul
  have e : (2 : Int) ^ 64 = 18446744073709551616 := by decide
  rw [e]
  omega
def divOk (_ j : Int) : Bool := decide (j ≠ 0) && decide (j.natAbs < 1073741824)
theorem divOk_ok (i j : Int) (h : divOk i j = true) : CDivN i j := by
  unfold divOk at h
  rw [Bool.and_eq_true, decide_eq_true_eq, decide_eq_true_eq] at h
  exact h
def modOk (_ j : Int) : Bool := decide (j ≠ 0)
def powOk (i j : Int) : Bool := decide (0 ≤ j) && decide ((PySem.Builtin.Int.intBits i : Int) * j ≤ 134217728)
def CPowB (i j : Int) : Prop := 0 ≤ j ∧ (PySem.Builtin.Int.intBits i : Int) * j ≤ 2 ^ 27
theorem powOk_ok (i j : Int) (h : powOk i j = true) : CPowB i j := by
  unfold powOk at h
  simp only [Bool.and_eq_true, decide_eq_true_eq] at h
  exact ⟨h.1, by have := h.2; omega⟩
theorem op_powB {X : Cx} : OpR X (binaryOp .Pow) (rI CPowB fun i j => .int (i ^ j.toNat)) := opI fun _ _ _ _ _ _ _ hc q => pow_int hc.1 hc.2 q
def catD : D → D → Option D
  | .lst a, .lst b => if a.length + b.length ≤ 1000 then some (.lst (a ++ b)) else none
  | _, _ => none
theorem opS_cat : OpS F K (binaryOp .Add) catD := by
  refine ⟨_, fun _ _ => op_cat, fun x y d e z H Q hx hy hz hQ => ?_⟩
  unfold catD at hz
  split at hz <;> try (cases hz; done)
  split at hz
  · rename_i hl
    cases hz
    obtain ⟨a, vs, rfl, h1, h2⟩ := hx
    obtain ⟨b, ws, rfl, h3, h4⟩ := hy
    refine ⟨a, b, vs, ws, rfl, rfl, h1, h3, le1000 (by rw [h2.length, h4.length]; exact hl), fun p hp => hQ _ _ (same_new hp) (den_lst hp (h2.append h4))⟩
  · cases hz
def repD : D → D → Option D
  | .lst a, .int k => if 0 ≤ k ∧ k ≤ 100 ∧ a.length ≤ 10 then some (.lst (List.replicate k.toNat a).flatten) else none
  | _, _ => none
theorem opS_rep : OpS F K (binaryOp .Mult) repD := by
  refine ⟨_, fun _ _ => op_rep, fun x y d e z H Q hx hy hz hQ => ?_⟩
  unfold repD at hz
  split at hz <;> try (cases hz; done)
  split at hz
  · rename_i a k hl
    cases hz
    obtain ⟨a, vs, rfl, h1, h2⟩ := hx
    cases hy
    obtain ⟨l1, l2, l3⟩ := hl
    have hn : vs.length * k.toNat ≤ 10 * 100 := Nat.mul_le_mul (by rw [h2.length]; exact l3) (by omega)
    refine ⟨a, k, vs, rfl, rfl, h1, by omega, by omega, le1000 (by omega), fun p hp => hQ _ _ (same_new hp) (den_lst hp (DenL.rep h2 _))⟩
  · cases hz
def addD : D → D → Option D := fun d e => (intI (fun i j => .int (i + j)) d e).or (catD d e)
def subD : D → D → Option D := intI fun i j => .int (i - j)
def mulD : D → D → Option D := fun d e => (intC mulOk (fun i j => .int (i * j)) d e).or (repD d e)
def fdivD : D → D → Option D := intC divOk fun i j => .int (i.fdiv j)
def modD : D → D → Option D := intC modOk fun i j => .int (i.fmod j)
def powD : D → D → Option D := intC powOk fun i j => .int (i ^ j.toNat)
def binD : Operator → D → D → Option D
  | .Add => addD
  | .Sub => subD
  | .Mult => mulD
  | .FloorDiv => fdivD
  | .Mod => modD
  | .Pow => powD
  | _ => fun _ => bad
theorem opS_bin (op : Operator) : OpS F K (binaryOp op) (binD op) := by
  cases op with
  | Add => exact (OpS.int0 fun _ _ => op_add).or opS_cat
  | Sub => exact OpS.int0 fun _ _ => op_sub
  | Mult => exact (OpS.intC mulOk_ok fun _ _ => op_mul).or opS_rep
  | FloorDiv => exact OpS.intC divOk_ok fun _ _ => op_fdivN
  | Mod => exact OpS.intC (fun i j h => of_decide_eq_true h) fun _ _ => op_modN
  | Pow => exact OpS.intC powOk_ok fun _ _ => op_powB
  | _ => exact OpS.bad
/-! ### comparisons -/
def eqD (neg : Bool) (d e : D) : Option D := if SeqAt.shaped (py d) && SeqAt.shaped (py e) then some (.bl (if neg then !PyData.eqv (py d) (py e) else PyData.eqv (py d) (py e))) else none
theorem opS_eq (hu : ∀ X, F X → X.A.units + 64 < cLine) (hK : ∀ X, F X → X.K = K) : OpS F K (compareOp .Eq) (eqD false) := by
  refine ⟨rEqD K, fun X hX => by rw [← hK X hX]; exact op_eqD (hu X hX), fun x y d e z H Q hx hy hz hQ => ?_⟩
  unfold eqD at hz
  split at hz
  · rename_i h
    rw [Bool.and_eq_true] at h
    cases hz
    exact ⟨_, _, Den.dp d x (SeqAt.canLay_of_shaped h.1) hx, Den.dp e y (SeqAt.canLay_of_shaped h.2) hy, h.1, h.2, hQ _ H (Same.refl H) rfl⟩
  · cases hz
theorem opS_ne (hu : ∀ X, F X → X.A.units + 64 < cLine) (hK : ∀ X, F X → X.K = K) : OpS F K (compareOp .NotEq) (eqD true) := by
  refine ⟨rNeD K, fun X hX => by rw [← hK X hX]; exact op_neD (hu X hX), fun x y d e z H Q hx hy hz hQ => ?_⟩
  unfold eqD at hz
  split at hz
  · rename_i h
    rw [Bool.and_eq_true] at h
    cases hz
    exact ⟨_, _, Den.dp d x (SeqAt.canLay_of_shaped h.1) hx, Den.dp e y (SeqAt.canLay_of_shaped h.2) hy, h.1, h.2, hQ _ H (Same.refl H) rfl⟩
  · cases hz
/-- the ints of a tuple of ints -/
def intsOf : List D → Option (List Int)
  | [] => some []
  | .int i :: r => (intsOf r).map (i :: ·)
  | _ => none
theorem intsOf_eq : ∀ {ds : List D} {ns : List Int}, intsOf ds = some ns → ds = ns.map D.int
  | [], _, h => by cases h; rfl
  | .int i :: r, _, h => by
    unfold intsOf at h
    cases q : intsOf r with
    | none => rw [q] at h; cases h
    | some ms => rw [q] at h; cases h; rw [intsOf_eq q]; rfl
  | .non :: _, _, h => nomatch h
  | .bl _ :: _, _, h => nomatch h
  | .tup _ :: _, _, h => nomatch h
  | .lst _ :: _, _, h => nomatch h
  | .ob _ _ :: _, _, h => nomatch h
  | .pt _ _ _ _ :: _, _, h => nomatch h
/-- x > y of tuples of ints -/
def lexGt : List Int → List Int → Bool
  | [], _ => false
  | _ :: _, [] => true
  | x :: xs, y :: ys => if x = y then lexGt xs ys else decide (y < x)
def gtT : D → D → Option D
  | .tup a, .tup b => (intsOf a).bind fun ns => (intsOf b).bind fun ms => if ns.length = ms.length then some (.bl (lexGt ns ms)) else none
  | _, _ => none
def pints (ns : List Int) : List PyData := ns.map PyData.int
theorem pyL_ints : ∀ ns : List Int, pyL (ns.map D.int) = pints ns
  | [] => rfl
  | n :: ns => by
    show PyData.int n :: pyL (ns.map D.int) = _
    rw [pyL_ints ns]; rfl
theorem alike_ints : ∀ ns ms : List Int, PySem.W.alikeAll (pints ns) (pints ms) = true
  | [], ms => by cases ms <;> simp [pints, PySem.W.alikeAll]
  | n :: ns, [] => by simp [pints, PySem.W.alikeAll]
  | n :: ns, m :: ms => by
    have := alike_ints ns ms
    simp only [pints] at this
    simp [pints, PySem.W.alikeAll, PySem.W.alike, this]
theorem lexGt_eq : ∀ ns ms : List Int, ns.length = ms.length → PyProof.Rows.lexLt PyProof.Rows.itemOrd (PySem.W.keyToksAll (pints ms)) (PySem.W.keyToksAll (pints ns)) = lexGt ns ms
  | [], [], _ => by decide
  | n :: ns, m :: ms, h => by
    show PyProof.Rows.lexLt PyProof.Rows.itemOrd (PySem.W.keyToksAll (PyData.int m :: pints ms)) (PySem.W.keyToksAll (PyData.int n :: pints ns)) = _
    by_cases e : n = m
    · subst e
      rw [PySem.W.dataLt_all_yes (by simp [PySem.W.alike]) (by simp [PyData.eqv]), lexGt_eq ns ms (by simpa using h)]
      simp [lexGt]
    · have e' : ¬ m = n := fun q => e q.symm
      rw [PySem.W.dataLt_all_no (by simp [PySem.W.alike]) (by simp [PyData.eqv, e']), PySem.W.dataLt_int]
      simp [lexGt, e]
theorem opS_gtT (hu : ∀ X, F X → X.A.units + 64 < cLine) (hK : ∀ X, F X → X.K = K) : OpS F K (compareOp .Gt) gtT := by
  refine ⟨fun x y H Q => ∃ a b ns ms, x = .ref a ∧ y = .ref b ∧ SqT K H a (ns.map V.int) ∧ SqT K H b (ms.map V.int) ∧ ns.length = ms.length ∧ Q (.bl (lexGt ns ms)) H, ?_, ?_⟩
  · intro X hX pins s σ H x y v u Q I rx ry h
    obtain ⟨a, b, ns, ms, rfl, rfl, h1, h2, hl, q⟩ := h
    have d1 : Dp K H (.ref a) (.tuple (pints ns)) := .tup h1 (by
      have := DenL.dp (K := K) (H := H) (ns.map D.int) (ns.map V.int) (by
        rw [pyL_ints]
        clear h1 hl q
        induction ns with
        | nil => rfl
        | cons n r ih => simpa [pints, PyData.canLayAll0, PyData.canLay0] using ih) DenL.of_ints
      rwa [pyL_ints] at this)
    have d2 : Dp K H (.ref b) (.tuple (pints ms)) := .tup h2 (by
      have := DenL.dp (K := K) (H := H) (ms.map D.int) (ms.map V.int) (by
        rw [pyL_ints]
        clear h2 hl q
        induction ms with
        | nil => rfl
        | cons n r ih => simpa [pints, PyData.canLayAll0, PyData.canLay0] using ih) DenL.of_ints
      rwa [pyL_ints] at this)
    have hu := hu X hX
    rw [← hK X hX] at d1 d2
    obtain ⟨as, r1⟩ := Dp.reads I _ _ v d1 rx
    obtain ⟨bs, r2⟩ := Dp.reads I _ _ u d2 ry
    have dep : ∀ ns : List Int, PyData.depthAll (pints ns) ≤ 1 := fun ns => by
      induction ns with
      | nil => simp [pints, PyData.depthAll]
      | cons n r ih =>
        simp only [pints, List.map_cons, PyData.depthAll, PyData.depth] at ih ⊢
        omega
    refine PySem.W.gt_data r1 r2 (by simp [PySem.W.alike, alike_ints]) (by intro q; cases q) ?_ ?_
    · have := dep ns
      simp only [PyData.depth]
      omega
    · rw [PySem.W.dataLt_tuple, lexGt_eq ns ms hl]
      exact ⟨.bl (lexGt ns ms), H, I, rfl, q⟩
  · intro x y d e z H Q hx hy hz hQ
    unfold gtT at hz
    split at hz <;> try (cases hz; done)
    rename_i a b
    rw [Option.bind_eq_some_iff] at hz
    obtain ⟨ns, e1, hz⟩ := hz
    rw [Option.bind_eq_some_iff] at hz
    obtain ⟨ms, e2, hz⟩ := hz
    split at hz
    · rename_i hl
      cases hz
      obtain ⟨p, vs, rfl, h1, h2⟩ := hx
      obtain ⟨q, ws, rfl, h3, h4⟩ := hy
      rw [intsOf_eq e1] at h2
      rw [intsOf_eq e2] at h4
      rw [h2.ints] at h1
      rw [h4.ints] at h3
      exact ⟨p, q, ns, ms, rfl, rfl, h1, h3, hl, hQ _ H (Same.refl H) rfl⟩
    · cases hz
/-- an int in a tuple of ints -/
def inD (neg : Bool) : D → D → Option D
  | .int i, .tup b => (intsOf b).bind fun ms => some (.bl (if neg then !ms.contains i else ms.contains i))
  | _, _ => none
theorem inV_ints (i : Int) : ∀ ms : List Int, inV (.int i) (ms.map V.int) = ms.contains i
  | [] => rfl
  | m :: ms => by
    have ih := inV_ints i ms
    unfold inV at ih ⊢
    rw [List.map_cons, List.any_cons, ih, List.contains_cons]
    have : eqV (.int m) (.int i) = (i == m) := by
      show (m == i) = (i == m)
      by_cases h : m = i
      · subst h; rfl
      · have h' : ¬ i = m := fun q => h q.symm
        rw [beq_eq_false_iff_ne.mpr h, beq_eq_false_iff_ne.mpr h']
    rw [this]
theorem flat_ints : ∀ ms : List Int, (ms.map V.int).all flatV = true
  | [] => rfl
  | m :: ms => by simpa [flatV] using flat_ints ms
theorem opS_in (hK : ∀ X, F X → X.K = K) : OpS F K (compareOp .In) (inD false) := by
  refine ⟨rIn K false, fun X hX => by rw [← hK X hX]; exact op_in_seq, fun x y d e z H Q hx hy hz hQ => ?_⟩
  unfold inD at hz
  split at hz <;> try (cases hz; done)
  rw [Option.bind_eq_some_iff] at hz
  obtain ⟨ms, e2, hz⟩ := hz
  cases hz
  cases hx
  obtain ⟨q, ws, rfl, h3, h4⟩ := hy
  rw [intsOf_eq e2] at h4
  rw [h4.ints] at h3
  refine ⟨q, _, rfl, .inr h3, rfl, flat_ints ms, ?_⟩
  rw [inV_ints]
  exact hQ _ H (Same.refl H) rfl
theorem opS_notIn (hK : ∀ X, F X → X.K = K) : OpS F K (compareOp .NotIn) (inD true) := by
  refine ⟨rIn K true, fun X hX => by rw [← hK X hX]; exact op_notIn_seq, fun x y d e z H Q hx hy hz hQ => ?_⟩
  unfold inD at hz
  split at hz <;> try (cases hz; done)
  rw [Option.bind_eq_some_iff] at hz
  obtain ⟨ms, e2, hz⟩ := hz
  cases hz
  cases hx
  obtain ⟨q, ws, rfl, h3, h4⟩ := hy
  rw [intsOf_eq e2] at h4
  rw [h4.ints] at h3
  refine ⟨q, _, rfl, .inr h3, rfl, flat_ints ms, ?_⟩
  rw [inV_ints]
  exact hQ _ H (Same.refl H) rfl
def cmpD : CmpOp → D → D → Option D
  | .Lt => intI fun i j => .bl (decide (i < j))
  | .LtE => intI fun i j => .bl (decide (i ≤ j))
  | .Gt => fun d e => (intI (fun i j => .bl (decide (j < i))) d e).or (gtT d e)
  | .GtE => intI fun i j => .bl (decide (j ≤ i))
  | .Eq => fun d e => (intI (fun i j => .bl (decide (i = j))) d e).or (eqD false d e)
  | .NotEq => fun d e => (intI (fun i j => .bl (!decide (i = j))) d e).or (eqD true d e)
  | .In => inD false
  | .NotIn => inD true
  | _ => fun _ => bad
theorem opS_cmp (hu : ∀ X, F X → X.A.units + 64 < cLine) (hK : ∀ X, F X → X.K = K) (op : CmpOp) : OpS F K (compareOp op) (cmpD op) := by
  have sq : ∀ (i j : Int), scal (.int i) (.int j) = true := fun _ _ => rfl
  have dd : ∀ (i j : Int), decide (V.int i = V.int j) = decide (i = j) := fun i j => by
    by_cases h : i = j
    · subst h; simp
    · have : ¬ V.int i = V.int j := fun q => h (V.int.inj q)
      rw [decide_eq_false h, decide_eq_false this]
  cases op with
  | Lt => exact OpS.bl0 fun _ _ => op_lt
  | LtE => exact OpS.bl0 fun _ _ => op_le
  | Gt => exact (OpS.bl0 fun _ _ => op_gt).or (opS_gtT hu hK)
  | GtE => exact OpS.bl0 fun _ _ => op_ge
  | Eq =>
    refine OpS.or ⟨_, fun _ _ => op_eq, fun x y d e z H Q hx hy hz hQ => ?_⟩ (opS_eq hu hK)
    obtain ⟨i, j, rfl, rfl, rfl⟩ := intI_some hz
    cases hx; cases hy
    refine ⟨rfl, ?_⟩
    rw [dd]
    exact hQ _ H (Same.refl H) rfl
  | NotEq =>
    refine OpS.or ⟨_, fun _ _ => op_ne, fun x y d e z H Q hx hy hz hQ => ?_⟩ (opS_ne hu hK)
    obtain ⟨i, j, rfl, rfl, rfl⟩ := intI_some hz
    cases hx; cases hy
    refine ⟨rfl, ?_⟩
    rw [dd]
    exact hQ _ H (Same.refl H) rfl
  | In => exact opS_in hK
  | NotIn => exact opS_notIn hK
  | _ => exact OpS.bad
end
end DV
end
section
set_option Elab.async false
set_option linter.all false
set_option maxRecDepth 100000
set_option maxHeartbeats 4000000
/-! DV: the expressions' combinators. -/
namespace DV
open PySem PySem.Spec PyProof.Rows L2 StX

section
variable {F : Cx → Prop} {K : PySem.W.Frag} {a b c e : Expr} {es : List Expr} {pos : Pos} {f g h : DEnv → Option D}
/-! ### names, constants -/
def fVar (i : Nat) : DEnv → Option D := fun δ => (δ[i]?).join
def fConst (d : D) : DEnv → Option D := fun _ => some d
theorem SE.var {i : Nat} {x : Str} (hN : ∀ X, F X → X.N[i]? = some x ∧ Vis X.env.scope x) (hd : (x == ("__debug__" : Str)) = false) (hcd : (x == ("__classdict__" : Str)) = false) : SE F K (.Name x pos) (fVar i) := by
  refine ⟨tVar i, fun X hX => pe_var (hN X hX).1 (hN X hX).2 hd hcd, fun σ H δ d Q he hf hQ => ?_⟩
  have hf : δ[i]? = some (some d) := by
    unfold fVar at hf
    cases q : δ[i]? with
    | none => rw [q] at hf; cases hf
    | some o => rw [q] at hf; rw [show o = some d from hf]
  obtain ⟨v, e1, e2⟩ := he.2 i d hf
  exact ⟨v, e1, hQ v H (Same.refl H) e2⟩
theorem SE.const {d : D} {v : V} (hp : ∀ X, F X → PE X e (tC v)) (hv : ∀ H, Den K H d v) : SE F K e (fConst d) :=
  ⟨tC v, hp, fun σ H δ z Q he hf hQ => by cases hf; exact hQ v H (Same.refl H) (hv H)⟩
theorem SE.int {i : Int} {j : Nat} : SE F K (.Constant (.int i) j pos) (fConst (.int i)) := SE.const (fun _ _ => pe_int) fun _ => rfl
theorem SE.bl {i : Bool} {j : Nat} : SE F K (.Constant (.bool i) j pos) (fConst (.bl i)) := SE.const (fun _ _ => pe_bl) fun _ => rfl
theorem SE.non {j : Nat} : SE F K (.Constant .none j pos) (fConst .non) := SE.const (fun _ _ => pe_non) fun _ => rfl
theorem SE.glob {x : Str} {d : D} {v : V} {u : Value} (hg : ∀ X, F X → Gl X x ∧ X.mg x = some u) (r : RelV v u) (hv : ∀ H, Den K H d v) (hd : (x == ("__debug__" : Str)) = false) : SE F K (.Name x pos) (fConst d) :=
  SE.const (fun X hX => pe_glob (hg X hX).1 (hg X hX).2 r hd) hv
/-! ### operators -/
def f2 (k : D → D → Option D) (f g : DEnv → Option D) : DEnv → Option D := fun δ => (f δ).bind fun x => (g δ).bind fun y => k x y
theorem f2_some {k : D → D → Option D} {δ : DEnv} {z : D} (hz : f2 k f g δ = some z) : ∃ x y, f δ = some x ∧ g δ = some y ∧ k x y = some z := by
  unfold f2 at hz
  rw [Option.bind_eq_some_iff] at hz
  obtain ⟨x, e1, hz⟩ := hz
  rw [Option.bind_eq_some_iff] at hz
  obtain ⟨y, e2, hz⟩ := hz
  exact ⟨x, y, e1, e2, hz⟩
theorem SE.bin {op : Operator} {k : D → D → Option D} (ho : OpS F K (binaryOp op) k) (ha : SE F K a f) (hb : SE F K b g) : SE F K (.BinOp a op b pos) (f2 k f g) := by
  obtain ⟨ta, pa, qa⟩ := ha
  obtain ⟨tb, pb, qb⟩ := hb
  obtain ⟨r, pr, qr⟩ := ho
  refine ⟨tOp r ta tb, fun X hX => pe_op (pr X hX) (pa X hX) (pb X hX), fun σ H δ z Q he hf hQ => ?_⟩
  obtain ⟨x, y, e1, e2, e3⟩ := f2_some hf
  refine qa σ H δ x _ he e1 fun v H1 s1 d1 => ?_
  refine qb σ H1 δ y _ (he.same s1) e2 fun v2 H2 s2 d2 => ?_
  exact qr _ _ _ _ _ _ _ (d1.same s2) d2 e3 fun v3 H3 s3 d3 => hQ v3 H3 (s1.trans (s2.trans s3)) d3
theorem SE.cmp {op : CmpOp} {k : D → D → Option D} (ho : OpS F K (compareOp op) k) (hm : behindInMarks op b = false) (ha : SE F K a f) (hb : SE F K b g) : SE F K (.Compare a [op] [b] pos) (f2 k f g) := by
  obtain ⟨ta, pa, qa⟩ := ha
  obtain ⟨tb, pb, qb⟩ := hb
  obtain ⟨r, pr, qr⟩ := ho
  refine ⟨tOp r ta tb, fun X hX => pe_cmpR (pr X hX) (pa X hX) (pb X hX) hm, fun σ H δ z Q he hf hQ => ?_⟩
  obtain ⟨x, y, e1, e2, e3⟩ := f2_some hf
  refine qa σ H δ x _ he e1 fun v H1 s1 d1 => ?_
  refine qb σ H1 δ y _ (he.same s1) e2 fun v2 H2 s2 d2 => ?_
  exact qr _ _ _ _ _ _ _ (d1.same s2) d2 e3 fun v3 H3 s3 d3 => hQ v3 H3 (s1.trans (s2.trans s3)) d3
def asB : D → Option Bool
  | .bl b => some b
  | _ => none
theorem asB_some {d : D} {k : Bool} (h : asB d = some k) : d = .bl k := by
  unfold asB at h
  split at h <;> cases h
  rfl
theorem ST.cmp {op : CmpOp} {k : D → D → Option D} (ho : OpS F K (compareOp op) k) (hm : behindInMarks op b = false) (ha : SE F K a f) (hb : SE F K b g) : ST F K (.Compare a [op] [b] pos) (fun δ => (f2 k f g δ).bind asB) := by
  obtain ⟨ta, pa, qa⟩ := ha
  obtain ⟨tb, pb, qb⟩ := hb
  obtain ⟨r, pr, qr⟩ := ho
  refine ⟨tTest (tOp r ta tb), fun X hX => pt_cmpR (pr X hX) (pa X hX) (pb X hX) hm, fun σ H δ z Q he hf hQ => ?_⟩
  rw [Option.bind_eq_some_iff] at hf
  obtain ⟨w, hf, hw⟩ := hf
  obtain ⟨x, y, e1, e2, e3⟩ := f2_some hf
  refine qa σ H δ x _ he e1 fun v H1 s1 d1 => ?_
  refine qb σ H1 δ y _ (he.same s1) e2 fun v2 H2 s2 d2 => ?_
  refine qr _ _ _ _ _ _ _ (d1.same s2) d2 e3 fun v3 H3 s3 d3 => ?_
  rw [asB_some hw] at d3
  exact ⟨z, d3, hQ H3 (s1.trans (s2.trans s3))⟩
/-- a op b op' c -/
def fChain (k k' : D → D → Option D) (f g h : DEnv → Option D) : DEnv → Option D := fun δ => (f δ).bind fun x => (g δ).bind fun y => (k x y).bind fun z => (asB z).bind fun t => if t = true then (h δ).bind fun w => k' y w else some (.bl false)
theorem fChain_some {k k' : D → D → Option D} {δ : DEnv} {z : D} (hz : fChain k k' f g h δ = some z) : ∃ x y t, f δ = some x ∧ g δ = some y ∧ k x y = some (.bl t) ∧ if t = true then ∃ w, h δ = some w ∧ k' y w = some z else z = .bl false := by
  unfold fChain at hz
  rw [Option.bind_eq_some_iff] at hz
  obtain ⟨x, e1, hz⟩ := hz
  rw [Option.bind_eq_some_iff] at hz
  obtain ⟨y, e2, hz⟩ := hz
  rw [Option.bind_eq_some_iff] at hz
  obtain ⟨w, e3, hz⟩ := hz
  rw [Option.bind_eq_some_iff] at hz
  obtain ⟨t, e4, hz⟩ := hz
  rw [asB_some e4] at e3
  refine ⟨x, y, t, e1, e2, e3, ?_⟩
  cases t with
  | true =>
    rw [if_pos rfl] at hz ⊢
    rw [Option.bind_eq_some_iff] at hz
    exact hz
  | false =>
    rw [if_neg Bool.false_ne_true] at hz ⊢
    cases hz; rfl
theorem SE.chain {op op' : CmpOp} {k k' : D → D → Option D} (ho : OpS F K (compareOp op) k) (ho' : OpS F K (compareOp op') k') (hm : lastMarks [op, op'] [b, c] = false) (ha : SE F K a f) (hb : SE F K b g) (hc : SE F K c h) :
    SE F K (.Compare a [op, op'] [b, c] pos) (fChain k k' f g h) := by
  obtain ⟨ta, pa, qa⟩ := ha
  obtain ⟨tb, pb, qb⟩ := hb
  obtain ⟨tc, pc, qc⟩ := hc
  obtain ⟨r, pr, qr⟩ := ho
  obtain ⟨r', pr', qr'⟩ := ho'
  refine ⟨tChain r r' ta tb tc, fun X hX => pe_chain (pr X hX) (pr' X hX) (pa X hX) (pb X hX) (pc X hX) hm, fun σ H δ z Q he hf hQ => ?_⟩
  obtain ⟨x, y, t, e1, e2, e3, e4⟩ := fChain_some hf
  refine qa σ H δ x _ he e1 fun v H1 s1 d1 => ?_
  refine qb σ H1 δ y _ (he.same s1) e2 fun v2 H2 s2 d2 => ?_
  refine qr _ _ _ _ _ _ _ (d1.same s2) d2 e3 fun v3 H3 s3 d3 => ⟨t, d3, ?_⟩
  cases t with
  | true =>
    rw [if_pos rfl] at e4 ⊢
    obtain ⟨w, e4, e5⟩ := e4
    refine qc σ H3 δ w _ (he.same (s1.trans (s2.trans s3))) e4 fun v4 H4 s4 d4 => ?_
    exact qr' _ _ _ _ _ _ _ (d2.same (s3.trans s4)) d4 e5 fun v5 H5 s5 d5 => hQ v5 H5 (s1.trans (s2.trans (s3.trans (s4.trans s5)))) d5
  | false =>
    rw [if_neg Bool.false_ne_true] at e4 ⊢
    subst e4
    exact hQ _ H3 (s1.trans (s2.trans s3)) rfl
theorem ST.chain {op op' : CmpOp} {k k' : D → D → Option D} (ho : OpS F K (compareOp op) k) (ho' : OpS F K (compareOp op') k') (hm : lastMarks [op, op'] [b, c] = false) (ha : SE F K a f) (hb : SE F K b g) (hc : SE F K c h) :
    ST F K (.Compare a [op, op'] [b, c] pos) (fun δ => (fChain k k' f g h δ).bind asB) := by
  obtain ⟨ta, pa, qa⟩ := ha
  obtain ⟨tb, pb, qb⟩ := hb
  obtain ⟨tc, pc, qc⟩ := hc
  obtain ⟨r, pr, qr⟩ := ho
  obtain ⟨r', pr', qr'⟩ := ho'
  refine ⟨tTest (tChain r r' ta tb tc), fun X hX => pt_chain (pr X hX) (pr' X hX) (pa X hX) (pb X hX) (pc X hX) hm, fun σ H δ z Q he hf hQ => ?_⟩
  rw [Option.bind_eq_some_iff] at hf
  obtain ⟨w0, hf, hw0⟩ := hf
  obtain ⟨x, y, t, e1, e2, e3, e4⟩ := fChain_some hf
  rw [asB_some hw0] at e4
  refine qa σ H δ x _ he e1 fun v H1 s1 d1 => ?_
  refine qb σ H1 δ y _ (he.same s1) e2 fun v2 H2 s2 d2 => ?_
  refine qr _ _ _ _ _ _ _ (d1.same s2) d2 e3 fun v3 H3 s3 d3 => ⟨t, d3, ?_⟩
  cases t with
  | true =>
    rw [if_pos rfl] at e4 ⊢
    obtain ⟨w, e4, e5⟩ := e4
    refine qc σ H3 δ w _ (he.same (s1.trans (s2.trans s3))) e4 fun v4 H4 s4 d4 => ?_
    exact qr' _ _ _ _ _ _ _ (d2.same (s3.trans s4)) d4 e5 fun v5 H5 s5 d5 => ⟨z, d5, hQ H5 (s1.trans (s2.trans (s3.trans (s4.trans s5))))⟩
  | false =>
    rw [if_neg Bool.false_ne_true] at e4 ⊢
    cases e4
    exact ⟨_, rfl, hQ H3 (s1.trans (s2.trans s3))⟩
/-! ### tests -/
theorem SW.test {e : Expr} {f : DEnv → Option Bool} (h : SW F K e f) : ST F K e f := by
  obtain ⟨t, p, q⟩ := h
  exact ⟨t, fun X hX => (p X hX).pt, q⟩
/-- a bool's expression as a test -/
theorem ST.val (he : SE F K e f) (hp : ∀ X, F X → ∀ whole, isTrue e X.env whole = (do let v ← whole; standAt e.pos; holding [v] (truthy v))) : ST F K e (fun δ => (f δ).bind asB) := by
  obtain ⟨t, p, q⟩ := he
  refine ⟨tB t, fun X hX => pt_val (p X hX) (hp X hX), fun σ H δ z Q he hf hQ => ?_⟩
  rw [Option.bind_eq_some_iff] at hf
  obtain ⟨w, hf, hw⟩ := hf
  refine q σ H δ w _ he hf fun v H1 s1 d1 => ?_
  rw [asB_some hw] at d1
  exact ⟨z, d1, hQ H1 s1⟩
def tAnd2 (f g : DEnv → Option Bool) : DEnv → Option Bool := fun δ => (f δ).bind fun t => if t = true then g δ else some false
def tOr2 (f g : DEnv → Option Bool) : DEnv → Option Bool := fun δ => (f δ).bind fun t => if t = true then some true else g δ
def tNot1 (f : DEnv → Option Bool) : DEnv → Option Bool := fun δ => (f δ).bind fun t => some (!t)
variable {p q : DEnv → Option Bool}
theorem SW.and1 (ha : ST F K a p) : SW F K (.BoolOp .And [a] pos) p := by
  obtain ⟨t, u, v⟩ := ha
  exact ⟨t, fun X hX => pw_and1 (u X hX), v⟩
theorem SW.or1 (ha : ST F K a p) : SW F K (.BoolOp .Or [a] pos) p := by
  obtain ⟨t, u, v⟩ := ha
  exact ⟨t, fun X hX => pw_or1 (u X hX), v⟩
theorem SW.and {rest : List Expr} (ha : ST F K a p) (hb : SW F K (.BoolOp .And (b :: rest) pos) q) : SW F K (.BoolOp .And (a :: b :: rest) pos) (tAnd2 p q) := by
  obtain ⟨ta, ua, va⟩ := ha
  obtain ⟨tb, ub, vb⟩ := hb
  refine ⟨tAnd ta tb, fun X hX => pw_and (ua X hX) (ub X hX), fun σ H δ z Q he hf hQ => ?_⟩
  unfold tAnd2 at hf
  rw [Option.bind_eq_some_iff] at hf
  obtain ⟨t, e1, hf⟩ := hf
  refine va σ H δ t _ he e1 fun H1 s1 => ?_
  cases t with
  | true =>
    rw [if_pos rfl] at hf ⊢
    exact vb σ H1 δ z _ (he.same s1) hf fun H2 s2 => hQ H2 (s1.trans s2)
  | false =>
    rw [if_neg Bool.false_ne_true] at hf ⊢
    cases hf
    exact hQ H1 s1
theorem SW.or {rest : List Expr} (ha : ST F K a p) (hb : SW F K (.BoolOp .Or (b :: rest) pos) q) : SW F K (.BoolOp .Or (a :: b :: rest) pos) (tOr2 p q) := by
  obtain ⟨ta, ua, va⟩ := ha
  obtain ⟨tb, ub, vb⟩ := hb
  refine ⟨tOr ta tb, fun X hX => pw_or (ua X hX) (ub X hX), fun σ H δ z Q he hf hQ => ?_⟩
  unfold tOr2 at hf
  rw [Option.bind_eq_some_iff] at hf
  obtain ⟨t, e1, hf⟩ := hf
  refine va σ H δ t _ he e1 fun H1 s1 => ?_
  cases t with
  | true =>
    rw [if_pos rfl] at hf ⊢
    cases hf
    exact hQ H1 s1
  | false =>
    rw [if_neg Bool.false_ne_true] at hf ⊢
    exact vb σ H1 δ z _ (he.same s1) hf fun H2 s2 => hQ H2 (s1.trans s2)
theorem ST.not (ha : ST F K a p) : ST F K (.UnaryOp .Not a pos) (tNot1 p) := by
  obtain ⟨t, u, v⟩ := ha
  refine ⟨tNot t, fun X hX => pt_not (u X hX), fun σ H δ z Q he hf hQ => ?_⟩
  unfold tNot1 at hf
  rw [Option.bind_eq_some_iff] at hf
  obtain ⟨t, e1, hf⟩ := hf
  cases hf
  exact v σ H δ t _ he e1 fun H1 s1 => hQ H1 s1
/-! ### and, or, not, if as values -/
def fAnd (f g : DEnv → Option D) : DEnv → Option D := fun δ => (f δ).bind fun x => (asB x).bind fun t => if t = true then g δ else some (.bl false)
def fOr (f g : DEnv → Option D) : DEnv → Option D := fun δ => (f δ).bind fun x => (asB x).bind fun t => if t = true then some (.bl true) else g δ
def fNot (f : DEnv → Option D) : DEnv → Option D := fun δ => (f δ).bind fun x => (asB x).bind fun t => some (.bl (!t))
def negD : D → Option D
  | .int i => some (.int (-i))
  | _ => none
def fNeg (f : DEnv → Option D) : DEnv → Option D := fun δ => (f δ).bind negD
def fIf (p : DEnv → Option Bool) (f g : DEnv → Option D) : DEnv → Option D := fun δ => (p δ).bind fun t => if t = true then f δ else g δ
theorem SE.one {op : BoolOp} (ha : SE F K a f) : SE F K (.BoolOp op [a] pos) f := by
  obtain ⟨t, u, v⟩ := ha
  exact ⟨t, fun X hX => pe_one (u X hX), v⟩
theorem SE.and {rest : List Expr} (ha : SE F K a f) (hb : SE F K (.BoolOp .And (b :: rest) pos) g) : SE F K (.BoolOp .And (a :: b :: rest) pos) (fAnd f g) := by
  obtain ⟨ta, ua, va⟩ := ha
  obtain ⟨tb, ub, vb⟩ := hb
  refine ⟨tAndV ta tb, fun X hX => pe_and (ua X hX) (ub X hX), fun σ H δ z Q he hf hQ => ?_⟩
  unfold fAnd at hf
  rw [Option.bind_eq_some_iff] at hf
  obtain ⟨x, e1, hf⟩ := hf
  rw [Option.bind_eq_some_iff] at hf
  obtain ⟨t, e2, hf⟩ := hf
  rw [asB_some e2] at e1
  refine va σ H δ _ _ he e1 fun v H1 s1 d1 => ⟨t, d1, ?_⟩
  cases t with
  | true =>
    rw [if_pos rfl] at hf ⊢
    exact vb σ H1 δ z _ (he.same s1) hf fun v H2 s2 d2 => hQ v H2 (s1.trans s2) d2
  | false =>
    rw [if_neg Bool.false_ne_true] at hf ⊢
    cases hf
    exact hQ _ H1 s1 rfl
theorem SE.or {rest : List Expr} (ha : SE F K a f) (hb : SE F K (.BoolOp .Or (b :: rest) pos) g) : SE F K (.BoolOp .Or (a :: b :: rest) pos) (fOr f g) := by
  obtain ⟨ta, ua, va⟩ := ha
  obtain ⟨tb, ub, vb⟩ := hb
  refine ⟨tOrV ta tb, fun X hX => pe_or (ua X hX) (ub X hX), fun σ H δ z Q he hf hQ => ?_⟩
  unfold fOr at hf
  rw [Option.bind_eq_some_iff] at hf
  obtain ⟨x, e1, hf⟩ := hf
  rw [Option.bind_eq_some_iff] at hf
  obtain ⟨t, e2, hf⟩ := hf
  rw [asB_some e2] at e1
  refine va σ H δ _ _ he e1 fun v H1 s1 d1 => ⟨t, d1, ?_⟩
  cases t with
  | true =>
    rw [if_pos rfl] at hf ⊢
    cases hf
    exact hQ _ H1 s1 rfl
  | false =>
    rw [if_neg Bool.false_ne_true] at hf ⊢
    exact vb σ H1 δ z _ (he.same s1) hf fun v H2 s2 d2 => hQ v H2 (s1.trans s2) d2
theorem SE.not (ha : SE F K a f) : SE F K (.UnaryOp .Not a pos) (fNot f) := by
  obtain ⟨t, u, v⟩ := ha
  refine ⟨tNotV t, fun X hX => pe_not (u X hX), fun σ H δ z Q he hf hQ => ?_⟩
  unfold fNot at hf
  rw [Option.bind_eq_some_iff] at hf
  obtain ⟨x, e1, hf⟩ := hf
  rw [Option.bind_eq_some_iff] at hf
  obtain ⟨t, e2, hf⟩ := hf
  rw [asB_some e2] at e1
  cases hf
  exact v σ H δ _ _ he e1 fun v H1 s1 d1 => ⟨t, d1, hQ _ H1 s1 rfl⟩
theorem SE.neg (ha : SE F K a f) : SE F K (.UnaryOp .USub a pos) (fNeg f) := by
  obtain ⟨t, u, v⟩ := ha
  refine ⟨tUn _ t, fun X hX => pe_un un_neg (u X hX), fun σ H δ z Q he hf hQ => ?_⟩
  unfold fNeg at hf
  rw [Option.bind_eq_some_iff] at hf
  obtain ⟨x, e1, hf⟩ := hf
  unfold negD at hf
  split at hf <;> cases hf
  exact v σ H δ _ _ he e1 fun v H1 s1 d1 => ⟨_, d1, hQ _ H1 s1 rfl⟩
theorem SE.ite (hc : ST F K c p) (ha : SE F K a f) (hb : SE F K b g) : SE F K (.IfExp c a b pos) (fIf p f g) := by
  obtain ⟨tc, uc, vc⟩ := hc
  obtain ⟨ta, ua, va⟩ := ha
  obtain ⟨tb, ub, vb⟩ := hb
  refine ⟨tIf tc ta tb, fun X hX => pe_ifExp (uc X hX) (ua X hX) (ub X hX), fun σ H δ z Q he hf hQ => ?_⟩
  unfold fIf at hf
  rw [Option.bind_eq_some_iff] at hf
  obtain ⟨t, e1, hf⟩ := hf
  refine vc σ H δ _ _ he e1 fun H1 s1 => ?_
  cases t with
  | true =>
    rw [if_pos rfl] at hf ⊢
    exact va σ H1 δ z _ (he.same s1) hf fun v H2 s2 d2 => hQ v H2 (s1.trans s2) d2
  | false =>
    rw [if_neg Bool.false_ne_true] at hf ⊢
    exact vb σ H1 δ z _ (he.same s1) hf fun v H2 s2 d2 => hQ v H2 (s1.trans s2) d2
/-! ### argument lists, displays, subscripts -/
def isStar : Expr → Bool
  | .Starred .. => true
  | _ => false
def noStar : List Expr → Bool := fun es => es.all fun e => !isStar e
theorem star_cons {e : Expr} (h : isStar e = false) (es : List Expr) (env : PySem.Env) : starEach (e :: es) env = (false, eval e env) :: starEach es env := by
  cases e <;> first | rfl | exact absurd h (by simp [isStar])
theorem star_none {pos : Pos} {env : PySem.Env} : ∀ {es : List Expr}, noStar es = true → (backTo pos (starEach es env)).any (·.1) = false
  | [], _ => rfl
  | e :: es, h => by
    have h' : isStar e = false ∧ noStar es = true := by simpa [noStar] using h
    rw [star_cons h'.1]
    have ih := star_none (pos := pos) (env := env) h'.2
    unfold backTo at ih ⊢
    rw [List.map_cons, List.any_cons, ih]
    rfl
abbrev FA := DEnv → Option (List D)
def aNil : FA := fun _ => some []
def aCons (f : DEnv → Option D) (r : FA) : FA := fun δ => (f δ).bind fun x => (r δ).bind fun xs => some (x :: xs)
def seqOf : D → Option (List D)
  | .tup ds => some ds
  | .lst ds => some ds
  | _ => none
def aStar (f : DEnv → Option D) (r : FA) : FA := fun δ => (f δ).bind fun x => (seqOf x).bind fun ys => (r δ).bind fun xs => some (ys ++ xs)
variable {r : FA}
theorem SA.nil : SA F K [] aNil := ⟨tNil, fun _ _ => pa_nil, fun σ H δ z Q he hf hQ => by cases hf; exact hQ [] H (Same.refl H) rfl⟩
theorem SA.cons (hn : isStar e = false) (ha : SE F K e f) (hr : SA F K es r) : SA F K (e :: es) (aCons f r) := by
  obtain ⟨ta, ua, va⟩ := ha
  obtain ⟨tb, ub, vb⟩ := hr
  refine ⟨tCons ta tb, fun X hX => pa_cons (ua X hX) (ub X hX) (star_cons hn _ _), fun σ H δ z Q he hf hQ => ?_⟩
  unfold aCons at hf
  rw [Option.bind_eq_some_iff] at hf
  obtain ⟨x, e1, hf⟩ := hf
  rw [Option.bind_eq_some_iff] at hf
  obtain ⟨xs, e2, hf⟩ := hf
  cases hf
  refine va σ H δ x _ he e1 fun v H1 s1 d1 => ?_
  exact vb σ H1 δ xs _ (he.same s1) e2 fun vs H2 s2 d2 => hQ _ H2 (s1.trans s2) (DenL.cons (d1.same s2) d2)
theorem den_seq {H : Hp} {d : D} {v : V} {ds : List D} (h : Den K H d v) (q : seqOf d = some ds) : ∃ p vs, v = .ref p ∧ (SqT K H p vs ∨ SqL K H p vs) ∧ DenL K H ds vs := by
  unfold seqOf at q
  split at q <;> cases q
  · obtain ⟨p, vs, rfl, h1, h2⟩ := h
    exact ⟨p, vs, rfl, .inl h1, h2⟩
  · obtain ⟨p, vs, rfl, h1, h2⟩ := h
    exact ⟨p, vs, rfl, .inr (SqL.of h1), h2⟩
theorem SA.star {p : Pos} (hK : ∀ X, F X → X.K = K) (ha : SE F K e f) (hr : SA F K es r) : SA F K (.Starred e p :: es) (aStar f r) := by
  obtain ⟨ta, ua, va⟩ := ha
  obtain ⟨tb, ub, vb⟩ := hr
  refine ⟨tStar K ta tb, fun X hX => by rw [← hK X hX]; exact pa_star (ua X hX) (ub X hX), fun σ H δ z Q he hf hQ => ?_⟩
  unfold aStar at hf
  rw [Option.bind_eq_some_iff] at hf
  obtain ⟨x, e1, hf⟩ := hf
  rw [Option.bind_eq_some_iff] at hf
  obtain ⟨ys, e2, hf⟩ := hf
  rw [Option.bind_eq_some_iff] at hf
  obtain ⟨xs, e3, hf⟩ := hf
  cases hf
  refine va σ H δ x _ he e1 fun v H1 s1 d1 => ?_
  obtain ⟨p, vs, rfl, q1, q2⟩ := den_seq d1 e2
  refine ⟨p, vs, rfl, q1, ?_⟩
  exact vb σ H1 δ xs _ (he.same s1) e3 fun ws H2 s2 d2 => hQ _ H2 (s1.trans s2) ((DenL.same s2 _ _ q2).append d2)
def fTup (r : FA) : DEnv → Option D := fun δ => (r δ).bind fun xs => if xs.length ≤ 1000 then some (.tup xs) else none
def fLst (r : FA) : DEnv → Option D := fun δ => (r δ).bind fun xs => if xs.length ≤ 1000 then some (.lst xs) else none
theorem SE.tup {k : Nat} (hr : SA F K es r) : SE F K (.Tuple es k pos) (fTup r) := by
  obtain ⟨t, u, v⟩ := hr
  refine ⟨tTup t, fun X hX => pe_tup (u X hX), fun σ H δ z Q he hf hQ => ?_⟩
  unfold fTup at hf
  rw [Option.bind_eq_some_iff] at hf
  obtain ⟨xs, e1, hf⟩ := hf
  split at hf
  · rename_i hl
    cases hf
    exact v σ H δ xs _ he e1 fun vs H1 s1 d1 => ⟨le1000 (by rw [d1.length]; exact hl), fun p hp => hQ _ _ (s1.trans (same_new hp)) (den_tup hp d1)⟩
  · cases hf
theorem SE.lst (hr : SA F K es r) : SE F K (.List es pos) (fLst r) := by
  obtain ⟨t, u, v⟩ := hr
  refine ⟨tLst t, fun X hX => pe_lst (u X hX), fun σ H δ z Q he hf hQ => ?_⟩
  unfold fLst at hf
  rw [Option.bind_eq_some_iff] at hf
  obtain ⟨xs, e1, hf⟩ := hf
  split at hf
  · rename_i hl
    cases hf
    exact v σ H δ xs _ he e1 fun vs H1 s1 d1 => ⟨le1000 (by rw [d1.length]; exact hl), fun p hp => hQ _ _ (s1.trans (same_new hp)) (den_lst hp d1)⟩
  · cases hf
def ixD : D → D → Option D := fun d e => (seqOf d).bind fun ds => match e with
  | .int i => atI ds i
  | _ => none
def isSlice : Expr → Bool
  | .Slice .. => true
  | _ => false
theorem plain_ix {b : Expr} (h : isSlice b = false) : PlainIx b := fun o i => by
  cases b <;> first | rfl | exact absurd h (by simp [isSlice])
theorem at_den {H : Hp} {ds : List D} {vs : List V} {i : Int} {d : D} (h : DenL K H ds vs) (q : atI ds i = some d) : ∃ v, atI vs i = some v ∧ Den K H d v := by
  unfold atI at q ⊢
  rw [h.length]
  rw [Option.bind_eq_some_iff] at q
  obtain ⟨j, e1, e2⟩ := q
  obtain ⟨v, e3, e4⟩ := h.get e2
  exact ⟨v, by rw [e1]; exact e3, e4⟩
theorem SE.ix (hK : ∀ X, F X → X.K = K) (hs : isSlice b = false) (ha : SE F K a f) (hb : SE F K b g) : SE F K (.Subscript a b pos) (f2 ixD f g) := by
  obtain ⟨ta, pa, qa⟩ := ha
  obtain ⟨tb, pb, qb⟩ := hb
  refine ⟨tOp (rIx K) ta tb, fun X hX => by rw [← hK X hX]; exact pe_ix ix_seq (pa X hX) (pb X hX) (plain_ix hs), fun σ H δ z Q he hf hQ => ?_⟩
  obtain ⟨x, y, e1, e2, e3⟩ := f2_some hf
  refine qa σ H δ x _ he e1 fun v H1 s1 d1 => ?_
  refine qb σ H1 δ y _ (he.same s1) e2 fun v2 H2 s2 d2 => ?_
  unfold ixD at e3
  rw [Option.bind_eq_some_iff] at e3
  obtain ⟨ds, e4, e3⟩ := e3
  split at e3
  · rename_i i
    cases d2
    obtain ⟨p, vs, rfl, q1, q2⟩ := den_seq (d1.same s2) e4
    obtain ⟨w, e5, d5⟩ := at_den q2 e3
    rcases q1 with q1 | q1
    · exact .inr (.inl ⟨p, vs, i, w, rfl, rfl, q1, e5, hQ _ H2 (s1.trans s2) d5⟩)
    · exact .inl ⟨p, vs, i, w, rfl, rfl, q1, e5, hQ _ H2 (s1.trans s2) d5⟩
  · cases e3
end
end DV
end
section
set_option Elab.async false
set_option linter.all false
set_option maxRecDepth 100000
set_option maxHeartbeats 4000000
/-! DV: calls. -/
namespace DV
open PySem PySem.Spec PyProof.Rows L2 StX

section
variable {F : Cx → Prop} {K : PySem.W.Frag} {e : Expr} {es : List Expr} {p pos : Pos} {r : FA}
/-! ### built-ins by values -/
theorem CallS.or {f : Value} {g g' : List D → Option D} (h : CallS F K f g) (h' : CallS F K f g') : CallS F K f (fun ds => (g ds).or (g' ds)) := by
  obtain ⟨r, a, b⟩ := h
  obtain ⟨r', a', b'⟩ := h'
  refine ⟨_, fun X hX => CallR.or (a X hX) (a' X hX), fun xs ds z H Q hx hz hQ => ?_⟩
  have hz : (g ds).or (g' ds) = some z := hz
  cases q : g ds with
  | some w => rw [q] at hz; cases hz; exact .inl (b xs ds _ H Q hx q hQ)
  | none => rw [q] at hz; exact .inr (b' xs ds z H Q hx hz hQ)
def absF : List D → Option D
  | [.int i] => some (.int (if i < 0 then -i else i))
  | _ => none
theorem callS_abs : CallS F K (.builtin "abs") absF := ⟨_, fun _ _ => call_abs, fun xs ds z H Q hx hz hQ => by
  unfold absF at hz
  split at hz <;> cases hz
  obtain ⟨v, rfl, d⟩ := hx.one
  cases d
  exact ⟨_, rfl, hQ _ H (Same.refl H) rfl⟩⟩
def max2F : List D → Option D
  | [.int i, .int j] => some (.int (if j > i then j else i))
  | _ => none
def min2F : List D → Option D
  | [.int i, .int j] => some (.int (if j < i then j else i))
  | _ => none
def max3F : List D → Option D
  | [.int i, .int j, .int k] => some (.int (if (if i < j then j else i) < k then k else (if i < j then j else i)))
  | _ => none
theorem nuMax2_int (i j : Int) : nuMax2 (.int i) (.int j) = some (.int (if i < j then j else i)) := by
  show (some (decide (i < j))).map (fun c => if c = true then V.int j else V.int i) = _
  by_cases h : i < j <;> simp [h]
theorem callS_max (hc : ∀ X, F X → X.calm = true) : CallS F K (.builtin "max") (fun ds => (max2F ds).or (max3F ds)) := by
  refine CallS.or ⟨_, fun X hX => call_max2 (hc X hX), fun xs ds z H Q hx hz hQ => ?_⟩ ⟨_, fun X hX => call_max3Nu (hc X hX), fun xs ds z H Q hx hz hQ => ?_⟩
  · unfold max2F at hz
    split at hz <;> cases hz
    obtain ⟨v, w, rfl, d, d'⟩ := hx.two
    cases d; cases d'
    exact ⟨_, _, rfl, hQ _ H (Same.refl H) rfl⟩
  · unfold max3F at hz
    split at hz <;> cases hz
    obtain ⟨v, w, u, rfl, d, d', d''⟩ := hx.three
    cases d; cases d'; cases d''
    refine ⟨_, _, _, _, rfl, ?_, hQ _ H (Same.refl H) rfl⟩
    unfold nuMax3
    rw [nuMax2_int]
    exact nuMax2_int _ _
theorem callS_min (hc : ∀ X, F X → X.calm = true) : CallS F K (.builtin "min") min2F := ⟨_, fun X hX => call_min2 (hc X hX), fun xs ds z H Q hx hz hQ => by
  unfold min2F at hz
  split at hz <;> cases hz
  obtain ⟨v, w, rfl, d, d'⟩ := hx.two
  cases d; cases d'
  exact ⟨_, _, rfl, hQ _ H (Same.refl H) rfl⟩⟩
def lenF : List D → Option D
  | [d] => (seqOf d).bind fun ds => some (.int ds.length)
  | _ => none
theorem callS_len (hK : ∀ X, F X → X.K = K) : CallS F K (.builtin "len") lenF := ⟨fun xs H Q => ∃ p ys, xs = [.ref p] ∧ (SqL K H p ys ∨ SqT K H p ys) ∧ Q (.int ys.length) H, fun X hX => by rw [← hK X hX]; exact call_len_seq, fun xs ds z H Q hx hz hQ => by
  unfold lenF at hz
  split at hz <;> try (cases hz; done)
  rw [Option.bind_eq_some_iff] at hz
  obtain ⟨ys, e1, hz⟩ := hz
  cases hz
  obtain ⟨v, rfl, d⟩ := hx.one
  obtain ⟨p, vs, rfl, q1, q2⟩ := den_seq d e1
  refine ⟨p, vs, rfl, q1.symm, ?_⟩
  rw [q2.length]
  exact hQ _ H (Same.refl H) rfl⟩
def tupF : List D → Option D
  | [d] => (seqOf d).bind fun ds => some (.tup ds)
  | _ => none
theorem callS_tup (hK : ∀ X, F X → X.K = K) : CallS F K (.type "tuple") tupF := ⟨fun xs H Q => ∃ p ys, xs = [.ref p] ∧ ((SqL K H p ys ∧ ∀ l, H l = none → Q (.ref l) (upd H l (.tup ys))) ∨ (SqT K H p ys ∧ Q (.ref p) H)), fun X hX => by rw [← hK X hX]; exact call_tuple_of, fun xs ds z H Q hx hz hQ => by
  unfold tupF at hz
  split at hz <;> try (cases hz; done)
  rw [Option.bind_eq_some_iff] at hz
  obtain ⟨ys, e1, hz⟩ := hz
  cases hz
  obtain ⟨v, rfl, d⟩ := hx.one
  obtain ⟨p, vs, rfl, q1, q2⟩ := den_seq d e1
  refine ⟨p, vs, rfl, ?_⟩
  rcases q1 with q1 | q1
  · exact .inr ⟨q1, hQ _ H (Same.refl H) ⟨p, vs, rfl, q1, q2⟩⟩
  · exact .inl ⟨q1, fun l hl => hQ _ _ (same_new hl) (den_tup hl q2)⟩⟩
def intF : List D → Option D
  | [.int i] => some (.int i)
  | [.bl k] => some (.int (if k then 1 else 0))
  | _ => none
theorem callS_int : CallS F K (.type "int") intF := ⟨_, fun _ _ => call_int1, fun xs ds z H Q hx hz hQ => by
  unfold intF at hz
  split at hz <;> cases hz
  · obtain ⟨v, rfl, d⟩ := hx.one
    cases d
    exact .inl ⟨_, rfl, hQ _ H (Same.refl H) rfl⟩
  · obtain ⟨v, rfl, d⟩ := hx.one
    cases d
    exact .inr ⟨_, rfl, hQ _ H (Same.refl H) rfl⟩⟩
def blsOf : List D → Option (List Bool)
  | [] => some []
  | .bl i :: r => (blsOf r).map (i :: ·)
  | _ => none
theorem blsOf_eq : ∀ {ds : List D} {ns : List Bool}, blsOf ds = some ns → ds = ns.map D.bl
  | [], _, h => by cases h; rfl
  | .bl i :: r, _, h => by
    unfold blsOf at h
    cases q : blsOf r with
    | none => rw [q] at h; cases h
    | some ms => rw [q] at h; cases h; rw [blsOf_eq q]; rfl
  | .non :: _, _, h => nomatch h
  | .int _ :: _, _, h => nomatch h
  | .tup _ :: _, _, h => nomatch h
  | .lst _ :: _, _, h => nomatch h
  | .ob _ _ :: _, _, h => nomatch h
  | .pt _ _ _ _ :: _, _, h => nomatch h
def allF : List D → Option D
  | [.lst ds] => (blsOf ds).bind fun bs => some (.bl (bs.all id))
  | _ => none
def anyF : List D → Option D
  | [.lst ds] => (blsOf ds).bind fun bs => some (.bl (bs.any id))
  | _ => none
theorem callS_all (hK : ∀ X, F X → X.K = K) (hc : ∀ X, F X → X.calm = true) : CallS F K (.builtin "all") allF := ⟨rAll K, fun X hX => by rw [← hK X hX]; exact cr_all (hc X hX), fun xs ds z H Q hx hz hQ => by
  unfold allF at hz
  split at hz <;> try (cases hz; done)
  rw [Option.bind_eq_some_iff] at hz
  obtain ⟨bs, e1, hz⟩ := hz
  cases hz
  obtain ⟨v, rfl, d⟩ := hx.one
  obtain ⟨p, vs, rfl, q1, q2⟩ := d
  rw [blsOf_eq e1] at q2
  rw [q2.bls] at q1
  exact ⟨p, bs, rfl, SqL.of q1, hQ _ H (Same.refl H) rfl⟩⟩
theorem callS_any (hK : ∀ X, F X → X.K = K) (hc : ∀ X, F X → X.calm = true) : CallS F K (.builtin "any") anyF := ⟨rAny K, fun X hX => by rw [← hK X hX]; exact cr_any (hc X hX), fun xs ds z H Q hx hz hQ => by
  unfold anyF at hz
  split at hz <;> try (cases hz; done)
  rw [Option.bind_eq_some_iff] at hz
  obtain ⟨bs, e1, hz⟩ := hz
  cases hz
  obtain ⟨v, rfl, d⟩ := hx.one
  obtain ⟨p, vs, rfl, q1, q2⟩ := d
  rw [blsOf_eq e1] at q2
  rw [q2.bls] at q1
  exact ⟨p, bs, rfl, SqL.of q1, hQ _ H (Same.refl H) rfl⟩⟩
def gcdF : List D → Option D
  | [.int i, .int j] => some (.int ((Nat.gcd i.natAbs j.natAbs : Nat) : Int))
  | _ => none
theorem callS_gcd : CallS F K (.builtin "math.gcd") gcdF := ⟨_, fun _ _ => cr_gcd, fun xs ds z H Q hx hz hQ => by
  unfold gcdF at hz
  split at hz <;> cases hz
  obtain ⟨v, w, rfl, d, d'⟩ := hx.two
  cases d; cases d'
  exact ⟨_, _, rfl, hQ _ H (Same.refl H) rfl⟩⟩
def sqrtF : List D → Option D
  | [.int i] => if 0 ≤ i ∧ i < 18446744073709551616 then some (.int ((Float64.isqrt i.toNat : Nat) : Int)) else none
  | _ => none
theorem callS_sqrt : CallS F K (.builtin "math.isqrt") sqrtF := by
  refine ⟨fun xs H Q => ∃ i, xs = [.int i] ∧ (0 ≤ i ∧ i < 18446744073709551616) ∧ Q (.int ((Float64.isqrt i.toNat : Nat) : Int)) H, fun X hX => ?_, fun xs ds z H Q hx hz hQ => ?_⟩
  · intro pins s σ H vs us Q I r h
    obtain ⟨i, rfl, ⟨h1, h2⟩, q⟩ := h
    cases r with
    | cons r1 r2 =>
      cases r2
      obtain ⟨t, rfl⟩ := r1
      have e : (2 : Int) ^ 64 = 18446744073709551616 := by decide
      exact PySem.W.mg_isqrt h1 (by rw [e]; exact h2) ⟨.int _, H, I.tok _, ⟨_, rfl⟩, q⟩
  · unfold sqrtF at hz
    split at hz <;> try (cases hz; done)
    split at hz <;> cases hz
    rename_i hh
    obtain ⟨v, rfl, d⟩ := hx.one
    cases d
    exact ⟨_, rfl, hh, hQ _ H (Same.refl H) rfl⟩
/-! ### calls by name -/
def fCall (r : FA) (g : List D → Option D) : DEnv → Option D := fun δ => (r δ).bind g
theorem SE.callB {x : Str} {id : String} {g : List D → Option D} (hc : CallS F K (.builtin id) g) (hg : ∀ X, F X → Gl X x ∧ X.mg x = none) (hv : bootBuiltins x = some (.builtin id)) (hn : x ≠ "__name__") (hdb : (x == ("__debug__" : Str)) = false)
    (hs : noStar (e :: es) = true) (ha : SA F K (e :: es) r) : SE F K (.Call (.Name x p) (e :: es) [] pos) (fCall r g) := by
  obtain ⟨t, u, v⟩ := ha
  obtain ⟨rr, pr, qr⟩ := hc
  have hs' : isStar e = false ∧ noStar es = true := by simpa [noStar] using hs
  refine ⟨tCB rr t, fun X hX => pe_callB (pr X hX) (hg X hX).1 (hg X hX).2 hv (u X hX) hn hdb (star_cons hs'.1 _ _) (star_none hs'.2), fun σ H δ z Q he hf hQ => ?_⟩
  unfold fCall at hf
  rw [Option.bind_eq_some_iff] at hf
  obtain ⟨ds, e1, e2⟩ := hf
  exact v σ H δ ds _ he e1 fun vs H1 s1 d1 => qr vs ds z H1 _ d1 e2 fun w H2 s2 d2 => hQ w H2 (s1.trans s2) d2
theorem SE.callT {x : Str} {T : String} {g : List D → Option D} (hc : CallS F K (.type T) g) (hg : ∀ X, F X → Gl X x ∧ X.mg x = none) (hv : bootBuiltins x = some (.type T)) (hn : x ≠ "__name__") (hdb : (x == ("__debug__" : Str)) = false)
    (hs : noStar (e :: es) = true) (ha : SA F K (e :: es) r) : SE F K (.Call (.Name x p) (e :: es) [] pos) (fCall r g) := by
  obtain ⟨t, u, v⟩ := ha
  obtain ⟨rr, pr, qr⟩ := hc
  have hs' : isStar e = false ∧ noStar es = true := by simpa [noStar] using hs
  refine ⟨tCB rr t, fun X hX => pe_callTy (pr X hX) (hg X hX).1 (hg X hX).2 hv (u X hX) hn hdb (star_cons hs'.1 _ _) (star_none hs'.2), fun σ H δ z Q he hf hQ => ?_⟩
  unfold fCall at hf
  rw [Option.bind_eq_some_iff] at hf
  obtain ⟨ds, e1, e2⟩ := hf
  exact v σ H δ ds _ he e1 fun vs H1 s1 d1 => qr vs ds z H1 _ d1 e2 fun w H2 s2 d2 => hQ w H2 (s1.trans s2) d2
/-- a module's name that holds a built-in function -/
theorem SE.callM {x : Str} {id : String} {g : List D → Option D} (hc : CallS F K (.builtin id) g) (hg : ∀ X, F X → Gl X x ∧ X.mg x = some (.builtin id)) (hdb : (x == ("__debug__" : Str)) = false)
    (hs : noStar (e :: es) = true) (ha : SA F K (e :: es) r) : SE F K (.Call (.Name x p) (e :: es) [] pos) (fCall r g) := by
  obtain ⟨t, u, v⟩ := ha
  obtain ⟨rr, pr, qr⟩ := hc
  have hs' : isStar e = false ∧ noStar es = true := by simpa [noStar] using hs
  refine ⟨tCB rr t, fun X hX => pe_callBfun (pr X hX) (hg X hX).1 (hg X hX).2 (u X hX) hdb (star_cons hs'.1 _ _) (star_none hs'.2), fun σ H δ z Q he hf hQ => ?_⟩
  unfold fCall at hf
  rw [Option.bind_eq_some_iff] at hf
  obtain ⟨ds, e1, e2⟩ := hf
  exact v σ H δ ds _ he e1 fun vs H1 s1 d1 => qr vs ds z H1 _ d1 e2 fun w H2 s2 d2 => hQ w H2 (s1.trans s2) d2
/-- what a pure def promises: on data that the arguments stand for, the function's value; all that stood stands -/
def spD (K : PySem.W.Frag) (n : Nat) (m : List D → Option D) : Sp := fun vs H Q _ => ∃ ds d, vs.length = n ∧ DenL K H ds vs ∧ m ds = some d ∧ ∀ v H', Same H H' → Den K H' d v → Q v H'
/-- a def of the module that keeps such a promise -/
def DefOk (F : Cx → Prop) (K : PySem.W.Frag) (x : Str) (m : List D → Option D) : Prop := ∃ (k : Nat) (f : Addr) (fd : FuncData) (ps : List Str),
  ∀ X, F X → X.K = K ∧ Gl X x ∧ X.mg x = some (.ref f) ∧ PySem.W.keepIn X.K (.ref f) = true ∧ Binds X.K fd ps [] ∧ Room k X.A ∧ FnOk X.prog X.w X.K X.mg X.base CX0 k f fd ps (spD X.K ps.length m)
theorem SE.callF {x : Str} {m : List D → Option D} {n : Nat} (hd : ∃ (k : Nat) (f : Addr) (fd : FuncData) (ps : List Str), ps.length = n ∧
      ∀ X, F X → X.K = K ∧ Gl X x ∧ X.mg x = some (.ref f) ∧ PySem.W.keepIn X.K (.ref f) = true ∧ Binds X.K fd ps [] ∧ Room k X.A ∧ FnOk X.prog X.w X.K X.mg X.base CX0 k f fd ps (spD K n m))
    (hdb : (x == ("__debug__" : Str)) = false) (hs : noStar (e :: es) = true) (hl : (e :: es).length = n) (hm : ∀ ds d, m ds = some d → ds.length = n) (ha : SA F K (e :: es) r) : SE F K (.Call (.Name x p) (e :: es) [] pos) (fCall r m) := by
  obtain ⟨t, u, v⟩ := ha
  obtain ⟨k, f, fd, ps, hp, h⟩ := hd
  have hs' : isStar e = false ∧ noStar es = true := by simpa [noStar] using hs
  refine ⟨tCall (spD K n m) [] E0 t, fun X hX => ?_, fun σ H δ z Q he hf hQ => ?_⟩
  · obtain ⟨h0, h1, h2, h3, h4, h5, h6⟩ := h X hX
    exact pe_call h6 h5 h1 h2 h3 h4 .nil pass0 (u X hX) hdb (star_cons hs'.1 _ _) (star_none hs'.2)
  · unfold fCall at hf
    rw [Option.bind_eq_some_iff] at hf
    obtain ⟨ds, e1, e2⟩ := hf
    refine v σ H δ ds _ he e1 fun vs H1 s1 d1 => ⟨ds, z, ?_, ?_, e2, fun w H2 s2 d2 => hQ w H2 (s1.trans s2) d2⟩
    · rw [List.append_nil, d1.length, hm ds z e2]
    · rw [List.append_nil]; exact d1
theorem SE.callF0 {x : Str} {m : List D → Option D} (hd : ∃ (k : Nat) (f : Addr) (fd : FuncData) (ps : List Str), ps.length = 0 ∧
      ∀ X, F X → X.K = K ∧ Gl X x ∧ X.mg x = some (.ref f) ∧ PySem.W.keepIn X.K (.ref f) = true ∧ Binds X.K fd ps [] ∧ Room k X.A ∧ FnOk X.prog X.w X.K X.mg X.base CX0 k f fd ps (spD K 0 m))
    (hdb : (x == ("__debug__" : Str)) = false) : SE F K (.Call (.Name x p) [] [] pos) (fCall aNil m) := by
  obtain ⟨k, f, fd, ps, hp, h⟩ := hd
  refine ⟨tCall (spD K 0 m) [] E0 tNil, fun X hX => ?_, fun σ H δ z Q he hf hQ => ?_⟩
  · obtain ⟨h0, h1, h2, h3, h4, h5, h6⟩ := h X hX
    exact pe_call0 h6 h5 h1 h2 h3 h4 .nil pass0 hdb
  · have hf : m [] = some z := hf
    exact ⟨[], z, rfl, rfl, hf, hQ⟩
/-! ### isinstance of a built-in class -/
def isInt : D → Option Bool
  | .int _ => some true
  | .bl _ => some true
  | .tup _ => some false
  | _ => none
def isBool : D → Option Bool
  | .int _ => some false
  | .bl _ => some true
  | .tup _ => some false
  | _ => none
def isTup : D → Option Bool
  | .int _ => some false
  | .bl _ => some false
  | .tup _ => some true
  | .lst _ => some false
  | _ => none
theorem den_tyT {H : Hp} {ds : List D} {v : V} (h : Den K H (.tup ds) v) : TyX K H v (.type "tuple") := by
  obtain ⟨a, vs, rfl, h1, h2⟩ := h
  rcases h1 with (h1 | ⟨o, h1⟩) | ⟨o, its, n, h1, h3, _⟩
  · exact .base (.tup h1)
  · exact .fTuple h1
  · exact .kTuple h1 h3
theorem kit_int {x : D} {b : Bool} {H : Hp} {v : V} (h : isInt x = some b) (d : Den K H x v) : ∃ t, TyX K H v t ∧ PySem.W.kitOne K t (.type "int") = some b := by
  cases x with
  | int i => cases h; cases d; exact ⟨_, .base (.int i), kit_ty (by decide +kernel)⟩
  | bl i => cases h; cases d; exact ⟨_, .base (.bl i), kit_ty (by decide +kernel)⟩
  | tup ds => cases h; exact ⟨_, den_tyT d, kit_ty (by decide +kernel)⟩
  | _ => cases h
theorem kit_bool {x : D} {b : Bool} {H : Hp} {v : V} (h : isBool x = some b) (d : Den K H x v) : ∃ t, TyX K H v t ∧ PySem.W.kitOne K t (.type "bool") = some b := by
  cases x with
  | int i => cases h; cases d; exact ⟨_, .base (.int i), kit_ty (by decide +kernel)⟩
  | bl i => cases h; cases d; exact ⟨_, .base (.bl i), kit_ty (by decide +kernel)⟩
  | tup ds => cases h; exact ⟨_, den_tyT d, kit_ty (by decide +kernel)⟩
  | _ => cases h
theorem kit_tup {x : D} {b : Bool} {H : Hp} {v : V} (h : isTup x = some b) (d : Den K H x v) : ∃ t, TyX K H v t ∧ PySem.W.kitOne K t (.type "tuple") = some b := by
  cases x with
  | int i => cases h; cases d; exact ⟨_, .base (.int i), kit_ty (by decide +kernel)⟩
  | bl i => cases h; cases d; exact ⟨_, .base (.bl i), kit_ty (by decide +kernel)⟩
  | tup ds => cases h; exact ⟨_, den_tyT d, kit_ty (by decide +kernel)⟩
  | lst ds => cases h; obtain ⟨a, vs, rfl, h1, h2⟩ := d; exact ⟨_, .base (.lst h1), kit_ty (by decide +kernel)⟩
  | _ => cases h
def fIsi (g : D → Option Bool) (f : DEnv → Option D) : DEnv → Option D := fun δ => (f δ).bind fun x => (g x).bind fun b => some (.bl b)
theorem SE.isi {y : Str} {T : String} {g : D → Option Bool} {f : DEnv → Option D} {p2 : Pos} (hK : ∀ X, F X → X.K = K) (hg : ∀ X, F X → Gl X "isinstance" ∧ X.mg "isinstance" = none) (hy : ∀ X, F X → Gl X y ∧ X.mg y = none) (hv : bootBuiltins y = some (.type T)) (hn : y ≠ "__name__") (hdb : (y == ("__debug__" : Str)) = false)
    (hk : ∀ {x : D} {b : Bool} {H : Hp} {v : V}, g x = some b → Den K H x v → ∃ t, TyX K H v t ∧ PySem.W.kitOne K t (.type T) = some b)
    (hs : isStar e = false) (he : SE F K e f) : SE F K (.Call (.Name "isinstance" p) [e, .Name y p2] [] pos) (fIsi g f) := by
  obtain ⟨t, u, v⟩ := he
  refine ⟨tCB (rIsi K) (tCons t (tCons (tC (.ty T)) tNil)), fun X hX => ?_, fun σ H δ z Q he hf hQ => ?_⟩
  · rw [← hK X hX]
    exact pe_callB call_isi (hg X hX).1 (hg X hX).2 (by decide +kernel) (pa_cons (u X hX) (pa_cons (pe_bltn (v := .ty T) (hy X hX).1 (hy X hX).2 hv rfl hn hdb) pa_nil (star_cons rfl _ _)) (star_cons hs _ _)) (by decide) (by decide) (star_cons hs _ _) (star_none (by rfl))
  · unfold fIsi at hf
    rw [Option.bind_eq_some_iff] at hf
    obtain ⟨x, e1, hf⟩ := hf
    rw [Option.bind_eq_some_iff] at hf
    obtain ⟨b, e2, hf⟩ := hf
    cases hf
    refine v σ H δ x _ he e1 fun w H1 s1 d1 => ?_
    obtain ⟨t, h1, h2⟩ := hk e2 d1
    exact ⟨w, .ty T, t, .type T, b, rfl, .ty T, h1, h2, hQ _ H1 s1 rfl⟩
end
end DV
end
section
set_option Elab.async false
set_option linter.all false
set_option maxRecDepth 100000
set_option maxHeartbeats 4000000
/-! DV: targets, what is walked, comprehensions. -/
namespace DV
open PySem PySem.Spec PyProof.Rows L2 StX

section
variable {F : Cx → Prop} {K : PySem.W.Frag} {e tg iter : Expr} {es : List Expr} {p pos : Pos} {r : FA} {js ks : List Nat}
/-! ### targets -/
def gVar (i : Nat) : D → DEnv → Option DEnv := fun d δ => some (δ.set i (some d))
theorem SG.name {i : Nat} {x : Str} (hN : ∀ X, F X → X.N.Nodup ∧ X.N[i]? = some x ∧ Loc X.env.scope x ∧ (X.fn x = true ∨ X.env.scope.names.lookup x = some .local)) : SG F K (.Name x pos) [i] (gVar i) := by
  refine ⟨gName i, fun X hX => pg_name (hN X hX).1 (hN X hX).2.1 (hN X hX).2.2.1 (hN X hX).2.2.2, fun σ H δ δ' d v Q he hd hf hQ => ?_⟩
  cases hf
  refine hQ _ (he.set i hd) ⟨by simp, fun j hj => ?_⟩
  rw [List.getElem?_set_ne (by intro z; subst z; simp at hj)]
def gNone : List D → DEnv → Option DEnv
  | [], δ => some δ
  | _, _ => none
def gMore (f : D → DEnv → Option DEnv) (g : List D → DEnv → Option DEnv) : List D → DEnv → Option DEnv
  | d :: ds, δ => (f d δ).bind (g ds)
  | [], _ => none
def gTupD (g : List D → DEnv → Option DEnv) : D → DEnv → Option DEnv
  | .tup ds, δ => g ds δ
  | _, _ => none
theorem SGs.nil : SGs F K [] [] gNone := by
  refine ⟨gNil, fun _ _ => pgs_nil, fun σ H δ δ' ds vs Q he hd hf hQ => ?_⟩
  unfold gNone at hf
  split at hf <;> cases hf
  cases hd
  exact ⟨rfl, hQ σ he Off.refl⟩
theorem assign_cons {e : Expr} (h : isStar e = false) (es : List Expr) (env : PySem.Env) : assignEach (e :: es) env = (false, assign e env) :: assignEach es env := by
  cases e <;> first | rfl | exact absurd h (by simp [isStar])
theorem assign_len {env : PySem.Env} : ∀ {es : List Expr}, noStar es = true → (assignEach es env).length = es.length ∧ (assignEach es env).findIdx? (·.1) = none
  | [], _ => ⟨rfl, rfl⟩
  | e :: es, h => by
    have h' : isStar e = false ∧ noStar es = true := by simpa [noStar] using h
    rw [assign_cons h'.1]
    obtain ⟨a, b⟩ := assign_len (env := env) h'.2
    refine ⟨by simp [a], ?_⟩
    rw [List.findIdx?_cons, b]
    rfl
theorem SGs.cons {f : D → DEnv → Option DEnv} {g : List D → DEnv → Option DEnv} (hs : isStar e = false) (h1 : SG F K e js f) (h2 : SGs F K es ks g) : SGs F K (e :: es) (js ++ ks) (gMore f g) := by
  obtain ⟨t, u, v⟩ := h1
  obtain ⟨t', u', v'⟩ := h2
  refine ⟨gCons t t', fun X hX => pgs_cons (u X hX) (u' X hX) (by rw [assign_cons hs]; rfl), fun σ H δ δ' ds vs Q he hd hf hQ => ?_⟩
  unfold gMore at hf
  split at hf <;> try (cases hf; done)
  rw [Option.bind_eq_some_iff] at hf
  obtain ⟨δ1, e1, e2⟩ := hf
  obtain ⟨w, r, rfl, d1, d2⟩ := hd
  refine ⟨w, r, rfl, v σ H _ δ1 _ w _ he d1 e1 fun σ1 he1 o1 => ?_⟩
  exact v' σ1 H δ1 δ' _ r Q he1 d2 e2 fun σ2 he2 o2 => hQ σ2 he2 ((o1.mono fun i hi => List.mem_append_left _ hi).trans (o2.mono fun i hi => List.mem_append_right _ hi))
theorem SG.tup {k : Nat} {g : List D → DEnv → Option DEnv} (hc : ∀ X, F X → X.calm = true ∧ X.K = K) (hs : noStar es = true) (h : SGs F K es js g) : SG F K (.Tuple es k pos) js (gTupD fun ds δ => if ds.length = es.length then g ds δ else none) := by
  obtain ⟨t, u, v⟩ := h
  refine ⟨gTup K es.length t, fun X hX => ?_, fun σ H δ δ' d w Q he hd hf hQ => ?_⟩
  · rw [← (hc X hX).2]
    exact pg_tup (hc X hX).1 (u X hX) (assign_len hs).1 (assign_len hs).2
  · unfold gTupD at hf
    split at hf <;> try (cases hf; done)
    dsimp only at hf
    split at hf <;> try (cases hf; done)
    rename_i hl
    obtain ⟨a, vs, rfl, h1, h2⟩ := hd
    exact ⟨a, vs, rfl, h1, h2.length.trans hl, v σ H _ _ _ vs Q he h2 hf hQ⟩
/-! ### what is walked -/
theorem Walks.of {J : It} {n : Nat} {G : Hp → Prop} {Y : Nat → Hp → V → Hp → Prop} {ds : List D} {H1 : Hp} (w : Walk J n G Y) (hn : ds.length = n) (hG : ∀ H, Same H1 H → G H)
    (hY : ∀ i H x H', i < n → Same H1 H → Y i H x H' → Same H H' ∧ ∃ d, ds[i]? = some d ∧ Den K H' d x) : Walks K J ds H1 := fun i H hS => by
  subst hn
  exact ⟨fun hi => ⟨w.goes i H hi (hG H hS), fun x H' y => hY i H x H' hi hS (w.yields i H x H' hi (hG H hS) y)⟩, fun hi => by subst hi; exact w.stops H (hG H hS)⟩
theorem walks_list {a : Addr} {vs : List V} {ds : List D} {H1 : Hp} (h1 : H1 a = some (.lst vs)) (h2 : DenL K H1 ds vs) : Walks K (Itl K a) ds H1 :=
  Walks.of (walk_list (xs := vs)) h2.length.symm (fun H hS => SqL.of (hS _ _ h1)) fun i H x H' hi hS y => by
    obtain ⟨e1, e2⟩ := y
    subst e1
    obtain ⟨d, e3, e4⟩ := h2.back e2
    exact ⟨Same.refl _, d, e3, e4.same hS⟩
theorem walks_tup {a : Addr} {vs : List V} {ds : List D} {H1 : Hp} (h1 : SqT K H1 a vs) (h2 : DenL K H1 ds vs) : Walks K (Itt K a) ds H1 :=
  Walks.of (walk_tup (xs := vs)) h2.length.symm (fun H hS => seqT hS h1) fun i H x H' hi hS y => by
    obtain ⟨e1, e2⟩ := y
    subst e1
    obtain ⟨d, e3, e4⟩ := h2.back e2
    exact ⟨Same.refl _, d, e3, e4.same hS⟩
theorem it_list {X : Cx} {pins : List (Addr × Obj)} {σ : St} {H : Hp} {s : Shared} {R : It → Hp → Prop} {a : Addr} {xs : List V} (I : Inv X pins σ H s) (hq : SqL X.K H a xs) (q : R (Itl X.K a) H) :
    wpAny (model X.prog X.w) X.A (pyIter (.ref a)) (PIE X pins σ tg R) X.xe s := by
  have pe : PE X (.Constant .none 0 ⟨0, 0, 0, 0⟩) (fun _ H' Q => ∃ x, Q x H' ∧ x = .non) := ⟨fun pins s σ H Q I h => by
    obtain ⟨x, q, rfl⟩ := h
    exact pe_non.run pins s σ H Q I q⟩
  obtain ⟨its, rv, p, hz⟩ := I.list hq
  have new : ∀ b ∈ [s.heap.objs.size], FpOk X pins H b := fun b hb => by
    have eb : b = s.heap.objs.size := by simpa using hb
    subst eb
    exact I.fpOk (Nat.le_refl _) (I.hok.fresh (Nat.le_refl _))
  refine wpAny_pyIter_list p.isList ⟨s.heap.objs.size, [s.heap.objs.size], _, _, H, rfl, ?_, turn_list a _, ⟨_, Heap.get?_push_size _ rfl, rfl, rfl⟩, new, q⟩
  exact I.kept (t' := s.toks) fun b o eb => Heap.get?_push_of_some _ eb
theorem it_tup {X : Cx} {pins : List (Addr × Obj)} {σ : St} {H : Hp} {s : Shared} {R : It → Hp → Prop} {a : Addr} {xs : List V} (I : Inv X pins σ H s) (hq : SqT X.K H a xs) (q : R (Itt X.K a) H) :
    wpAny (model X.prog X.w) X.A (pyIter (.ref a)) (PIE X pins σ tg R) X.xe s := by
  obtain ⟨its, rv, p, hz⟩ := I.tuple hq
  have new : ∀ b ∈ [s.heap.objs.size], FpOk X pins H b := fun b hb => by
    have eb : b = s.heap.objs.size := by simpa using hb
    subst eb
    exact I.fpOk (Nat.le_refl _) (I.hok.fresh (Nat.le_refl _))
  refine wpAny_pyIter_tuple (show s.heap.IsTuple a its.toArray from p) ⟨s.heap.objs.size, [s.heap.objs.size], _, _, H, rfl, ?_, turn_tuple a _, ⟨_, Heap.get?_push_size _ rfl, rfl, rfl⟩, new, q⟩
  exact I.kept (t' := s.toks) fun b o eb => Heap.get?_push_of_some _ eb
def iSeq (f : DEnv → Option D) : FA := fun δ => (f δ).bind seqOf
/-- a tuple or a list, by its value -/
theorem SI.seq {f : DEnv → Option D} (hK : ∀ X, F X → X.K = K) (h : SE F K iter f) : SI F K tg iter (iSeq f) := by
  obtain ⟨t, u, v⟩ := h
  refine ⟨fun σ H R => t σ H fun x H1 => (∃ a, x = .ref a ∧ (∃ xs, SqL K H1 a xs) ∧ R (Itl K a) H1) ∨ (∃ a, x = .ref a ∧ (∃ xs, SqT K H1 a xs) ∧ R (Itt K a) H1), fun X hX => ⟨fun pins s σ H R I h => ?_⟩, fun σ H δ ds R he hf hR => ?_⟩
  · have e := hK X hX
    subst e
    refine thn ((u X hX).run pins s σ H _ I h) fun w s1 ⟨x, H1, I1, r1, q1⟩ => ?_
    rcases q1 with ⟨a, rfl, ⟨xs, hq⟩, q⟩ | ⟨a, rfl, ⟨xs, hq⟩, q⟩
    · cases r1
      exact it_list I1 hq q
    · cases r1
      exact it_tup I1 hq q
  · unfold iSeq at hf
    rw [Option.bind_eq_some_iff] at hf
    obtain ⟨x, e1, e2⟩ := hf
    refine v σ H δ x _ he e1 fun w H1 s1 d1 => ?_
    unfold seqOf at e2
    split at e2 <;> cases e2
    · obtain ⟨a, vs, rfl, h1, h2⟩ := d1
      exact .inr ⟨a, rfl, ⟨vs, h1⟩, hR _ H1 s1 (walks_tup h1 h2)⟩
    · obtain ⟨a, vs, rfl, h1, h2⟩ := d1
      exact .inl ⟨a, rfl, ⟨vs, SqL.of h1⟩, hR _ H1 s1 (walks_list h1 h2)⟩
/-! ### range, zip -/
def rangeL (lo : Int) (n : Nat) : List D := (List.range n).map fun (i : Nat) => D.int (lo + i)
theorem walks_range {lo : Int} {n : Nat} {H1 : Hp} : Walks K (Itr lo n) (rangeL lo n) H1 :=
  Walks.of (walk_range (lo := lo) (n := n)) (by simp [rangeL]) (fun _ _ => True.intro) fun i H x H' hi hS y => by
    obtain ⟨e1, e2⟩ := y
    subst e1 e2
    exact ⟨Same.refl _, .int (lo + i), by simp [rangeL, hi], rfl⟩
def iRange1 : List D → Option (List D)
  | [.int j] => if 0 ≤ j ∧ j ≤ 1000 then some (rangeL 0 j.toNat) else none
  | _ => none
def iRange2 : List D → Option (List D)
  | [.int i, .int j] => if -1000 ≤ i ∧ i ≤ 1000 ∧ -1000 ≤ j ∧ j ≤ 1000 then some (rangeL i (j - i).toNat) else none
  | _ => none
theorem starEach_one {e : Expr} (h : isStar e = false) (env : PySem.Env) : starEach [e] env = [(false, eval e env)] := star_cons h [] env
def iBind (r : FA) (g : List D → Option (List D)) : FA := fun δ => (r δ).bind g
theorem SI.range1 (hg : ∀ X, F X → Gl X "range" ∧ X.mg "range" = none) (hs : isStar e = false) (h : SA F K [e] r) : SI F K tg (.Call (.Name "range" p) [e] [] pos) (iBind r iRange1) := by
  obtain ⟨t, u, v⟩ := h
  refine ⟨iRng1 t, fun X hX => pi_range1 (hg X hX).1 (hg X hX).2 (u X hX) (starEach_one hs _), fun σ H δ ds R he hf hR => ?_⟩
  unfold iBind at hf
  rw [Option.bind_eq_some_iff] at hf
  obtain ⟨xs, e1, hf⟩ := hf
  unfold iRange1 at hf
  split at hf <;> try (cases hf; done)
  split at hf <;> cases hf
  rename_i j hj
  refine v σ H δ _ _ he e1 fun vs H1 s1 d1 => ?_
  obtain ⟨w, rfl, d⟩ := d1.one
  cases d
  exact ⟨j, rfl, by omega, by omega, hR _ H1 s1 walks_range⟩
theorem SI.range2 {e' : Expr} (hg : ∀ X, F X → Gl X "range" ∧ X.mg "range" = none) (hs : isStar e = false) (hs' : isStar e' = false) (h : SA F K [e, e'] r) : SI F K tg (.Call (.Name "range" p) [e, e'] [] pos) (iBind r iRange2) := by
  obtain ⟨t, u, v⟩ := h
  refine ⟨iRng2 t, fun X hX => pi_range2 (hg X hX).1 (hg X hX).2 (u X hX) (by rw [star_cons hs, starEach_one hs']) (starEach_one hs' _), fun σ H δ ds R he hf hR => ?_⟩
  unfold iBind at hf
  rw [Option.bind_eq_some_iff] at hf
  obtain ⟨xs, e1, hf⟩ := hf
  unfold iRange2 at hf
  split at hf <;> try (cases hf; done)
  split at hf <;> cases hf
  rename_i i j hj
  refine v σ H δ _ _ he e1 fun vs H1 s1 d1 => ?_
  obtain ⟨w, w', rfl, d, d'⟩ := d1.two
  cases d; cases d'
  exact ⟨i, j, rfl, by omega, hR _ H1 s1 walks_range⟩
def zipL (a b : List D) : List D := List.zipWith (fun x y => D.tup [x, y]) a b
def iZipF : List D → Option (List D)
  | [.tup a, .tup b] => some (zipL a b)
  | [.lst a, .lst b] => some (zipL a b)
  | _ => none
theorem ypair_den {a b : List D} {xs ys : List V} {i : Nat} {H1 H H' : Hp} {x : V} (d1 : DenL K H1 a xs) (d2 : DenL K H1 b ys) (hS : Same H1 H) (y : YPair (fun i => xs[i]?) (fun i => ys[i]?) i H x H') :
    Same H H' ∧ ∃ d, (zipL a b)[i]? = some d ∧ Den K H' d x := by
  obtain ⟨T, v, w, rfl, hT, rfl, h1, h2⟩ := y
  obtain ⟨d, e1, e2⟩ := d1.back h1
  obtain ⟨d', e3, e4⟩ := d2.back h2
  refine ⟨same_new hT, .tup [d, d'], ?_, ?_⟩
  · unfold zipL
    rw [List.getElem?_zipWith, e1, e3]
  · exact den_tup hT (DenL.cons (e2.same hS) (DenL.cons (e4.same hS) DenL.nil))
theorem SI.zip {e' : Expr} {elts : List Expr} {kk : Nat} {tpos : Pos} (hK : ∀ X, F X → X.K = K) (hg : ∀ X, F X → Gl X "zip" ∧ X.mg "zip" = none) (hs : noStar [e, e'] = true) (h : SA F K [e, e'] r) :
    SI F K (.Tuple elts kk tpos) (.Call (.Name "zip" p) [e, e'] [] pos) (iBind r iZipF) := by
  obtain ⟨t, u, v⟩ := h
  have hs1 : isStar e = false ∧ noStar [e'] = true := by simpa [noStar] using hs
  refine ⟨RZ.iZipA K t, fun X hX => by rw [← hK X hX]; exact RZ.pi_zipA (hg X hX).1 (hg X hX).2 (u X hX) (star_cons hs1.1 _ _) (star_none hs1.2), fun σ H δ ds R he hf hR => ?_⟩
  unfold iBind at hf
  rw [Option.bind_eq_some_iff] at hf
  obtain ⟨xs, e1, hf⟩ := hf
  unfold iZipF at hf
  refine v σ H δ _ _ he e1 fun vs H1 s1 d1 => ?_
  split at hf <;> cases hf
  · obtain ⟨w, w', rfl, ⟨a, xs, rfl, q1, q2⟩, ⟨b, ys, rfl, q3, q4⟩⟩ := d1.two
    refine ⟨a, b, xs, ys, rfl, .inr ⟨q1, q3, hR _ H1 s1 fun i H hS => ⟨fun hi => ?_, fun hi => ?_⟩⟩⟩
    · have hl : i < xs.length ∧ i < ys.length := by
        rw [q2.length, q4.length]
        unfold zipL at hi
        rw [List.length_zipWith] at hi
        omega
      refine ⟨⟨xs, ys, xs[i]'hl.1, ys[i]'hl.2, seqT hS q1, seqT hS q3, by simp [hl.1], by simp [hl.2]⟩, fun x H' y => ?_⟩
      obtain ⟨T, x1, x2, rfl, nT, rfl, f1, f2⟩ := y
      exact ypair_den q2 q4 hS ⟨T, x1, x2, rfl, nT, rfl, f1 _ (seqT hS q1), f2 _ (seqT hS q3)⟩
    · refine ⟨xs, ys, seqT hS q1, seqT hS q3, ?_⟩
      rw [q2.length, q4.length]
      unfold zipL at hi
      rw [List.length_zipWith] at hi
      omega
  · obtain ⟨w, w', rfl, ⟨a, xs, rfl, q1, q2⟩, ⟨b, ys, rfl, q3, q4⟩⟩ := d1.two
    refine ⟨a, b, xs, ys, rfl, .inl ⟨SqL.of q1, SqL.of q3, hR _ H1 s1 (Walks.of (walk_zip (xs := xs) (ys := ys) rfl) ?_ (fun H hS => ⟨SqL.of (hS _ _ q1), SqL.of (hS _ _ q3)⟩) fun i H x H' hi hS y => ypair_den q2 q4 hS y)⟩⟩
    unfold zipL
    rw [List.length_zipWith, q2.length, q4.length]
/-! ### comprehensions -/
/-- the list that a comprehension makes -/
def compD (fg : D → DEnv → Option DEnv) (ft : DEnv → Option Bool) (fe : DEnv → Option D) (δ : DEnv) : List D → Option (List D)
  | [] => some []
  | d :: ds => (fg d δ).bind fun δ1 => (ft δ1).bind fun b => if b = true then (fe δ1).bind fun y => if flat y = true then (compD fg ft fe δ ds).bind fun r => some (y :: r) else none else compD fg ft fe δ ds
def fComp (fi : FA) (vs : List Nat) (fg : D → DEnv → Option DEnv) (ft : DEnv → Option Bool) (fe : DEnv → Option D) : DEnv → Option D := fun δ =>
  (fi δ).bind fun ds => (compD fg ft fe (wipeD δ vs) ds).bind fun ys => if ys.length ≤ 1000 then some (.lst ys) else none
def STs (F : Cx → Prop) (K : PySem.W.Frag) (es : List Expr) (f : DEnv → Option Bool) : Prop := ∃ t : TT, (∀ X, F X → PTs X es t) ∧ ∀ σ H δ d Q, EnvD K H σ δ → f δ = some d → (∀ H', Same H H' → Q d H') → t σ H Q
def tTrue : DEnv → Option Bool := fun _ => some true
theorem STs.nil : STs F K [] tTrue := ⟨tYes, fun _ _ => pts_nil, fun σ H δ d Q he hf hQ => by cases hf; exact hQ H (Same.refl H)⟩
theorem STs.one {f : DEnv → Option Bool} (h : ST F K e f) : STs F K [e] f := by
  obtain ⟨t, u, v⟩ := h
  exact ⟨t, fun X hX => pts_one (u X hX), v⟩
theorem wipe_off (σ : St) : ∀ vs : List Nat, Off vs σ (L2.wipe σ vs)
  | [] => Off.refl
  | v :: vs => by
    have h := wipe_off σ vs
    refine ⟨by unfold L2.wipe; rw [List.length_set]; exact h.1, fun i hi => ?_⟩
    have hi' : i ≠ v ∧ i ∉ vs := by simpa using hi
    unfold L2.wipe
    rw [List.getElem?_set_ne (Ne.symm hi'.1)]
    exact h.2 i hi'.2
/-- the reading of a comprehension over one thing -/
theorem lc_read {wi : TI} {g : TG} {tt : TT} {te : TE} {vs : List Nat} {fi : FA} {fg : D → DEnv → Option DEnv} {ft : DEnv → Option Bool} {fe : DEnv → Option D}
    (vi : ∀ σ H δ ds R, EnvD K H σ δ → fi δ = some ds → (∀ J H', Same H H' → Walks K J ds H' → R J H') → wi σ H R)
    (vg : ∀ σ H δ δ' d v Q, EnvD K H σ δ → Den K H d v → fg d δ = some δ' → (∀ σ', EnvD K H σ' δ' → Off js σ σ' → Q σ' H) → g v σ H Q)
    (vt : ∀ σ H δ d Q, EnvD K H σ δ → ft δ = some d → (∀ H', Same H H' → Q d H') → tt σ H Q)
    (ve : ∀ σ H δ d Q, EnvD K H σ δ → fe δ = some d → (∀ v H', Same H H' → Den K H' d v → Q v H') → te σ H Q)
    (hj : ∀ i ∈ js, i ∈ vs) : ∀ σ H δ d Q, EnvD K H σ δ → fComp fi vs fg ft fe δ = some d → (∀ v H', Same H H' → Den K H' d v → Q v H') → tLc wi g tt te vs σ H Q := by
  intro σ H δ z Q he hf hQ
  unfold fComp at hf
  rw [Option.bind_eq_some_iff] at hf
  obtain ⟨ds, e1, hf⟩ := hf
  rw [Option.bind_eq_some_iff] at hf
  obtain ⟨ys, e2, hf⟩ := hf
  split at hf <;> cases hf
  rename_i hl
  refine vi σ H δ ds _ he e1 fun J H1 s1 wk => ?_
  intro L hL
  have offL : ∀ {H2 : Hp} {o : HO}, Same H1 H2 → Same H1 (L2.upd H2 L o) := fun {H2 o} h b x eb => by
    have n : b ≠ L := ne_of_none eb hL
    rw [upd_ne n]
    exact h b x eb
  refine ⟨fun i m H2 => m = ds.length - i ∧ i ≤ ds.length ∧ Same H1 H2 ∧ ∃ acc ads rest, H2 L = some (.lst acc) ∧ DenL K H2 ads acc ∧ flatL ads = true ∧ compD fg ft fe (wipeD δ vs) (ds.drop i) = some rest ∧ ads ++ rest = ys,
    ⟨ds.length, by simp, Nat.zero_le _, same_new hL, [], [], ys, upd_same, rfl, rfl, by simpa using e2, rfl⟩, ?_⟩
  rintro i m H2 ⟨rfl, hi, s2, acc, ads, rest, hL2, da, fa, ec, ey⟩
  by_cases hlt : i < ds.length
  · obtain ⟨go, yl⟩ := (wk i H2 s2).1 hlt
    refine .inr ⟨go, fun H3 => Same H1 H3 ∧ ∃ acc ads rest, H3 L = some (.lst acc) ∧ DenL K H3 ads acc ∧ flatL ads = true ∧ compD fg ft fe (wipeD δ vs) (ds.drop (i + 1)) = some rest ∧ ads ++ rest = ys,
      fun H3 h => ⟨ds.length - (i + 1), by omega, rfl, hlt, h⟩, fun x H3 y => ?_⟩
    obtain ⟨s3, d, ed, dd⟩ := yl x H3 y
    have hdrop : ds.drop i = d :: ds.drop (i + 1) := by
      rw [List.drop_eq_getElem_cons hlt]
      have : ds[i]? = some ds[i] := by simp [hlt]
      rw [ed] at this
      cases this
      rfl
    rw [hdrop] at ec
    unfold compD at ec
    rw [Option.bind_eq_some_iff] at ec
    obtain ⟨δ1, e3, ec⟩ := ec
    rw [Option.bind_eq_some_iff] at ec
    obtain ⟨b, e4, ec⟩ := ec
    have s13 : Same H1 H3 := s2.trans s3
    refine vg (L2.wipe σ vs) H3 (wipeD δ vs) δ1 d x _ ((he.same (s1.trans s13)).wipe vs) dd e3 fun σ2 he2 o2 => ⟨?_, ?_⟩
    · rw [o2.wipe hj]
      exact (wipe_off σ vs).wipe fun i h => h
    · refine vt σ2 H3 δ1 b _ he2 e4 fun H4 s4 => ?_
      cases b with
      | true =>
        rw [if_pos rfl] at ec ⊢
        rw [Option.bind_eq_some_iff] at ec
        obtain ⟨w, e5, ec⟩ := ec
        split at ec <;> try (cases ec; done)
        rename_i hw
        rw [Option.bind_eq_some_iff] at ec
        obtain ⟨rest', e6, ec⟩ := ec
        cases ec
        refine ve σ2 H4 δ1 w _ (he2.same s4) e5 fun v H5 s5 dv => ?_
        have s25 : Same H2 H5 := s3.trans (s4.trans s5)
        have hL5 : H5 L = some (.lst acc) := s25 _ _ hL2
        have hlen : ads.length + 1 ≤ 1000 := by
          rw [← ey] at hl
          simp at hl
          omega
        refine ⟨acc, hL5, small1000 (by rw [da.length]; omega), offL (s2.trans s25), acc ++ [v], ads ++ [w], rest', upd_same, ?_, ?_, e6, by rw [← ey]; simp⟩
        · exact (DenL.upd hL5 _ _ fa (DenL.same s25 _ _ da)).append (DenL.cons (Den.upd hL5 _ _ hw dv) DenL.nil)
        · clear e6 ey hlen da
          induction ads with
          | nil => simpa [flatL] using hw
          | cons q r ih =>
            have fa' : flat q = true ∧ flatL r = true := by simpa [flatL] using fa
            simpa [flatL, fa'.1] using ih fa'.2
      | false =>
        rw [if_neg Bool.false_ne_true] at ec ⊢
        have s24 : Same H2 H4 := s3.trans s4
        exact ⟨s2.trans s24, acc, ads, rest, s24 _ _ hL2, DenL.same s24 _ _ da, fa, ec, ey⟩
  · have ei : i = ds.length := by omega
    subst ei
    refine .inl ⟨(wk _ H2 s2).2 rfl, ?_⟩
    rw [List.drop_length] at ec
    cases ec
    rw [List.append_nil] at ey
    subst ey
    exact hQ _ H2 (s1.trans s2) ⟨L, acc, rfl, hL2, da⟩
end
end DV
end
section
set_option Elab.async false
set_option linter.all false
set_option maxRecDepth 100000
set_option maxHeartbeats 4000000
/-! DV: comprehensions of two clauses, the second over a name. -/
namespace DV
open PySem PySem.Spec PyProof.Rows L2 StX
section
variable {F F' : Cx → Prop} {K : PySem.W.Frag} {tg iter tg1 it1 elt : Expr} {ifs ifs1 : List Expr} {pos : Pos} {js js1 : List Nat}
/-- what a name stands for, where own slots are not looked at -/
def SN (F : Cx → Prop) (K : PySem.W.Frag) (vs : List Nat) (e : Expr) (f : DEnv → Option D) : Prop := ∃ sel : St → Option V, (∀ X, F X → PE X e (fun σ H Q => ∃ v, sel σ = some v ∧ Q v H)) ∧
  (∀ σ σ', Off vs σ σ' → sel σ' = sel σ) ∧ ∀ σ H δ d, EnvD K H σ δ → f δ = some d → ∃ v, sel σ = some v ∧ Den K H d v
theorem SN.bad {vs : List Nat} {e : Expr} : SN F K vs e bad := ⟨fun _ => none, fun _ _ => ⟨fun _ _ _ _ _ _ h => by obtain ⟨v, e, _⟩ := h; cases e⟩, fun _ _ _ => rfl, fun _ _ _ _ _ h => nomatch h⟩
theorem SN.var {i : Nat} {x : Str} {vs : List Nat} (hi : i ∉ vs) (hN : ∀ X, F X → X.N[i]? = some x ∧ Vis X.env.scope x) (hd : (x == ("__debug__" : Str)) = false) (hcd : (x == ("__classdict__" : Str)) = false) : SN F K vs (.Name x pos) (fVar i) := by
  refine ⟨fun σ => (σ[i]?).join, fun X hX => ⟨fun pins s σ H Q I h => ?_⟩, fun σ σ' o => congrArg Option.join (o.2 i hi), fun σ H δ d he hf => ?_⟩
  · obtain ⟨v, e, q⟩ := h
    have e : (σ[i]?).join = some v := e
    refine (pe_var (hN X hX).1 (hN X hX).2 hd hcd).run pins s σ H Q I ⟨v, ?_, q⟩
    cases q : σ[i]? with
    | none => rw [q] at e; cases e
    | some o => rw [q] at e; rw [show o = some v from e]
  · have hf : δ[i]? = some (some d) := by
      unfold fVar at hf
      cases q : δ[i]? with
      | none => rw [q] at hf; cases hf
      | some o => rw [q] at hf; rw [show o = some d from hf]
    obtain ⟨v, e1, e2⟩ := he.2 i d hf
    exact ⟨v, congrArg Option.join e1, e2⟩
theorem SN.glob {x : Str} {d : D} {v : V} {u : Value} {vs : List Nat} (hg : ∀ X, F X → Gl X x ∧ X.mg x = some u) (r : RelV v u) (hv : ∀ H, Den K H d v) (hd : (x == ("__debug__" : Str)) = false) : SN F K vs (.Name x pos) (fConst d) := by
  refine ⟨fun _ => some v, fun X hX => ⟨fun pins s σ H Q I h => ?_⟩, fun _ _ _ => rfl, fun σ H δ z he hf => by cases hf; exact ⟨v, rfl, hv H⟩⟩
  obtain ⟨w, e, q⟩ := h
  cases e
  exact (pe_glob (hg X hX).1 (hg X hX).2 r hd).run pins s σ H Q I q
def flatAt (js : List Nat) (δ : DEnv) : Bool := js.all fun i => match δ[i]? with
  | some (some d) => flat d
  | _ => true
def comp2D (js : List Nat) (fg : D → DEnv → Option DEnv) (ft : DEnv → Option Bool) (fs : DEnv → Option D) (fg1 : D → DEnv → Option DEnv) (ft1 : DEnv → Option Bool) (fe : DEnv → Option D) (vs1 : List Nat) (δ : DEnv) : List D → Option (List D)
  | [] => some []
  | d :: ds => (fg d δ).bind fun δ1 => (ft δ1).bind fun b => if b = true then if flatAt js δ1 = true then (fs δ).bind fun s => (seqOf s).bind fun ds1 => (compD fg1 ft1 fe (wipeD δ1 vs1) ds1).bind fun r1 => (comp2D js fg ft fs fg1 ft1 fe vs1 δ ds).bind fun r => some (r1 ++ r)
      else none else comp2D js fg ft fs fg1 ft1 fe vs1 δ ds
def fComp2 (js : List Nat) (fi : FA) (vs vs1 : List Nat) (fg : D → DEnv → Option DEnv) (ft : DEnv → Option Bool) (fs : DEnv → Option D) (fg1 : D → DEnv → Option DEnv) (ft1 : DEnv → Option Bool) (fe : DEnv → Option D) : DEnv → Option D := fun δ =>
  (fi δ).bind fun ds => (comp2D js fg ft fs fg1 ft1 fe vs1 (wipeD δ vs) ds).bind fun ys => if ys.length ≤ 1000 then some (.lst ys) else none
/-- the list at L so far -/
structure SoFar (K : PySem.W.Frag) (H1 : Hp) (L : Addr) (ads : List D) (H : Hp) : Prop where
  same : Same H1 H
  at_ : ∃ acc, H L = some (.lst acc) ∧ DenL K H ads acc
  flat : flatL ads = true
theorem SoFar.grow {H1 H H' : Hp} {L : Addr} {ads : List D} (h : SoFar K H1 L ads H) (s : Same H H') : SoFar K H1 L ads H' := by
  obtain ⟨acc, e1, e2⟩ := h.at_
  exact ⟨h.same.trans s, ⟨acc, s _ _ e1, DenL.same s _ _ e2⟩, h.flat⟩
theorem SoFar.push {H1 H : Hp} {L : Addr} {ads : List D} {d : D} {v : V} (h : SoFar K H1 L ads H) (hL : H1 L = none) (hf : DV.flat d = true) (hd : Den K H d v) (hl : ads.length + 1 ≤ 1000) :
    ∃ acc, H L = some (.lst acc) ∧ acc.length < sizeLine ∧ SoFar K H1 L (ads ++ [d]) (L2.upd H L (.lst (acc ++ [v]))) := by
  obtain ⟨acc, e1, e2⟩ := h.at_
  refine ⟨acc, e1, small1000 (by rw [e2.length]; omega), fun b x eb => ?_, ⟨acc ++ [v], upd_same, (DenL.upd e1 _ _ h.flat e2).append (DenL.cons (Den.upd e1 _ _ hf hd) DenL.nil)⟩, ?_⟩
  · rw [upd_ne (ne_of_none eb hL)]
    exact h.same b x eb
  · have fl := h.flat
    clear hl e2 h
    induction ads with
    | nil => simpa [flatL] using hf
    | cons q r ih =>
      have fa' : DV.flat q = true ∧ flatL r = true := by simpa [flatL] using fl
      simpa [flatL, fa'.1] using ih fa'.2
theorem lc2_read {wi : TI} {g g1 : TG} {tt tt1 : TT} {te : TE} {sel : St → Option V} {vs vs1 : List Nat} {fi : FA} {fg fg1 : D → DEnv → Option DEnv} {ft ft1 : DEnv → Option Bool} {fe fs : DEnv → Option D}
    (vi : ∀ σ H δ ds R, EnvD K H σ δ → fi δ = some ds → (∀ J H', Same H H' → Walks K J ds H' → R J H') → wi σ H R)
    (vg : ∀ σ H δ δ' d v Q, EnvD K H σ δ → Den K H d v → fg d δ = some δ' → (∀ σ', EnvD K H σ' δ' → Off js σ σ' → Q σ' H) → g v σ H Q)
    (vgo : ∀ d δ δ', fg d δ = some δ' → ∀ i, i ∉ js → δ'[i]? = δ[i]?)
    (vt : ∀ σ H δ d Q, EnvD K H σ δ → ft δ = some d → (∀ H', Same H H' → Q d H') → tt σ H Q)
    (vs0 : ∀ σ σ', Off js σ σ' → sel σ' = sel σ) (vsn : ∀ σ H δ d, EnvD K H σ δ → fs δ = some d → ∃ v, sel σ = some v ∧ Den K H d v)
    (vg1 : ∀ σ H δ δ' d v Q, EnvD K H σ δ → Den K H d v → fg1 d δ = some δ' → (∀ σ', EnvD K H σ' δ' → Off js1 σ σ' → Q σ' H) → g1 v σ H Q)
    (vt1 : ∀ σ H δ d Q, EnvD K H σ δ → ft1 δ = some d → (∀ H', Same H H' → Q d H') → tt1 σ H Q)
    (ve : ∀ σ H δ d Q, EnvD K H σ δ → fe δ = some d → (∀ v H', Same H H' → Den K H' d v → Q v H') → te σ H Q)
    (hj : ∀ i ∈ js, i ∈ vs) (hj1 : ∀ i ∈ js1, i ∈ vs1) : ∀ σ H δ d Q, EnvD K H σ δ → fComp2 js fi vs vs1 fg ft fs fg1 ft1 fe δ = some d → (∀ v H', Same H H' → Den K H' d v → Q v H') →
      tLc2 wi g tt (fun σ H R => ∃ v, sel σ = some v ∧ ((∃ a, v = .ref a ∧ (∃ xs, SqL K H a xs) ∧ R (Itl K a) H) ∨ (∃ a, v = .ref a ∧ (∃ xs, SqT K H a xs) ∧ R (Itt K a) H))) g1 tt1 te vs vs1 σ H Q := by
  intro σ H δ z Q he hf hQ
  unfold fComp2 at hf
  rw [Option.bind_eq_some_iff] at hf
  obtain ⟨ds, e1, hf⟩ := hf
  rw [Option.bind_eq_some_iff] at hf
  obtain ⟨ys, e2, hf⟩ := hf
  split at hf <;> cases hf
  rename_i hl
  refine vi σ H δ ds _ he e1 fun J H1 s1 wk => ?_
  intro L hL
  have he1 : EnvD K H1 (L2.wipe σ vs) (wipeD δ vs) := (he.same s1).wipe vs
  refine ⟨fun i m H2 => m = ds.length - i ∧ i ≤ ds.length ∧ ∃ ads rest, SoFar K H1 L ads H2 ∧ comp2D js fg ft fs fg1 ft1 fe vs1 (wipeD δ vs) (ds.drop i) = some rest ∧ ads ++ rest = ys,
    ⟨ds.length, by simp, Nat.zero_le _, [], ys, ⟨same_new hL, ⟨[], upd_same, rfl⟩, rfl⟩, by simpa using e2, rfl⟩, ?_⟩
  rintro i m H2 ⟨rfl, hi, ads, rest, sf, ec, ey⟩
  by_cases hlt : i < ds.length
  · obtain ⟨go, yl⟩ := (wk i H2 sf.same).1 hlt
    refine .inr ⟨go, fun H3 => ∃ ads rest, SoFar K H1 L ads H3 ∧ comp2D js fg ft fs fg1 ft1 fe vs1 (wipeD δ vs) (ds.drop (i + 1)) = some rest ∧ ads ++ rest = ys,
      fun H3 h => ⟨ds.length - (i + 1), by omega, rfl, hlt, h⟩, fun x H3 y => ?_⟩
    obtain ⟨s3, d, ed, dd⟩ := yl x H3 y
    have hdrop : ds.drop i = d :: ds.drop (i + 1) := by
      rw [List.drop_eq_getElem_cons hlt]
      have : ds[i]? = some ds[i] := by simp [hlt]
      rw [ed] at this
      cases this
      rfl
    rw [hdrop] at ec
    unfold comp2D at ec
    rw [Option.bind_eq_some_iff] at ec
    obtain ⟨δ1, e3, ec⟩ := ec
    rw [Option.bind_eq_some_iff] at ec
    obtain ⟨b, e4, ec⟩ := ec
    have s13 : Same H1 H3 := sf.same.trans s3
    refine vg (L2.wipe σ vs) H3 (wipeD δ vs) δ1 d x _ (he1.same s13) dd e3 fun σ2 he2 o2 => ⟨?_, ?_⟩
    · rw [o2.wipe hj]
      exact (wipe_off σ vs).wipe fun i h => h
    · refine vt σ2 H3 δ1 b _ he2 e4 fun H4 s4 => ?_
      have sf4 : SoFar K H1 L ads H4 := sf.grow (s3.trans s4)
      cases b with
      | true =>
        rw [if_pos rfl] at ec ⊢
        split at ec <;> try (cases ec; done)
        rename_i hfl
        rw [Option.bind_eq_some_iff] at ec
        obtain ⟨w, e5, ec⟩ := ec
        rw [Option.bind_eq_some_iff] at ec
        obtain ⟨ds1, e6, ec⟩ := ec
        rw [Option.bind_eq_some_iff] at ec
        obtain ⟨r1, e7, ec⟩ := ec
        rw [Option.bind_eq_some_iff] at ec
        obtain ⟨r2, e8, ec⟩ := ec
        cases ec
        obtain ⟨v, ev, dv⟩ := vsn _ H1 _ w he1 e5
        rw [← vs0 _ _ o2] at ev
        -- the second source
        have wk1 : ∃ J1 : It, Walks K J1 ds1 H1 ∧ ((∃ a, v = .ref a ∧ (∃ xs, SqL K H4 a xs) ∧ J1 = Itl K a) ∨ (∃ a, v = .ref a ∧ (∃ xs, SqT K H4 a xs) ∧ J1 = Itt K a)) := by
          unfold seqOf at e6
          split at e6 <;> cases e6
          · obtain ⟨a, xs, rfl, h1, h2⟩ := dv
            exact ⟨_, walks_tup h1 h2, .inr ⟨a, rfl, ⟨xs, seqT sf4.same h1⟩, rfl⟩⟩
          · obtain ⟨a, xs, rfl, h1, h2⟩ := dv
            exact ⟨_, walks_list h1 h2, .inl ⟨a, rfl, ⟨xs, SqL.of (sf4.same _ _ h1)⟩, rfl⟩⟩
        obtain ⟨J1, wk1, ej⟩ := wk1
        have inner : ∃ W1 : Nat → Nat → Hp → Prop, (∃ m, W1 0 m H4) ∧ ∀ j k H, W1 j k H →
            (J1.stop j H ∧ ∃ ads rest, SoFar K H1 L ads H ∧ comp2D js fg ft fs fg1 ft1 fe vs1 (wipeD δ vs) (ds.drop (i + 1)) = some rest ∧ ads ++ rest = ys) ∨
            (J1.go j H ∧ ∃ Nx1 : Hp → Prop, (∀ H', Nx1 H' → ∃ k', k' < k ∧ W1 (j + 1) k' H') ∧ ∀ x H', J1.yld j H x H' → g1 x (L2.wipe σ2 vs1) H' fun σ3 H5 => L2.wipe σ3 vs1 = L2.wipe σ2 vs1 ∧ tt1 σ3 H5 fun b H6 =>
              if b = true then te σ3 H6 fun y H7 => ∃ acc, H7 L = some (.lst acc) ∧ acc.length < sizeLine ∧ Nx1 (L2.upd H7 L (.lst (acc ++ [y]))) else Nx1 H6) := by
          refine ⟨fun j k H5 => k = ds1.length - j ∧ j ≤ ds1.length ∧ EnvD K H5 σ2 δ1 ∧ ∃ ads r, SoFar K H1 L ads H5 ∧ compD fg1 ft1 fe (wipeD δ1 vs1) (ds1.drop j) = some r ∧ ads ++ (r ++ r2) = ys,
            ⟨ds1.length, by simp, Nat.zero_le _, he2.same s4, ads, r1, sf4, by simpa using e7, ey⟩, ?_⟩
          rintro j k H5 ⟨rfl, hjl, he5, ads5, r5, sf5, ec5, ey5⟩
          by_cases hlt5 : j < ds1.length
          · obtain ⟨go5, yl5⟩ := (wk1 j H5 sf5.same).1 hlt5
            refine .inr ⟨go5, fun H6 => EnvD K H6 σ2 δ1 ∧ ∃ ads r, SoFar K H1 L ads H6 ∧ compD fg1 ft1 fe (wipeD δ1 vs1) (ds1.drop (j + 1)) = some r ∧ ads ++ (r ++ r2) = ys,
              fun H6 h => ⟨ds1.length - (j + 1), by omega, rfl, hlt5, h⟩, fun x5 H6 y5 => ?_⟩
            obtain ⟨s6, d5, ed5, dd5⟩ := yl5 x5 H6 y5
            have hdrop5 : ds1.drop j = d5 :: ds1.drop (j + 1) := by
              rw [List.drop_eq_getElem_cons hlt5]
              have : ds1[j]? = some ds1[j] := by simp [hlt5]
              rw [ed5] at this
              cases this
              rfl
            rw [hdrop5] at ec5
            unfold compD at ec5
            rw [Option.bind_eq_some_iff] at ec5
            obtain ⟨δ2, f3, ec5⟩ := ec5
            rw [Option.bind_eq_some_iff] at ec5
            obtain ⟨b5, f4, ec5⟩ := ec5
            refine vg1 (L2.wipe σ2 vs1) H6 (wipeD δ1 vs1) δ2 d5 x5 _ ((he5.same s6).wipe vs1) dd5 f3 fun σ6 he6 o6 => ⟨?_, ?_⟩
            · rw [o6.wipe hj1]
              exact (wipe_off σ2 vs1).wipe fun i h => h
            · refine vt1 σ6 H6 δ2 b5 _ he6 f4 fun H7 s7 => ?_
              have sf7 : SoFar K H1 L ads5 H7 := sf5.grow (s6.trans s7)
              have he7 : EnvD K H7 σ2 δ1 := he5.same (s6.trans s7)
              cases b5 with
              | true =>
                rw [if_pos rfl] at ec5 ⊢
                rw [Option.bind_eq_some_iff] at ec5
                obtain ⟨w5, f5, ec5⟩ := ec5
                split at ec5 <;> try (cases ec5; done)
                rename_i hw5
                rw [Option.bind_eq_some_iff] at ec5
                obtain ⟨r6, f6, ec5⟩ := ec5
                cases ec5
                refine ve σ6 H7 δ2 w5 _ (he6.same s7) f5 fun v8 H8 s8 dv8 => ?_
                have hlen : ads5.length + 1 ≤ 1000 := by
                  rw [← ey5] at hl
                  simp at hl
                  omega
                have he8 : EnvD K H8 σ2 δ1 := he7.same s8
                obtain ⟨acc, q1, q2, q3⟩ := (sf7.grow s8).push hL hw5 dv8 hlen
                refine ⟨acc, q1, q2, ⟨he8.1, fun i di hdi => ?_⟩, ads5 ++ [w5], r6, q3, f6, by rw [← ey5]; simp⟩
                by_cases hij : i ∈ js
                · obtain ⟨vi', b1, b2⟩ := he8.2 i di hdi
                  have fl := List.all_eq_true.mp hfl i hij
                  rw [hdi] at fl
                  exact ⟨vi', b1, Den.upd q1 _ _ fl b2⟩
                · have hdi' := hdi
                  rw [vgo _ _ _ e3 i hij] at hdi'
                  obtain ⟨vi', b1, b2⟩ := he1.2 i di hdi'
                  exact ⟨vi', by rw [o2.2 i hij]; exact b1, b2.same q3.same⟩
              | false =>
                rw [if_neg Bool.false_ne_true] at ec5 ⊢
                exact ⟨he7, ads5, r5, sf7, ec5, ey5⟩
          · have ej5 : j = ds1.length := by omega
            subst ej5
            rw [List.drop_length] at ec5
            cases ec5
            exact .inl ⟨(wk1 _ H5 sf5.same).2 rfl, ads5, r2, sf5, e8, by simpa using ey5⟩
        refine ⟨v, ev, ?_⟩
        rcases ej with ⟨a, rfl, hx, rfl⟩ | ⟨a, rfl, hx, rfl⟩
        · exact .inl ⟨a, rfl, hx, inner⟩
        · exact .inr ⟨a, rfl, hx, inner⟩
      | false =>
        rw [if_neg Bool.false_ne_true] at ec ⊢
        exact ⟨ads, rest, sf4, ec, ey⟩
  · have ei : i = ds.length := by omega
    subst ei
    rw [List.drop_length] at ec
    cases ec
    rw [List.append_nil] at ey
    subst ey
    obtain ⟨acc, a1, a2⟩ := sf.at_
    exact .inl ⟨(wk _ H2 sf.same).2 rfl, hQ _ H2 (s1.trans sf.same) ⟨L, acc, rfl, a1, a2⟩⟩
end
end DV
end
section
set_option Elab.async false
set_option linter.all false
set_option maxRecDepth 100000
set_option maxHeartbeats 4000000
/-! DV: enumerate of a tuple. -/
namespace DV
open PySem PySem.Spec PyProof.Rows L2 StX

set_option maxHeartbeats 8000000 in
theorem enum_one {v : Value} {o : Obj} {Hh : Heap → Prop} (B : Begins v o Hh) :
    Meets (Builtin.«enumerate.__new__» ⟨[.type "enumerate", v], []⟩) (fun _ R s => Hh s.heap ∧ R (.ok (.ret (.ref (s.heap.push o).objs.size)))
      { s with heap := (s.heap.push o).push { cls := .type "enumerate", data := .fields #[.none, .bool false, .ref s.heap.objs.size, rawInt 0, .none, .none] } }) :=
  .of_wp fun prog w A R s h => by
    obtain ⟨hp, g, d, tk, os⟩ := s
    obtain ⟨h1, h⟩ := h
    have hsub := sub_enumerate
    have it : ∀ {A' : Around} {E' : Value → Shared → Prop} {Q' : Value → Shared → Prop}, Q' (.ref hp.objs.size) ⟨hp.push o, g, d, tk, os⟩ → wpAny (model prog w) A' (pyIter v) Q' E' ⟨hp, g, d, tk, os⟩ := fun q => B.iter prog w _ _ ⟨hp, g, d, tk, os⟩ _ h1 q
    wp_walk using it
    refine wpAny_stack_any fun st => wpAny_pure ?_
    split
    · rename_i cc _ _ _ _ _
      cases (cc == Value.type "enumerate") <;> (wp_walk using it; exact ⟨_, rfl, h⟩)
    · wp_walk using it
      exact ⟨_, rfl, h⟩
theorem call_enum_tup {prog : Program} {w : World} {A : Around} {E : Value → Shared → Prop} {s : Shared} {t : Addr} {items : Array Value} {Q : Value → Shared → Prop} (ht : s.heap.IsTuple t items)
    (h : ∀ h', IsEnum h' (s.heap.objs.size + 1) s.heap.objs.size 0 .none → h'.IsTupleIter s.heap.objs.size t 0 → h'.objs.size = s.heap.objs.size + 2 → (∀ b o, s.heap.get? b = some o → h'.get? b = some o) →
      Q (.ref (s.heap.objs.size + 1)) { s with heap := h' }) : wpAny (model prog w) A (call (.type "enumerate") [.ref t]) Q E s := by
  refine callType_new F.called_enumerate (by decide) (F.typeCall_enumerate_1 _) (F.newCall_enumerate_1 _) (fun obj => F.args_object_init_2 obj _) F.entry_enumerate_new (enum_one (begins_tuple t items)) ⟨ht, ?_⟩
  generalize hoo : ({ cls := .type "tuple_iterator", data := .fields #[.ref t, .int 0 0] } : Obj) = oo
  have hz : (s.heap.push oo).objs.size = s.heap.objs.size + 1 := Heap.size_push ..
  show _ ∧ _
  rw [hz]
  have gi : ((s.heap.push oo).push { cls := .type "enumerate", data := .fields #[.none, .bool false, .ref s.heap.objs.size, rawInt 0, .none, .none] }).get? s.heap.objs.size = some oo :=
    Heap.get?_push_of_some _ (Heap.get?_push_size _ (by rw [← hoo]; rfl))
  have ge : IsEnum ((s.heap.push oo).push { cls := .type "enumerate", data := .fields #[.none, .bool false, .ref s.heap.objs.size, rawInt 0, .none, .none] }) (s.heap.objs.size + 1) s.heap.objs.size 0 .none := by
    have q := Heap.get?_push_size (s.heap.push oo) (o := { cls := .type "enumerate", data := .fields #[.none, .bool false, .ref s.heap.objs.size, rawInt 0, .none, .none] }) rfl
    rw [hz] at q
    exact q
  refine ⟨⟨_, ge, rfl⟩, h _ ge ⟨_, gi, by rw [← hoo], by rw [← hoo]; rfl⟩ (by rw [Heap.size_push, hz]) fun b ob x => Heap.get?_push_of_some _ (Heap.get?_push_of_some _ x)⟩
/-- the tuple at a, numbered -/
def IteT (K : PySem.W.Frag) (a : Addr) : It where
  go := fun i H => ∃ (xs : List V) (x : V), SqT K H a xs ∧ xs[i]? = some x
  yld := fun i H v H' => ∃ T x, v = .ref T ∧ H T = none ∧ H' = L2.upd H T (.tup [.int (i : Nat), x]) ∧ ∀ xs, SqT K H a xs → xs[i]? = some x
  stop := fun i H => ∃ xs : List V, SqT K H a xs ∧ xs.length = i
theorem turn_enT {P : Program} {w : World} {K : PySem.W.Frag} {elts : List Expr} {kk : Nat} {tpos : Pos} (a e it : Addr) :
    Turn P w K (.Tuple elts kk tpos) (IteT K a) [e, it] e (fun i h => (∃ old, IsEnum h e it ((i : Nat) : Int) old) ∧ h.IsTupleIter it a i ∧ e ≠ it ∧ a ≠ it) where
  mem := List.mem_cons_self
  obj := fun i h st b hb => by
    obtain ⟨⟨old, he⟩, ⟨o, ho, hc, hd⟩, _⟩ := st
    rcases (show b = e ∨ b = it by simpa using hb) with z | z
    · rw [z]; exact ⟨_, he, fun v q => nomatch q⟩
    · rw [z]; exact ⟨o, ho, fun v q => by rw [hd] at q; cases q⟩
  keep := fun i h h' st k => by
    obtain ⟨⟨old, he⟩, hi, hne⟩ := st
    exact ⟨⟨old, k e (by simp) _ he⟩, hi.at fun o q => k it (by simp) o q, hne⟩
  item := by
    intro X hP hw hK hc i pins s σ H E I hf st hg
    subst hP hw hK
    obtain ⟨⟨old, he⟩, hit, hne, hai⟩ := st
    obtain ⟨xs, x, hq, hx⟩ := hg
    obtain ⟨its, rv, p, hz⟩ := I.tuple hq
    obtain ⟨u, hu, ru⟩ := rv.get hx
    have hlt : i < its.toArray.size := by
      have := (List.getElem?_eq_some_iff.mp hu).1
      simpa using this
    have hel : e < s.heap.objs.size := Heap.lt_size he
    have hil : it < s.heap.objs.size := by
      obtain ⟨_, q, _⟩ := hit
      exact Heap.lt_size q
    have Dr := Draws.tuple (prog := X.prog) (w := X.w) (A := X.A.in1) (I.ok.hd hc) it a hai its.toArray
    have hea : e ∉ [it, a] := by
      intro z
      rcases (show e = it ∨ e = a by simpa using z) with z | z
      · exact hne z
      · obtain ⟨o, ho, hcl, _⟩ := p
        rw [← z] at ho
        have he' : s.heap.get? e = some _ := he
        rw [he'] at ho
        have eo := Option.some.inj ho
        rw [← eo] at hcl
        exact absurd (show Value.type "enumerate" = Value.type "tuple" from hcl) (by decide +kernel)
    refine wpAny_pyNext_enum_itemD Dr he ⟨hit, p⟩ hlt hne hea fun y h' tk hPy ho hst hT hsz hk => ?_
    have ey : y = u := by
      have : its.toArray[i]? = some u := by simpa using hu
      rw [this] at hPy
      exact (Option.some.inj hPy).symm
    subst ey
    refine ⟨_, rfl, wpAny_letOwnedTupleGo_enum (s := { s with heap := h', toks := tk + 1 }) ho fun h'' he' sb => ?_⟩
    have hT2 : h''.get? s.heap.objs.size = some { cls := .type "tuple", data := .seq #[.int i tk, y] } := (sb.2 _ (Nat.ne_of_gt hel)).trans hT
    have new : ObjOk X.prog X.w (L2.upd H s.heap.objs.size (.tup [.int (i : Nat), x])) h'' s.heap.objs.size (.tup [.int (i : Nat), x]) :=
      ⟨by show 2 ≤ sizeLine; decide, [.int i tk, y], .cons ⟨_, rfl⟩ (.cons ru .nil), ⟨_, hT2, rfl, _, rfl⟩⟩
    have kk : ∀ b ob, b ∉ [e, it] → s.heap.get? b = some ob → h''.get? b = some ob := fun b ob hb q =>
      (sb.2 b (fun z => hb (by simp [z]))).trans (hk b ob (fun z => hb (by simp [z])) (fun z => hb (by simp [z])) q)
    have I1 : L2.Inv X pins σ (L2.upd H s.heap.objs.size (.tup [.int (i : Nat), x])) { s with heap := h'', toks := tk + 1 } := I.turnedNew (ch := [e, it]) kk hf (Nat.le_refl _) new
    refine ⟨.ref s.heap.objs.size, _, I1, rfl, ⟨_, x, rfl, I.hok.fresh (Nat.le_refl _), rfl, fun ys hy => by rw [I.tuple_inj hy hq]; exact hx⟩, ⟨⟨y, ?_⟩, hst.1.at fun o q => (sb.2 it (Ne.symm hne)).trans q, hne, hai⟩, fun b hb => ?_⟩
    · rw [show ((i + 1 : Nat) : Int) = (i : Int) + 1 by omega]
      exact he'
    · have hb' : b < s.heap.objs.size := by
        rcases (show b = e ∨ b = it by simpa using hb) with z | z <;> (rw [z]; assumption)
      rw [upd_ne (Nat.ne_of_lt hb')]
      exact (hf b hb).1
  done := by
    intro X hP hw hK hc i pins s σ H E I hf st hg
    subst hP hw hK
    obtain ⟨⟨old, he⟩, hit, hne, hai⟩ := st
    obtain ⟨xs, hq, hx⟩ := hg
    obtain ⟨its, rv, p, hz⟩ := I.tuple hq
    obtain ⟨f0, f1, f2, f3, f4, f5⟩ := hf it (by simp)
    have hl : its.toArray.size = i := by
      have := rv.length
      simp
      omega
    have Dr := Draws.tuple (prog := X.prog) (w := X.w) (A := X.A.in1) (I.ok.hd hc) it a hai its.toArray
    exact wpAny_pyNext_enum_endD Dr he (by rw [hl]; exact ⟨hit, p⟩) fun h' eb => ⟨rfl, I.turned (t' := s.toks) (fun b o hb q => eb b o hb q) f0 f1 f3 f4 f5⟩
  self := fun A i s Q E st h => by
    obtain ⟨⟨_, he⟩, _⟩ := st
    exact wpAny_pyIter_enum he h
section
variable {F : Cx → Prop} {K : PySem.W.Frag} {e : Expr} {p pos : Pos} {r : FA}
def numL (ds : List D) : List D := ds.zipIdx.map fun q => D.tup [.int (q.2 : Nat), q.1]
def iEnumF : List D → Option (List D)
  | [.tup a] => some (numL a)
  | _ => none
theorem SI.enum {elts : List Expr} {kk : Nat} {tpos : Pos} (hK : ∀ X, F X → X.K = K) (hg : ∀ X, F X → Gl X "enumerate" ∧ X.mg "enumerate" = none) (hs : isStar e = false) (h : SA F K [e] r) :
    SI F K (.Tuple elts kk tpos) (.Call (.Name "enumerate" p) [e] [] pos) (iBind r iEnumF) := by
  obtain ⟨t, u, v⟩ := h
  refine ⟨fun σ H R => t σ H fun vs H1 => ∃ a xs, vs = [.ref a] ∧ SqT K H1 a xs ∧ R (IteT K a) H1, fun X hX => ⟨fun pins s σ H R I hw => ?_⟩, fun σ H δ ds R he hf hR => ?_⟩
  · have eK := hK X hX
    subst eK
    refine Call_ (ld_blt I (hg X hX).1 (hg X hX).2 boot_enumerate (PyProof.Rows.callWith_type1 (thn ((u X hX).run pos pins s σ H _ I hw) fun us s1 ⟨vs, H1, I1, r1, q1⟩ => ?_) (starEach_one hs _) rfl))
    obtain ⟨a, xs, ex, hq, q⟩ := q1
    subst ex
    cases r1 with
    | cons r2 rr =>
      cases rr
      cases r2
      obtain ⟨its, rv, p', hz⟩ := I1.tuple hq
      have hal : a < s1.heap.objs.size := by
        obtain ⟨o, ho, _⟩ := id p'
        exact Heap.lt_size ho
      refine call_enum_tup (show s1.heap.IsTuple a its.toArray from p') fun h' he hit hsz hk => wpAny_pyIter_enum he ?_
      have I2 : L2.Inv X pins σ H1 { s1 with heap := h' } := I1.kept (t' := s1.toks) hk
      refine ⟨s1.heap.objs.size + 1, [s1.heap.objs.size + 1, s1.heap.objs.size], _, _, H1, rfl, I2, turn_enT a (s1.heap.objs.size + 1) s1.heap.objs.size, ⟨⟨.none, he⟩, hit, Nat.succ_ne_self _, Nat.ne_of_lt hal⟩, fun b hb => ?_, q⟩
      have hle : s1.heap.objs.size ≤ b := by
        rcases (show b = s1.heap.objs.size + 1 ∨ b = s1.heap.objs.size by simpa using hb) with z | z
        · rw [z]; exact Nat.le_succ _
        · rw [z]; exact Nat.le_refl _
      exact I1.fpOk hle (I1.hok.fresh hle)
  · unfold iBind at hf
    rw [Option.bind_eq_some_iff] at hf
    obtain ⟨xs, e1, hf⟩ := hf
    unfold iEnumF at hf
    split at hf <;> cases hf
    rename_i da
    refine v σ H δ _ _ he e1 fun vs H1 s1 d1 => ?_
    obtain ⟨w, rfl, a, ys, rfl, q1, q2⟩ := d1.one
    refine ⟨a, ys, rfl, q1, hR _ H1 s1 fun i H2 hS => ⟨fun hi => ?_, fun hi => ?_⟩⟩
    · have hl : i < ys.length := by
        rw [q2.length]
        simpa [numL] using hi
      refine ⟨⟨ys, ys[i], seqT hS q1, by simp [hl]⟩, fun x H' y => ?_⟩
      obtain ⟨T, z, rfl, hT, rfl, hz⟩ := y
      obtain ⟨d, e3, e4⟩ := q2.back (hz _ (seqT hS q1))
      refine ⟨same_new hT, .tup [.int (i : Nat), d], ?_, den_tup hT (DenL.cons rfl (DenL.cons (e4.same hS) DenL.nil))⟩
      unfold numL
      rw [List.getElem?_map, List.getElem?_zipIdx, e3]
      simp
    · refine ⟨ys, seqT hS q1, ?_⟩
      rw [q2.length, hi]
      simp [numL]
end
end DV
end
section
set_option Elab.async false
set_option linter.all false
set_option maxRecDepth 100000
set_option maxHeartbeats 4000000
/-! DV: a chain of three comparisons as a test; targets change their own slots alone. -/
namespace DV
open PySem PySem.Spec PyProof.Rows L2 StX
def isSet : Expr → Bool
  | .Set .. => true
  | _ => false
theorem folded6 {iter : Expr} (h : isSet iter = false) (env : PySem.Env) (x : Value) : foldedSetIterable iter env x = Pure.pure x := by
  cases iter <;> first | rfl | exact absurd h (by simp [isSet])
section
variable {F : Cx → Prop} {K : PySem.W.Frag} {a b c e : Expr} {pos : Pos} {f g h l : DEnv → Option D}
def tChain3 (k1 k2 k3 : D → D → Option D) (f g h l : DEnv → Option D) : DEnv → Option Bool := fun δ => (f δ).bind fun x => (g δ).bind fun y => ((k1 x y).bind asB).bind fun t => if t = true then
  (h δ).bind fun z => ((k2 y z).bind asB).bind fun t2 => if t2 = true then (l δ).bind fun w => (k3 z w).bind asB else some false else some false
theorem ST.chain3 {o1 o2 o3 : CmpOp} {k1 k2 k3 : D → D → Option D} (h1 : OpS F K (compareOp o1) k1) (h2 : OpS F K (compareOp o2) k2) (h3 : OpS F K (compareOp o3) k3) (hm : lastMarks [o1, o2, o3] [b, c, e] = false)
    (ha : SE F K a f) (hb : SE F K b g) (hc : SE F K c h) (he : SE F K e l) : ST F K (.Compare a [o1, o2, o3] [b, c, e] pos) (tChain3 k1 k2 k3 f g h l) := by
  obtain ⟨ta, pa, qa⟩ := ha
  obtain ⟨tb, pb, qb⟩ := hb
  obtain ⟨tc, pc, qc⟩ := hc
  obtain ⟨te, pe, qe⟩ := he
  obtain ⟨r1, p1, q1⟩ := h1
  obtain ⟨r2, p2, q2⟩ := h2
  obtain ⟨r3, p3, q3⟩ := h3
  refine ⟨fun σ H Q => ta σ H fun x H1 => tb σ H1 fun y H2 => r1 x y H2 fun z H3 => ∃ k, z = .bl k ∧ (if k = true then tc σ H3 fun w H4 => r2 y w H4 fun z H5 => ∃ k, z = .bl k ∧ (if k = true then te σ H5 fun u H6 => r3 w u H6 fun z H7 => ∃ k, z = .bl k ∧ Q k H7 else Q false H5) else Q false H3),
    fun X hX => ⟨fun pins s σ H Q I hw => ?_⟩, fun σ H δ d Q hE hf hQ => ?_⟩
  · refine isTrue_chain (thn ((pa X hX).run pins s σ H _ I hw) fun v s1 ⟨x, H1, I1, rx, w1⟩ => test_link (thn ((pb X hX).run pins s1 σ H1 _ I1 w1) fun u s2 ⟨y, H2, I2, ry, w2⟩ =>
      thn (p1 X hX pins s2 σ H2 x y v u _ I2 rx ry w2) fun d s3 ⟨z, H3, I3, rz, k, ez, w3⟩ => ?_)) hm
    subst ez
    cases rz
    refine wpAny_truthy_bool ?_
    cases k with
    | false => exact ite_ff ⟨H3, I3, w3⟩
    | true =>
      refine ite_tt (test_link (thn ((pc X hX).run pins s3 σ H3 _ I3 w3) fun w s4 ⟨z, H4, I4, rw4, w4⟩ => thn (p2 X hX pins s4 σ H4 y z u w _ I4 ry rw4 w4) fun d s5 ⟨z5, H5, I5, r5, k5, e5, w5⟩ => ?_))
      subst e5
      cases r5
      refine wpAny_truthy_bool ?_
      cases k5 with
      | false => exact ite_ff ⟨H5, I5, w5⟩
      | true =>
        refine ite_tt (test_last (thn ((pe X hX).run pins s5 σ H5 _ I5 w5) fun w' s6 ⟨z6, H6, I6, r6, w6⟩ => thn (p3 X hX pins s6 σ H6 z z6 w w' _ I6 rw4 r6 w6) fun d s7 ⟨z7, H7, I7, r7, k7, e7, w7⟩ => ?_))
        subst e7
        cases r7
        exact wpAny_truthy_bool ⟨H7, I7, w7⟩
  · unfold tChain3 at hf
    rw [Option.bind_eq_some_iff] at hf
    obtain ⟨x, e1, hf⟩ := hf
    rw [Option.bind_eq_some_iff] at hf
    obtain ⟨y, e2, hf⟩ := hf
    rw [Option.bind_eq_some_iff] at hf
    obtain ⟨t, e3, hf⟩ := hf
    rw [Option.bind_eq_some_iff] at e3
    obtain ⟨z, e3, e4⟩ := e3
    rw [asB_some e4] at e3
    refine qa σ H δ x _ hE e1 fun v H1 s1 d1 => ?_
    refine qb σ H1 δ y _ (hE.same s1) e2 fun v2 H2 s2 d2 => ?_
    refine q1 _ _ _ _ _ _ _ (d1.same s2) d2 e3 fun v3 H3 s3 d3 => ⟨t, d3, ?_⟩
    have sA := s1.trans (s2.trans s3)
    cases t with
    | false =>
      rw [if_neg Bool.false_ne_true] at hf ⊢
      cases hf
      exact hQ H3 sA
    | true =>
      rw [if_pos rfl] at hf ⊢
      rw [Option.bind_eq_some_iff] at hf
      obtain ⟨z4, e5, hf⟩ := hf
      rw [Option.bind_eq_some_iff] at hf
      obtain ⟨t2, e6, hf⟩ := hf
      rw [Option.bind_eq_some_iff] at e6
      obtain ⟨z5, e6, e7⟩ := e6
      rw [asB_some e7] at e6
      refine qc σ H3 δ z4 _ (hE.same sA) e5 fun v4 H4 s4 d4 => ?_
      refine q2 _ _ _ _ _ _ _ (d2.same (s3.trans s4)) d4 e6 fun v5 H5 s5 d5 => ⟨t2, d5, ?_⟩
      have sB := sA.trans (s4.trans s5)
      cases t2 with
      | false =>
        rw [if_neg Bool.false_ne_true] at hf ⊢
        cases hf
        exact hQ H5 sB
      | true =>
        rw [if_pos rfl] at hf ⊢
        rw [Option.bind_eq_some_iff] at hf
        obtain ⟨w6, e8, hf⟩ := hf
        rw [Option.bind_eq_some_iff] at hf
        obtain ⟨z7, e9, e10⟩ := hf
        rw [asB_some e10] at e9
        refine qe σ H5 δ w6 _ (hE.same sB) e8 fun v6 H6 s6 d6 => ?_
        exact q3 _ _ _ _ _ _ _ (d4.same (s5.trans s6)) d6 e9 fun v7 H7 s7 d7 => ⟨d, d7, hQ H7 (sB.trans (s6.trans s7))⟩
theorem SE.lc2 {F' : Cx → Prop} {tg iter tg1 it1 elt : Expr} {ifs ifs1 : List Expr} {js js1 : List Nat} {scope : Scope} {own : List (Str × Nat)} {fi : FA} {fg fg1 : D → DEnv → Option DEnv} {ft ft1 : DEnv → Option Bool} {fs fe : DEnv → Option D}
    (hc : ∀ X, F X → X.calm = true ∧ X.K = K ∧ X.N.Nodup ∧ BlkOk X.N X.env.scope scope own) (hK' : ∀ X, F' X → X.K = K) (hi : SI F K tg iter fi)
    (hF : ∀ X, F X → ∀ (s : Shared) (H : Hp) (C : Addr) (cl : List (Str × Addr)) (fp : List Addr), F' (X.blk s H scope (compEnvC scope cl C X.env) fp))
    (hg : SG F' K tg js fg) (hgo : ∀ d δ δ', fg d δ = some δ' → ∀ i, i ∉ js → δ'[i]? = δ[i]?) (ht : STs F' K ifs ft) (hn : SN F' K js it1 fs) (hg1 : SG F' K tg1 js1 fg1) (ht1 : STs F' K ifs1 ft1) (he : SE F' K elt fe)
    (hj : ∀ i ∈ js, i ∈ own.map (·.2)) (hj1 : ∀ i ∈ js1, i ∈ own.map (·.2)) (hs : isSet iter = false) (hs1 : isSet it1 = false) :
    SE F K (.ListComp elt [⟨tg, iter, ifs, 0⟩, ⟨tg1, it1, ifs1, 0⟩] scope pos) (fComp2 js fi (own.map (·.2)) js1 fg ft fs fg1 ft1 fe) := by
  obtain ⟨wi, ui, vi⟩ := hi
  obtain ⟨g, ug, vg⟩ := hg
  obtain ⟨tt, ut, vt⟩ := ht
  obtain ⟨sel, us, vs0, vsn⟩ := hn
  obtain ⟨g1, ug1, vg1⟩ := hg1
  obtain ⟨tt1, ut1, vt1⟩ := ht1
  obtain ⟨te, ue, ve⟩ := he
  refine ⟨_, fun X hX => ?_, lc2_read vi vg hgo vt vs0 vsn vg1 vt1 ve hj (fun i h => h)⟩
  have pi1 : ∀ X', F' X' → PI X' tg1 it1 (fun σ H R => ∃ v, sel σ = some v ∧ ((∃ a, v = .ref a ∧ (∃ xs, SqL K H a xs) ∧ R (Itl K a) H) ∨ (∃ a, v = .ref a ∧ (∃ xs, SqT K H a xs) ∧ R (Itt K a) H))) := fun X' hX' => by
    have eK := hK' X' hX'
    subst eK
    refine ⟨fun pins s σ H R I h => ?_⟩
    obtain ⟨v, ev, q⟩ := h
    refine thn ((us X' hX').run pins s σ H (fun x H1 => x = v ∧ H1 = H) I ⟨v, ev, rfl, rfl⟩) fun w s1 ⟨x, H1, I1, r1, ex, eH⟩ => ?_
    subst ex eH
    rcases q with ⟨a, rfl, ⟨xs, hq⟩, q⟩ | ⟨a, rfl, ⟨xs, hq⟩, q⟩
    · cases r1
      exact it_list I1 hq q
    · cases r1
      exact it_tup I1 hq q
  exact pe_lc2 (hc X hX).1 (hc X hX).2.2.1 (ui X hX) (hc X hX).2.2.2 hj1 (fun s H C cl fp => ug _ (hF X hX s H C cl fp)) (fun s H C cl fp => ut _ (hF X hX s H C cl fp)) (fun s H C cl fp => pi1 _ (hF X hX s H C cl fp)) (fun s H C cl fp => ug1 _ (hF X hX s H C cl fp))
    (fun s H C cl fp => ut1 _ (hF X hX s H C cl fp)) (fun s H C cl fp => ue _ (hF X hX s H C cl fp)) (folded6 hs _) (fun env => folded6 hs1 env)
end
end DV
end
section
set_option Elab.async false
set_option linter.all false
set_option maxRecDepth 100000
set_option maxHeartbeats 4000000
/-! DV: comprehensions as values, statements. -/
namespace DV
open PySem PySem.Spec PyProof.Rows L2 StX

section
variable {F F' : Cx → Prop} {K : PySem.W.Frag} {e tg iter elt c : Expr} {es ifs : List Expr} {p pos : Pos} {r : FA} {js : List Nat} {st : Stmt} {sts : List Stmt}
theorem folded {iter : Expr} (h : isSet iter = false) (env : PySem.Env) (x : Value) : foldedSetIterable iter env x = Pure.pure x := folded6 h env x
theorem SE.lc {scope : Scope} {own : List (Str × Nat)} {fi : FA} {fg : D → DEnv → Option DEnv} {ft : DEnv → Option Bool} {fe : DEnv → Option D} (hc : ∀ X, F X → X.calm = true ∧ X.N.Nodup ∧ BlkOk X.N X.env.scope scope own) (hi : SI F K tg iter fi)
    (hF : ∀ X, F X → ∀ (s : Shared) (H : Hp) (C : Addr) (cl : List (Str × Addr)) (fp : List Addr), F' (X.blk s H scope (compEnvC scope cl C X.env) fp))
    (hg : SG F' K tg js fg) (ht : STs F' K ifs ft) (he : SE F' K elt fe) (hj : ∀ i ∈ js, i ∈ own.map (·.2)) (hs : isSet iter = false) : SE F K (.ListComp elt [⟨tg, iter, ifs, 0⟩] scope pos) (fComp fi (own.map (·.2)) fg ft fe) := by
  obtain ⟨wi, ui, vi⟩ := hi
  obtain ⟨g, ug, vg⟩ := hg
  obtain ⟨tt, ut, vt⟩ := ht
  obtain ⟨te, ue, ve⟩ := he
  exact ⟨tLc wi g tt te (own.map (·.2)), fun X hX => pe_lc (hc X hX).1 (hc X hX).2.1 (ui X hX) (hc X hX).2.2 (fun s H C cl fp => ug _ (hF X hX s H C cl fp)) (fun s H C cl fp => ut _ (hF X hX s H C cl fp)) (fun s H C cl fp => ue _ (hF X hX s H C cl fp)) (folded hs _),
    lc_read vi vg vt ve hj⟩
/-! ### statements -/
abbrev FS := DEnv → Option Out
def sRet (f : DEnv → Option D) : FS := fun δ => (f δ).bind fun d => some (.rt d)
def sRetN : FS := fun _ => some (.rt .non)
def sNil : FS := fun δ => some (.nx δ)
def sSeq (f g : FS) : FS := fun δ => (f δ).bind fun o => match o with
  | .nx δ' => g δ'
  | .rt d => some (.rt d)
def sIf (p : DEnv → Option Bool) (f g : FS) : FS := fun δ => (p δ).bind fun t => if t = true then f δ else g δ
def sSet (i : Nat) (f : DEnv → Option D) : FS := fun δ => (f δ).bind fun d => some (.nx (δ.set i (some d)))
def sAsg (f : DEnv → Option D) (g : D → DEnv → Option DEnv) : FS := fun δ => (f δ).bind fun d => (g d δ).bind fun δ' => some (.nx δ')
def sPar2 (i j : Nat) (r : FA) : FS := fun δ => (r δ).bind fun ds => match ds with
  | [d, e] => some (.nx ((δ.set i (some d)).set j (some e)))
  | _ => none
def sPar3 (i j l : Nat) (r : FA) : FS := fun δ => (r δ).bind fun ds => match ds with
  | [d, e, f] => some (.nx (((δ.set i (some d)).set j (some e)).set l (some f)))
  | _ => none
variable {f : DEnv → Option D} {g h : FS}
theorem SS.ret (he : SE F K e f) : SS F K (.Return (some e) pos) (sRet f) := by
  obtain ⟨t, u, v⟩ := he
  refine ⟨tRet t, fun X hX => ps_ret (u X hX), fun σ H δ o D he hf hQ => ?_⟩
  unfold sRet at hf
  rw [Option.bind_eq_some_iff] at hf
  obtain ⟨d, e1, hf⟩ := hf
  cases hf
  exact v σ H δ d _ he e1 fun w H1 s1 d1 => hQ w H1 s1 d1
theorem SS.retN : SS F K (.Return none pos) sRetN :=
  ⟨tRetN, fun X hX => ps_retN, fun σ H δ o D he hf hQ => by cases hf; exact hQ .non H (Same.refl H) rfl⟩
theorem SSs.nil : SSs F K [] sNil := ⟨tNext, fun _ _ => pss_nil, fun σ H δ o D he hf hQ => by cases hf; exact hQ σ H (Same.refl H) he⟩
theorem SSs.cons (h1 : SS F K st g) (h2 : SSs F K sts h) : SSs F K (st :: sts) (sSeq g h) := by
  obtain ⟨t, u, v⟩ := h1
  obtain ⟨t', u', v'⟩ := h2
  refine ⟨tSeq t t', fun X hX => pss_cons (u X hX) (u' X hX), fun σ H δ o D he hf hQ => ?_⟩
  unfold sSeq at hf
  rw [Option.bind_eq_some_iff] at hf
  obtain ⟨o1, e1, hf⟩ := hf
  refine v σ H δ o1 _ he e1 ?_
  cases o1 with
  | nx δ1 => exact fun σ1 H1 s1 he1 => v' σ1 H1 δ1 o D he1 hf (hQ.same s1)
  | rt d => cases hf; exact hQ
theorem SS.ite {a b : List Stmt} {q : DEnv → Option Bool} (hc : ST F K c q) (ha : SSs F K a g) (hb : SSs F K b h) : SS F K (.If c a b pos) (sIf q g h) := by
  obtain ⟨tc, uc, vc⟩ := hc
  obtain ⟨ta, ua, va⟩ := ha
  obtain ⟨tb, ub, vb⟩ := hb
  refine ⟨tIfS tc ta tb, fun X hX => ps_if (uc X hX) (ua X hX) (ub X hX), fun σ H δ o D he hf hQ => ?_⟩
  unfold sIf at hf
  rw [Option.bind_eq_some_iff] at hf
  obtain ⟨t, e1, hf⟩ := hf
  refine vc σ H δ t _ he e1 fun H1 s1 => ?_
  cases t with
  | true =>
    rw [if_pos rfl] at hf ⊢
    exact va σ H1 δ o D (he.same s1) hf (hQ.same s1)
  | false =>
    rw [if_neg Bool.false_ne_true] at hf ⊢
    exact vb σ H1 δ o D (he.same s1) hf (hQ.same s1)
def isComp : Expr → Bool
  | .ListComp .. => true
  | .SetComp .. => true
  | .DictComp .. => true
  | _ => false
theorem swaps_no {e : Expr} (h : isComp e = false) (t : Option Expr) (l : Nat) (env : PySem.Env) : swapsWith e t l env = Pure.pure false := by
  cases e <;> first | rfl | exact absurd h (by simp [isComp])
/-- the place of a name that may be stored -/
structure Place (X : Cx) (i : Nat) (x : Str) : Prop where
  nd : X.N.Nodup
  at_ : X.N[i]? = some x
  loc : Loc X.env.scope x
  ok : X.fn x = true ∨ X.env.scope.names.lookup x = some .local
theorem swaps_cell {e : Expr} {x : Str} {p : Pos} {l : Nat} {env : PySem.Env} (h : env.scope.names.lookup x = some .cell) : swapsWith e (some (.Name x p)) l env = Pure.pure false := by
  have hk : (env.kindOf x == some NameKind.local) = false := by
    show (env.scope.names.lookup x == some NameKind.local) = false
    rw [h]
    rfl
  cases e <;> first
    | rfl
    | (unfold swapsWith
       simp only [hk, Bool.and_false, Bool.false_and])
theorem SS.set {i : Nat} {x : Str} {p : Pos} (hN : ∀ X, F X → Place X i x) (hn : ∀ X, F X → swapsWith e (some (.Name x p)) pos.line X.env = Pure.pure false) (he : SE F K e f) : SS F K (.Assign [.Name x p] e pos) (sSet i f) := by
  obtain ⟨t, u, v⟩ := he
  refine ⟨tAsg t (gName i), fun X hX => ps_set (hN X hX).nd (hN X hX).at_ (hN X hX).loc (u X hX) (hn X hX) (hN X hX).ok, fun σ H δ o D he hf hQ => ?_⟩
  unfold sSet at hf
  rw [Option.bind_eq_some_iff] at hf
  obtain ⟨d, e1, hf⟩ := hf
  cases hf
  exact v σ H δ d _ he e1 fun w H1 s1 d1 => hQ _ H1 s1 ((he.same s1).set i d1)
theorem SS.setLc {i : Nat} {x : Str} {p : Pos} {scope : Scope} {own : List (Str × Nat)} {spos : Pos} {fi : FA} {fg : D → DEnv → Option DEnv} {ft : DEnv → Option Bool} {fe : DEnv → Option D} (hN : ∀ X, F X → Place X i x) (hl : ∀ X, F X → X.env.scope.kind = .function ∧ X.env.scope.names.lookup x = some .local)
    (hp : (p.line == pos.line) = true) (ha : (scope.names.any fun (n, k) => n == x && (k == .local || k == .cell)) = false)
    (hc : ∀ X, F X → X.calm = true ∧ X.N.Nodup ∧ BlkOk X.N X.env.scope scope own) (hi : SI F K tg iter fi)
    (hF : ∀ X, F X → ∀ (s : Shared) (H : Hp) (C : Addr) (cl : List (Str × Addr)) (fp : List Addr), F' (X.blk s H scope (compEnvC scope cl C X.env) fp))
    (hg : SG F' K tg js fg) (ht : STs F' K ifs ft) (he : SE F' K elt fe) (hj : ∀ i ∈ js, i ∈ own.map (·.2)) (hs : isSet iter = false) : SS F K (.Assign [.Name x p] (.ListComp elt [⟨tg, iter, ifs, 0⟩] scope pos) spos) (sSet i (fComp fi (own.map (·.2)) fg ft fe)) := by
  obtain ⟨wi, ui, vi⟩ := hi
  obtain ⟨gg, ug, vg⟩ := hg
  obtain ⟨tt, ut, vt⟩ := ht
  obtain ⟨te, ue, ve⟩ := he
  refine ⟨tAsg (tLc wi gg tt te (own.map (·.2))) (gName i), fun X hX => ps_setLc (hc X hX).1 (hN X hX).nd (hN X hX).at_ (hl X hX).2 (sw_true (hl X hX).1 (hl X hX).2 hp ha) (ui X hX) (hc X hX).2.2 (fun s H C cl fp => ug _ (hF X hX s H C cl fp)) (fun s H C cl fp => ut _ (hF X hX s H C cl fp)) (fun s H C cl fp => ue _ (hF X hX s H C cl fp)) (folded hs _),
    fun σ H δ o D he hf hQ => ?_⟩
  unfold sSet at hf
  rw [Option.bind_eq_some_iff] at hf
  obtain ⟨d, e1, hf⟩ := hf
  cases hf
  exact lc_read vi vg vt ve hj σ H δ d _ he e1 fun w H1 s1 d1 => hQ _ H1 s1 ((he.same s1).set i d1)
/-! ### tuples of targets -/
def isTuple : Expr → Bool
  | .Tuple .. => true
  | _ => false
/-- what the model decides of (t1, t2, ..) = (v1, v2, ..) -/
def swp (sc : Scope) (ts vs : List Expr) : Option (Option (List Str)) :=
  if !(ts.length == 2 || ts.length == 3) || vs.length != ts.length then some none
  else if vs.any isStar then some none
  else
    let line := (ts.head?.map (·.pos.line)).getD 0
    let names := ts.filterMap fun
      | .Name id pos => if sc.names.lookup id == some .local && pos.line == line then some id else none
      | _ => none
    if names.length != ts.length || names.eraseDups.length != names.length then some none
    else if vs.all (foldedForSure 8) then some none
    else if vs.all (constantsAlone 8) then none
    else some (some names)
theorem swp_ok {env : PySem.Env} {sc : Scope} (hs : env.scope = sc) (hk : sc.kind = .function) {ts vs : List Expr} {k k2 : Nat} {p p2 : Pos} {o : Option (List Str)} (h : swp sc ts vs = some o) : swappedStores [.Tuple ts k p] (.Tuple vs k2 p2) env = Pure.pure o := by
  subst hs
  have hb : env.blockKind = .function := by unfold PySem.Env.blockKind; rw [hk]; rfl
  have hst : (vs.any fun | .Starred .. => true | _ => false) = vs.any isStar := rfl
  unfold swappedStores
  unfold swp at h
  simp only [hb]
  split at h
  · rename_i h1
    cases h
    have : (!(ts.length == 2 || ts.length == 3) || vs.length != ts.length || (ScopeKind.function != ScopeKind.function)) = true := by
      rw [h1]; rfl
    simp only [this, if_true]
  · rename_i h1
    have : (!(ts.length == 2 || ts.length == 3) || vs.length != ts.length || (ScopeKind.function != ScopeKind.function)) = false := by
      rw [Bool.eq_false_iff.mpr h1]; rfl
    simp only [this, Bool.false_eq_true, if_false]
    split at h
    · rename_i h2
      cases h
      exact if_pos h2
    · rename_i h2
      refine (if_neg h2).trans ?_
      dsimp only at h
      split at h
      · rename_i h3
        cases h
        exact if_pos h3
      · rename_i h3
        refine (if_neg h3).trans ?_
        split at h
        · rename_i h4
          cases h
          exact if_pos h4
        · rename_i h4
          refine (if_neg h4).trans ?_
          split at h
          · cases h
          · rename_i h5
            cases h
            exact if_neg h5
theorem swaps_sole {ts : List Expr} {k : Nat} {p : Pos} (e : Expr) (l : Nat) (env : PySem.Env) : swapsWithSole [.Tuple ts k p] e l env = Pure.pure false := by
  cases e <;> rfl
theorem sole_map {t : Expr} (h : isStar t = false) (env : PySem.Env) : (assignEach [t] env).map (·.2) = [assign t env] := by
  rw [assign_cons h]
  rfl
theorem swapped_no {ts : List Expr} {k : Nat} {p : Pos} {e : Expr} (h : isTuple e = false) (env : PySem.Env) : swappedStores [.Tuple ts k p] e env = Pure.pure none := by
  cases e <;> first | rfl | exact absurd h (by simp [isTuple])
theorem SS.asg {ts : List Expr} {k : Nat} {p : Pos} {gg : D → DEnv → Option DEnv} (hw : ∀ X, F X → swappedStores [.Tuple ts k p] e X.env = Pure.pure none) (he : SE F K e f) (hg : SG F K (.Tuple ts k p) js gg) : SS F K (.Assign [.Tuple ts k p] e pos) (sAsg f gg) := by
  obtain ⟨t, u, v⟩ := he
  obtain ⟨t', u', v'⟩ := hg
  refine ⟨tAsg t t', fun X hX => ps_asg (u X hX) (u' X hX) (swaps_sole _ _ _) (hw X hX) (sole_map rfl _), fun σ H δ o D he hf hQ => ?_⟩
  unfold sAsg at hf
  rw [Option.bind_eq_some_iff] at hf
  obtain ⟨d, e1, hf⟩ := hf
  rw [Option.bind_eq_some_iff] at hf
  obtain ⟨δ1, e2, hf⟩ := hf
  cases hf
  exact v σ H δ d _ he e1 fun w H1 s1 d1 => v' σ H1 δ δ1 d w _ (he.same s1) d1 e2 fun σ1 he1 _ => hQ σ1 H1 s1 he1
theorem SS.par2 {i j : Nat} {x y : Str} {a b : Expr} {px py pt : Pos} {kt k2 : Nat} {pt2 : Pos} (hc : ∀ X, F X → X.calm = true) (hi : ∀ X, F X → Place X i x ∧ X.env.scope.names.lookup x = some .local) (hj : ∀ X, F X → Place X j y ∧ X.env.scope.names.lookup y = some .local) (hij : i ≠ j)
    (hw : ∀ X, F X → swappedStores [.Tuple [.Name x px, .Name y py] kt pt] (.Tuple [a, b] k2 pt2) X.env = Pure.pure (some [x, y])) (ha : SA F K [a, b] r) :
    SS F K (.Assign [.Tuple [.Name x px, .Name y py] kt pt] (.Tuple [a, b] k2 pt2) pos) (sPar2 i j r) := by
  obtain ⟨t, u, v⟩ := ha
  refine ⟨tPar i j t, fun X hX => ps_par (hc X hX) (hi X hX).1.nd (hi X hX).1.at_ (hj X hX).1.at_ hij (hi X hX).2 (hj X hX).2 (u X hX) (hw X hX) (swaps_sole _ _ _), fun σ H δ o D he hf hQ => ?_⟩
  unfold sPar2 at hf
  rw [Option.bind_eq_some_iff] at hf
  obtain ⟨ds, e1, hf⟩ := hf
  split at hf <;> cases hf
  refine v σ H δ _ _ he e1 fun vs H1 s1 d1 => ?_
  obtain ⟨w, w', rfl, d, d'⟩ := d1.two
  exact ⟨w, w', rfl, hQ _ H1 s1 (((he.same s1).set i d).set j d')⟩
theorem SS.par3 {i j l : Nat} {x y z : Str} {a b c : Expr} {px py pz pt : Pos} {kt k2 : Nat} {pt2 : Pos} (hc : ∀ X, F X → X.calm = true) (hi : ∀ X, F X → Place X i x ∧ X.env.scope.names.lookup x = some .local) (hj : ∀ X, F X → Place X j y ∧ X.env.scope.names.lookup y = some .local)
    (hl : ∀ X, F X → Place X l z ∧ X.env.scope.names.lookup z = some .local) (hij : i ≠ j) (hil : i ≠ l) (hjl : j ≠ l)
    (hw : ∀ X, F X → swappedStores [.Tuple [.Name x px, .Name y py, .Name z pz] kt pt] (.Tuple [a, b, c] k2 pt2) X.env = Pure.pure (some [x, y, z])) (ha : SA F K [a, b, c] r) :
    SS F K (.Assign [.Tuple [.Name x px, .Name y py, .Name z pz] kt pt] (.Tuple [a, b, c] k2 pt2) pos) (sPar3 i j l r) := by
  obtain ⟨t, u, v⟩ := ha
  refine ⟨tPar3 i j l t, fun X hX => ps_par3 (hc X hX) (hi X hX).1.nd (hi X hX).1.at_ (hj X hX).1.at_ (hl X hX).1.at_ hij hil hjl (hi X hX).2 (hj X hX).2 (hl X hX).2 (u X hX) (hw X hX) (swaps_sole _ _ _), fun σ H δ o D he hf hQ => ?_⟩
  unfold sPar3 at hf
  rw [Option.bind_eq_some_iff] at hf
  obtain ⟨ds, e1, hf⟩ := hf
  split at hf <;> cases hf
  refine v σ H δ _ _ he e1 fun vs H1 s1 d1 => ?_
  obtain ⟨w, w', w'', rfl, d, d', d''⟩ := d1.three
  exact ⟨w, w', w'', rfl, hQ _ H1 s1 ((((he.same s1).set i d).set j d').set l d'')⟩
/-- name *= e -/
def sMul (i : Nat) (f : DEnv → Option D) : FS := fun δ => (fVar i δ).bind fun x => (f δ).bind fun y => (intC mulOk (fun i j => .int (i * j)) x y).bind fun z => some (.nx (δ.set i (some z)))
theorem SS.mul {i : Nat} {x : Str} {p : Pos} (hN : ∀ X, F X → Place X i x) (he : SE F K e f) : SS F K (.AugAssign (.Name x p) .Mult e pos) (sMul i f) := by
  obtain ⟨t, u, v⟩ := he
  refine ⟨tAug i t (rI CMul fun i j => .int (i * j)), fun X hX => ps_aug (hN X hX).nd (hN X hX).at_ (hN X hX).loc (u X hX) iop_mul (hN X hX).ok, fun σ H δ o D he hf hQ => ?_⟩
  unfold sMul at hf
  rw [Option.bind_eq_some_iff] at hf
  obtain ⟨d, e0, hf⟩ := hf
  rw [Option.bind_eq_some_iff] at hf
  obtain ⟨d2, e1, hf⟩ := hf
  rw [Option.bind_eq_some_iff] at hf
  obtain ⟨d3, e2, hf⟩ := hf
  cases hf
  obtain ⟨a, b, rfl, rfl, hm, rfl⟩ := intC_some e2
  have e0' : δ[i]? = some (some (.int a)) := by
    unfold fVar at e0
    cases q : δ[i]? with
    | none => rw [q] at e0; cases e0
    | some o => rw [q] at e0; rw [show o = some (.int a) from e0]
  obtain ⟨w, e3, d3⟩ := he.2 i _ e0'
  cases d3
  refine ⟨_, e3, v σ H δ _ _ he e1 fun w H1 s1 d1 => ?_⟩
  cases d1
  exact ⟨a, b, rfl, rfl, mulOk_ok _ _ hm, hQ _ H1 s1 ((he.same s1).set i (d := .int (a * b)) (v := .int (a * b)) rfl)⟩
/-! ### loops -/
def forD (g : D → DEnv → Option DEnv) (b : FS) : List D → FS
  | [], δ => some (.nx δ)
  | d :: ds, δ => (g d δ).bind fun δ1 => (b δ1).bind fun o => match o with
    | .nx δ2 => forD g b ds δ2
    | .rt z => some (.rt z)
def sFor (fi : FA) (g : D → DEnv → Option DEnv) (b : FS) : FS := fun δ => (fi δ).bind fun ds => forD g b ds δ
def whileD (t : DEnv → Option Bool) (b : FS) : Nat → FS
  | 0, _ => none
  | n + 1, δ => (t δ).bind fun c => if c = true then (b δ).bind fun o => match o with
      | .nx δ1 => whileD t b n δ1
      | .rt z => some (.rt z)
    else some (.nx δ)
theorem SS.for {fi : FA} {gg : D → DEnv → Option DEnv} {body : List Stmt} (hc : ∀ X, F X → X.calm = true ∧ PassesOwn (model X.prog X.w) X.A X.env X.xe) (hs : isSet iter = false) (hi : SI F K tg iter fi) (hg : SG F K tg js gg) (hb : SSs F K body g) :
    SS F K (.For tg iter body [] pos) (sFor fi gg g) := by
  obtain ⟨wi, ui, vi⟩ := hi
  obtain ⟨tg', ug, vg⟩ := hg
  obtain ⟨tb, ub, vb⟩ := hb
  refine ⟨tFor wi tg' tb, fun X hX => ps_for (hc X hX).2 (hc X hX).1 (ui X hX) (ug X hX) (ub X hX) (folded hs _), fun σ H δ o D he hf hQ => ?_⟩
  unfold sFor at hf
  rw [Option.bind_eq_some_iff] at hf
  obtain ⟨ds, e1, hf⟩ := hf
  refine vi σ H δ ds _ he e1 fun J H1 s1 wk => ?_
  refine ⟨fun i m σ' H' => m = ds.length - i ∧ i ≤ ds.length ∧ Same H1 H' ∧ ∃ δ', EnvD K H' σ' δ' ∧ forD gg g (ds.drop i) δ' = some o, ⟨ds.length, by simp, Nat.zero_le _, Same.refl _, δ, he.same s1, hf⟩, ?_⟩
  rintro i m σ' H' ⟨rfl, hi, s2, δ', he', hf'⟩
  by_cases hlt : i < ds.length
  · obtain ⟨go, yl⟩ := (wk i H' s2).1 hlt
    refine .inr ⟨go, fun σ3 H3 => Same H1 H3 ∧ ∃ δ', EnvD K H3 σ3 δ' ∧ forD gg g (ds.drop (i + 1)) δ' = some o, fun σ3 H3 h => ⟨ds.length - (i + 1), by omega, rfl, hlt, h⟩, fun x H3 y => ?_⟩
    obtain ⟨s3, d, ed, dd⟩ := yl x H3 y
    have hdrop : ds.drop i = d :: ds.drop (i + 1) := by
      rw [List.drop_eq_getElem_cons hlt]
      have : ds[i]? = some ds[i] := by simp [hlt]
      rw [ed] at this
      cases this
      rfl
    rw [hdrop] at hf'
    unfold forD at hf'
    rw [Option.bind_eq_some_iff] at hf'
    obtain ⟨δ1, e2, hf'⟩ := hf'
    rw [Option.bind_eq_some_iff] at hf'
    obtain ⟨o1, e3, hf'⟩ := hf'
    refine vg σ' H3 δ' δ1 d x _ (he'.same s3) dd e2 fun σ4 he4 _ => ?_
    refine vb σ4 H3 δ1 o1 _ he4 e3 ?_
    cases o1 with
    | nx δ2 => exact fun σ5 H5 s5 he5 => ⟨s2.trans (s3.trans s5), δ2, he5, hf'⟩
    | rt z =>
      cases hf'
      exact fun v H5 s5 d5 => hQ v H5 (s1.trans (s2.trans (s3.trans s5))) d5
  · have ei : i = ds.length := by omega
    subst ei
    rw [List.drop_length] at hf'
    cases hf'
    exact .inl ⟨(wk _ H' s2).2 rfl, hQ σ' H' (s1.trans s2) he'⟩
theorem SS.while {q : DEnv → Option Bool} {body : List Stmt} {n : Nat} (hc : ∀ X, F X → PassesOwn (model X.prog X.w) X.A X.env X.xe) (ht : ST F K c q) (hb : SSs F K body g) : SS F K (.While c body [] pos) (whileD q g n) := by
  obtain ⟨tt, ut, vt⟩ := ht
  obtain ⟨tb, ub, vb⟩ := hb
  refine ⟨tWhile tt tb, fun X hX => ps_while (hc X hX) (ut X hX) (ub X hX), fun σ H δ o D he hf hQ => ?_⟩
  refine ⟨fun m σ' H' => Same H H' ∧ ∃ δ', EnvD K H' σ' δ' ∧ whileD q g m δ' = some o, ⟨n, Same.refl _, δ, he, hf⟩, ?_⟩
  rintro m σ' H' ⟨s1, δ', he', hf'⟩
  cases m with
  | zero => cases hf'
  | succ m =>
    unfold whileD at hf'
    rw [Option.bind_eq_some_iff] at hf'
    obtain ⟨b, e1, hf'⟩ := hf'
    refine vt σ' H' δ' b _ he' e1 fun H2 s2 => ?_
    cases b with
    | true =>
      rw [if_pos rfl] at hf' ⊢
      rw [Option.bind_eq_some_iff] at hf'
      obtain ⟨o1, e2, hf'⟩ := hf'
      refine ⟨fun σ3 H3 => Same H H3 ∧ ∃ δ', EnvD K H3 σ3 δ' ∧ whileD q g m δ' = some o, fun σ3 H3 h => ⟨m, Nat.lt_succ_self _, h⟩, ?_⟩
      refine vb σ' H2 δ' o1 _ (he'.same s2) e2 ?_
      cases o1 with
      | nx δ2 => exact fun σ5 H5 s5 he5 => ⟨s1.trans (s2.trans s5), δ2, he5, hf'⟩
      | rt z =>
        cases hf'
        exact fun v H5 s5 d5 => hQ v H5 (s1.trans (s2.trans s5)) d5
    | false =>
      rw [if_neg Bool.false_ne_true] at hf' ⊢
      cases hf'
      exact hQ σ' H2 (s1.trans s2) (he'.same s2)
end
end DV
end
section
set_option Elab.async false
set_option linter.all false
set_option maxRecDepth 100000
set_option maxHeartbeats 4000000
/-! DV: instances with slots: read, told by isinstance, made, compared. -/
namespace DV
open PySem PySem.Spec PyProof.Rows L2 StX
section
variable {F : Cx → Prop} {K : PySem.W.Frag} {X : Cx} {e : Expr} {es : List Expr} {p pos : Pos} {r : FA}
theorem PE.or {t t' : TE} (h : PE X e t) (h' : PE X e t') : PE X e (fun σ H Q => t σ H Q ∨ t' σ H Q) :=
  ⟨fun pins s σ H Q I q => q.elim (h.run pins s σ H Q I) (h'.run pins s σ H Q I)⟩
theorem CallR.or {f : Value} {r r' : List V → Hp → VK → Prop} (h : CallR X f r) (h' : CallR X f r') : CallR X f (fun xs H Q => r xs H Q ∨ r' xs H Q) :=
  fun pins s σ H xs us Q I rv q => q.elim (h pins s σ H xs us Q I rv) (h' pins s σ H xs us Q I rv)
/-- not a call by a bare name without arguments -/
def isCall0 : Expr → Bool
  | .Call (.Name _ _) [] [] _ => true
  | _ => false
theorem base_plain {f : Str} {env : PySem.Env} {w : Sem Value} (h : isCall0 e = false) : attributeBase e f env w = w := by
  unfold attributeBase
  split
  · exact absurd h (by simp [isCall0])
  · rfl
abbrev SlTab := List (Str × Addr × Nat)
abbrev PrTab := List (Str × Addr × (List D → Option D))
def slotIx (tb : SlTab) (f : Str) (C : Addr) : Option Nat := (tb.find? fun q => decide (q.1 = f) && decide (q.2.1 = C)).map (·.2.2)
theorem slotIx_ok {tb : SlTab} {f : Str} {C : Addr} {i : Nat} (h : slotIx tb f C = some i) : (f, C, i) ∈ tb := by
  unfold slotIx at h
  rw [Option.map_eq_some_iff] at h
  obtain ⟨q, e1, e2⟩ := h
  have h1 := List.mem_of_find?_eq_some e1
  have h2 := List.find?_some e1
  simp only [Bool.and_eq_true, decide_eq_true_eq] at h2
  obtain ⟨a, b, c⟩ := q
  simp only at h2 e2
  rw [← h2.1, ← h2.2, ← e2]
  exact h1
def fSlot (tb : SlTab) (f : Str) : D → Option D
  | .ob C ds => (slotIx tb f C).bind fun i => ds[i]?
  | .pt C _ _ ds => (slotIx tb f C).bind fun i => ds[i]?
  | _ => none
def fProp (C : Addr) (m : List D → Option D) : D → Option D
  | .ob C' ds => if C' = C then m [.ob C' ds] else none
  | _ => none
def fAttr (tb : SlTab) (f : Str) (g : DEnv → Option D) : DEnv → Option D := fun δ => (g δ).bind (fSlot tb f)
def fAttrP (tb : SlTab) (f : Str) (C : Addr) (m : List D → Option D) (g : DEnv → Option D) : DEnv → Option D := fun δ => (g δ).bind fun x => (fSlot tb f x).or (fProp C m x)
theorem slot_read {tb : SlTab} {f : Str} {x d : D} {H : Hp} {v : V} {Q : VK} (hs : ∀ q ∈ tb, SlX.SCls K q.2.1 ∧ ∃ p, SlX.Slot1 K q.2.1 q.1 p q.2.2) (hx : Den K H x v) (hd : fSlot tb f x = some d) (hQ : ∀ w, Den K H d w → Q w H) :
    ∃ a C dx p vs i w, v = .ref a ∧ SlX.Slt H a C dx vs ∧ SlX.SCls K C ∧ SlX.Slot1 K C f p i ∧ vs[i]? = some (some w) ∧ Q w H := by
  cases x with
  | ob C ds =>
    have hd : (slotIx tb f C).bind (fun i => ds[i]?) = some d := hd
    rw [Option.bind_eq_some_iff] at hd
    obtain ⟨i, e1, e2⟩ := hd
    obtain ⟨a, dx, vs, rfl, h1, h2⟩ := hx
    obtain ⟨w, e3, d3⟩ := h2.get e2
    obtain ⟨c1, p, c2⟩ := hs _ (slotIx_ok e1)
    exact ⟨a, C, dx, p, vs.map some, i, w, rfl, h1, c1, c2, by rw [List.getElem?_map, e3]; rfl, hQ w d3⟩
  | pt C a dx ds =>
    have hd : (slotIx tb f C).bind (fun i => ds[i]?) = some d := hd
    rw [Option.bind_eq_some_iff] at hd
    obtain ⟨i, e1, e2⟩ := hd
    obtain ⟨vs, rfl, h1, h2⟩ := hx
    obtain ⟨w, e3, d3⟩ := h2.get e2
    obtain ⟨c1, p, c2⟩ := hs _ (slotIx_ok e1)
    exact ⟨a, C, dx, p, vs.map some, i, w, rfl, h1, c1, c2, by rw [List.getElem?_map, e3]; rfl, hQ w d3⟩
  | _ => cases hd
theorem SE.attr {f : Str} {tb : SlTab} {g : DEnv → Option D} (hK : ∀ X, F X → X.K = K) (hs : ∀ q ∈ tb, SlX.SCls K q.2.1 ∧ ∃ p, SlX.Slot1 K q.2.1 q.1 p q.2.2) (hb : isCall0 e = false) (he : SE F K e g) : SE F K (.Attribute e f pos) (fAttr tb f g) := by
  obtain ⟨t, u, v⟩ := he
  refine ⟨SlX.tSl K t f, fun X hX => ?_, fun σ H δ d Q he hf hQ => ?_⟩
  · rw [← hK X hX]
    exact SlX.pe_sl (u X hX) (base_plain hb)
  · unfold fAttr at hf
    rw [Option.bind_eq_some_iff] at hf
    obtain ⟨x, e1, e2⟩ := hf
    exact v σ H δ x _ he e1 fun w H1 s1 d1 => slot_read hs d1 e2 fun z dz => hQ z H1 s1 dz
theorem SE.attrP {f : Str} {tb : SlTab} {g : DEnv → Option D} {C pa ga : Addr} {n : Nat} {m : List D → Option D} (hK : ∀ X, F X → X.K = K) (hs : ∀ q ∈ tb, SlX.SCls K q.2.1 ∧ ∃ p, SlX.Slot1 K q.2.1 q.1 p q.2.2) (hb : isCall0 e = false)
    (c : SlX.SCls K C) (at_ : PySem.W.findIn K (.ref C) f = some (some (.ref pa))) (get : PySem.W.specialIn K (.ref pa) "__get__" = some (some (.builtin "property.__get__")))
    (tk : PySem.W.takesIn K (.ref pa) = some true) (rc : ∃ rest, PySem.W.recIn K pa "property" = some (.ref ga :: rest)) (hf : ∀ X, F X → FnR X.prog X.w X.K X.mg X.base CX0 n ga (spD K 1 m) ∧ Room (n + 1) X.A)
    (he : SE F K e g) : SE F K (.Attribute e f pos) (fAttrP tb f C m g) := by
  obtain ⟨t, u, v⟩ := he
  refine ⟨fun σ H Q => SlX.tSl K t f σ H Q ∨ SlX.tPropSl C (spD K 1 m) E0 t σ H Q, fun X hX => ?_, fun σ H δ d Q he hf hQ => ?_⟩
  · have e := hK X hX
    subst e
    exact PE.or (SlX.pe_sl (u X hX) (base_plain hb)) (SlX.pe_propSl (u X hX) c at_ get tk rc (hf X hX).1 (hf X hX).2 (fun _ _ _ _ h => h) (base_plain hb))
  · unfold fAttrP at hf
    rw [Option.bind_eq_some_iff] at hf
    obtain ⟨x, e1, e2⟩ := hf
    cases q : fSlot tb f x with
    | some y =>
      rw [q] at e2
      cases e2
      exact .inl (v σ H δ x _ he e1 fun w H1 s1 d1 => slot_read hs d1 q fun z dz => hQ z H1 s1 dz)
    | none =>
      rw [q] at e2
      have e2 : fProp C m x = some d := e2
      cases x with
      | ob C' ds =>
        have e9 : (if C' = C then m [.ob C' ds] else none) = some d := e2
        split at e9
        · rename_i ec
          subst ec
          refine .inr (v σ H δ _ _ he e1 fun w H1 s1 d1 => ?_)
          obtain ⟨a, dx, vs, rfl, h1, h2⟩ := id d1
          exact ⟨a, dx, _, rfl, h1, [.ob C' ds], d, rfl, ⟨_, _, rfl, d1, rfl⟩, e9, fun z H2 s2 d2 => hQ z H2 (s1.trans s2) d2⟩
        · cases e9
      | _ => cases e2
/-! ### isinstance of an own class -/
def isOwn (C : Addr) : D → Option Bool
  | .ob C' _ => if C' = C then some true else none
  | .tup _ => some false
  | _ => none
theorem SE.isiO {y : Str} {C : Addr} {g : DEnv → Option D} {p2 : Pos} (hK : ∀ X, F X → X.K = K) (hg : ∀ X, F X → Gl X "isinstance" ∧ X.mg "isinstance" = none) (hy : ∀ X, F X → Gl X y ∧ X.mg y = some (.ref C)) (hdb : (y == ("__debug__" : Str)) = false)
    (c : SlX.SCls K C) (ci : SlX.SIsi K C) (k1 : PySem.W.kitOne K (.ref C) (.ref C) = some true) (k2 : PySem.W.kitOne K (.type "tuple") (.ref C) = some false)
    (hs : isStar e = false) (he : SE F K e g) : SE F K (.Call (.Name "isinstance" p) [e, .Name y p2] [] pos) (fIsi (isOwn C) g) := by
  obtain ⟨t, u, v⟩ := he
  refine ⟨tCB (fun xs H Q => rIsi K xs H Q ∨ SlX.rIsiSl K (.ref C) xs H Q) (tCons t (tCons (tC (.ref C)) tNil)), fun X hX => ?_, fun σ H δ z Q he hf hQ => ?_⟩
  · rw [← hK X hX]
    exact pe_callB (CallR.or call_isi (SlX.call_isiSl (.ref C))) (hg X hX).1 (hg X hX).2 (by decide +kernel) (pa_cons (u X hX) (pa_cons (pe_glob (hy X hX).1 (hy X hX).2 (v := .ref C) rfl hdb) pa_nil (star_cons rfl _ _)) (star_cons hs _ _)) (by decide) (by decide) (star_cons hs _ _) (star_none (by rfl))
  · unfold fIsi at hf
    rw [Option.bind_eq_some_iff] at hf
    obtain ⟨x, e1, hf⟩ := hf
    rw [Option.bind_eq_some_iff] at hf
    obtain ⟨b, e2, hf⟩ := hf
    cases hf
    refine v σ H δ x _ he e1 fun w H1 s1 d1 => ?_
    cases x with
    | ob C' ds =>
      replace e2 : (if C' = C then some true else none) = some b := e2
      split at e2
      · rename_i ec
        subst ec
        cases e2
        obtain ⟨a, dx, vs, rfl, h1, h2⟩ := d1
        exact .inr ⟨a, C', dx, _, .ref C', true, rfl, rfl, fun w h => h, h1, c, ci, k1, hQ _ H1 s1 rfl⟩
      · cases e2
    | tup ds =>
      cases e2
      exact .inl ⟨w, .ref C, .type "tuple", .ref C, false, rfl, .own C, den_tyT d1, k2, hQ _ H1 s1 rfl⟩
    | _ => cases e2
/-! ### made -/
/-- the promise of an __init__ that stores: from data to the slots' data -/
def spI (K : PySem.W.Frag) (C : Addr) (n : Nat) (m : List D → Option (List D)) : Sp := fun vs H Q _ => ∃ (x dx : Addr) (H1 : Hp) (us : List V) (ds fs : List D), vs = .ref x :: us ∧ us.length = n ∧ H1 x = none ∧ H1 dx = none ∧ dx ≠ x ∧ H = upd (upd H1 dx (.own x)) x (.ins C dx []) ∧ DenL K H1 ds us ∧ m ds = some fs ∧
  ∀ H' ws, Same H1 H' → SlX.Slt H' x C dx (ws.map some) → DenL K H' fs ws → Q .non H'
def fMake (C : Addr) (r : FA) (m : List D → Option (List D)) : DEnv → Option D := fun δ => (r δ).bind fun ds => (m ds).bind fun fs => some (.ob C fs)
theorem SE.make {x : Str} {C : Addr} {m : List D → Option (List D)} {n : Nat} (hd : ∃ (k : Nat) (f : Addr) (fd : FuncData) (ps : List Str), ps.length = n + 1 ∧
      ∀ X, F X → Mk X.K C f ∧ Gl X x ∧ X.mg x = some (.ref C) ∧ Binds X.K fd ps [] ∧ Room (k + 1) X.A ∧ FnOk X.prog X.w X.K X.mg X.base CX0 k f fd ps (spI K C n m))
    (hdb : (x == ("__debug__" : Str)) = false) (hs : noStar (e :: es) = true) (hm : ∀ ds d, m ds = some d → ds.length = n) (ha : SA F K (e :: es) r) : SE F K (.Call (.Name x p) (e :: es) [] pos) (fMake C r m) := by
  obtain ⟨t, u, v⟩ := ha
  obtain ⟨k, f, fd, ps, hp, h⟩ := hd
  have hs' : isStar e = false ∧ noStar es = true := by simpa [noStar] using hs
  refine ⟨tMake C (spI K C n m) [] E0 t, fun X hX => ?_, fun σ H δ z Q he hf hQ => ?_⟩
  · obtain ⟨h1, h2, h3, h4, h5, h6⟩ := h X hX
    exact pe_make h1 h6 h5 h2 h3 h4 .nil pass0 (u X hX) hdb (star_cons hs'.1 _ _) (star_none hs'.2)
  · unfold fMake at hf
    rw [Option.bind_eq_some_iff] at hf
    obtain ⟨ds, e1, hf⟩ := hf
    rw [Option.bind_eq_some_iff] at hf
    obtain ⟨fs, e2, hf⟩ := hf
    cases hf
    refine v σ H δ ds _ he e1 fun vs H1 s1 d1 => fun y dy hy hdy hne => ?_
    refine ⟨y, dy, H1, vs, ds, fs, by rw [List.append_nil], by rw [d1.length, hm ds fs e2], hy, hdy, hne, rfl, d1, e2, fun H2 ws s2 sl dw => ⟨rfl, ?_⟩⟩
    exact hQ _ H2 (s1.trans s2) ⟨y, dy, ws, rfl, sl, dw⟩
/-! ### compared -/
abbrev EqTab := Option (Addr × (List D → Option D))
def eqOb (C : Addr) (m : List D → Option D) : D → D → Option D
  | .ob C1 ds, .ob C2 es => if C1 = C ∧ C2 = C then m [.ob C1 ds, .ob C2 es] else none
  | _, _ => none
theorem opS_eqOb {C ga : Addr} {n : Nat} {m : List D → Option D} (hK : ∀ X, F X → X.K = K) (hs : PySem.W.findIn K (.ref C) (cmpInfo .Eq).2.1 = some (some (.ref ga))) (hf : PySem.W.isFn K (.ref ga) = true) (hn : PySem.W.notFirst K C (.ref C) = true)
    (hx : ∀ X, F X → FnR X.prog X.w X.K X.mg X.base CX0 n ga (spD K 2 m) ∧ Room n X.A) : OpS F K (compareOp .Eq) (eqOb C m) := by
  refine ⟨SlX.rOwn K C (spD K 2 m) E0, fun X hX => ?_, fun x y d e z H Q hx hy hz hQ => ?_⟩
  · have e := hK X hX
    subst e
    exact SlX.op_own (fun _ _ => rfl) hs hf (hx X hX).1 (hx X hX).2 pass0
  · unfold eqOb at hz
    split at hz
    · rename_i C1 ds C2 es
      split at hz
      · rename_i hc
        obtain ⟨rfl, rfl⟩ := hc
        obtain ⟨a, dx, vs, rfl, h1, h2⟩ := id hx
        obtain ⟨b, dy, ws, rfl, h3, h4⟩ := id hy
        exact ⟨a, dx, _, b, C2, dy, _, rfl, rfl, h1, h3, hn, [_, _], z, rfl, ⟨_, _, rfl, hx, ⟨_, _, rfl, hy, rfl⟩⟩, hz, hQ⟩
      · cases hz
    · cases hz
/-! ### a call for its own sake -/
def sDrop (f : DEnv → Option D) : FS := fun δ => (f δ).bind fun _ => some (.nx δ)
theorem swaps_none {e : Expr} {l : Nat} {env : PySem.Env} (h : isComp e = false) : swapsWith e Option.none l env = Pure.pure false := by
  cases e <;> first | rfl | exact absurd h (by simp [isComp])
theorem SS.drop {f : DEnv → Option D} (hn : isComp e = false) (he : SE F K e f) : SS F K (.Expr e pos) (sDrop f) := by
  obtain ⟨t, u, v⟩ := he
  refine ⟨tDrop t, fun X hX => ps_expr (u X hX) (swaps_none hn), fun σ H δ o D he hf hQ => ?_⟩
  unfold sDrop at hf
  rw [Option.bind_eq_some_iff] at hf
  obtain ⟨d, e1, hf⟩ := hf
  cases hf
  exact v σ H δ d _ he e1 fun w H1 s1 d1 => hQ σ H1 s1 (he.same s1)
end
end DV
end
section
set_option Elab.async false
set_option linter.all false
set_option maxRecDepth 100000
set_option maxHeartbeats 4000000
/-! DV: from a written expression or statement to its function of data; soundness by induction. -/
namespace DV
open PySem PySem.Spec PyProof.Rows L2 StX

structure Tab where
  consts : List (Str × D)
  fns : List (Str × Nat × (List D → Option D))
  cls : List (Str × Addr) := []
  slots : SlTab := []
  prop : PrTab := []
  makes : List (Str × Nat × Addr × (List D → Option (List D))) := []
  eq : EqTab := none
def bltNames : List Str := ["abs", "max", "min", "len", "tuple", "int", "all", "any", "isinstance", "bool", "range", "zip", "enumerate"]
structure TabOk (c : Ctx) (T : Tab) : Prop where
  nd : c.N.Nodup
  const : ∀ x d, T.consts.lookup x = some d → ∃ v u, c.mg x = some u ∧ RelV v u ∧ ∀ H, Den c.K H d v
  fn : ∀ x n m, T.fns.lookup x = some (n, m) → (∀ ds d, m ds = some d → ds.length = n) ∧ ∃ (k : Nat) (f : Addr) (fd : FuncData) (ps : List Str), ps.length = n ∧ k ≤ c.kk ∧ c.mg x = some (.ref f) ∧ PySem.W.keepIn c.K (.ref f) = true ∧ Binds c.K fd ps [] ∧ FnOk c.P c.w c.K c.mg c.base CX0 k f fd ps (spD c.K n m)
  blt : ∀ x, x ∈ bltNames → c.mg x = none
  gcd : c.mg "gcd" = some (.builtin "math.gcd")
  sqrt : c.mg "isqrt" = some (.builtin "math.isqrt")
  cls : ∀ y C, T.cls.lookup y = some C → c.mg y = some (.ref C) ∧ SlX.SCls c.K C ∧ SlX.SIsi c.K C ∧ PySem.W.kitOne c.K (.ref C) (.ref C) = some true ∧ PySem.W.kitOne c.K (.type "tuple") (.ref C) = some false
  slot : ∀ q ∈ T.slots, SlX.SCls c.K q.2.1 ∧ ∃ p, SlX.Slot1 c.K q.2.1 q.1 p q.2.2
  prop : ∀ f C m, T.prop.lookup f = some (C, m) → SlX.SCls c.K C ∧ ∃ (pa ga : Addr) (n : Nat), PySem.W.findIn c.K (.ref C) f = some (some (.ref pa)) ∧ PySem.W.specialIn c.K (.ref pa) "__get__" = some (some (.builtin "property.__get__")) ∧ PySem.W.takesIn c.K (.ref pa) = some true ∧
    (∃ rest, PySem.W.recIn c.K pa "property" = some (.ref ga :: rest)) ∧ n + 1 ≤ c.kk ∧ FnR c.P c.w c.K c.mg c.base CX0 n ga (spD c.K 1 m)
  make : ∀ x n C m, T.makes.lookup x = some (n, C, m) → (∀ ds d, m ds = some d → ds.length = n) ∧ ∃ (k : Nat) (f : Addr) (fd : FuncData) (ps : List Str), ps.length = n + 1 ∧ k + 1 ≤ c.kk ∧ Mk c.K C f ∧ c.mg x = some (.ref C) ∧ Binds c.K fd ps [] ∧ FnOk c.P c.w c.K c.mg c.base CX0 k f fd ps (spI c.K C n m)
  eq : ∀ C m, T.eq = some (C, m) → ∃ (ga : Addr) (n : Nat), PySem.W.findIn c.K (.ref C) (cmpInfo .Eq).2.1 = some (some (.ref ga)) ∧ PySem.W.isFn c.K (.ref ga) = true ∧ PySem.W.notFirst c.K C (.ref C) = true ∧ n ≤ c.kk ∧ FnR c.P c.w c.K c.mg c.base CX0 n ga (spD c.K 2 m)

def okName (x : Str) : Bool := !(x == ("__debug__" : Str)) && !(x == ("__classdict__" : Str)) && !(x == ("__name__" : Str))
theorem okName_ok {x : Str} (h : okName x = true) : (x == ("__debug__" : Str)) = false ∧ (x == ("__classdict__" : Str)) = false ∧ x ≠ "__name__" := by
  unfold okName at h
  simp only [Bool.and_eq_true, Bool.not_eq_true'] at h
  exact ⟨h.1.1, h.1.2, fun e => by subst e; exact absurd h.2 (by decide)⟩
def idx (N : List Str) (x : Str) : Option Nat := N.findIdx? (· == x)
theorem idx_ok {N : List Str} {x : Str} {i : Nat} (h : idx N x = some i) : N[i]? = some x := by
  unfold idx at h
  rw [List.findIdx?_eq_some_iff_getElem] at h
  obtain ⟨h1, h2, _⟩ := h
  rw [List.getElem?_eq_getElem h1]
  exact congrArg some (by simpa using h2)

def bltOf (x : Str) : Option (List D → Option D) :=
  if x = "abs" then some absF
  else if x = "max" then some fun ds => (max2F ds).or (max3F ds)
  else if x = "min" then some min2F
  else if x = "len" then some lenF
  else if x = "tuple" then some tupF
  else if x = "int" then some intF
  else if x = "all" then some allF
  else if x = "any" then some anyF
  else if x = "gcd" then some gcdF
  else if x = "isqrt" then some sqrtF
  else none
def isiOf (y : Str) : Option (D → Option Bool) :=
  if y = "int" then some isInt else if y = "bool" then some isBool else if y = "tuple" then some isTup else none

def isVar : Option NameKind → Bool
  | some .local => true
  | some .cell => true
  | some .free => true
  | _ => false
def isStore (top : Bool) : Option NameKind → Bool
  | some .local => true
  | some .cell => top
  | _ => false
def ownOf (N : List Str) (scope : Scope) : List (Str × Nat) := scope.names.filterMap fun y => match y.2 with
  | .local => (idx N y.1).map fun i => (y.1, i)
  | .cell => (idx N y.1).map fun i => (y.1, i)
  | _ => none
/-- the isTrue of these is by their value -/
def plainT : Expr → Bool
  | .Name .. => true
  | .Call .. => true
  | .Constant .. => true
  | .Subscript .. => true
  | _ => false

section
variable (T : Tab) (N : List Str)
def cName (sc : Scope) (x : Str) : DEnv → Option D :=
  if okName x = true then
    if isVar (sc.names.lookup x) = true then (match idx N x with
      | some i => fVar i
      | none => bad)
    else if sc.names.lookup x = some .globalImplicit then (match T.consts.lookup x with
      | some d => fConst d
      | none => bad)
    else bad
  else bad
def slots : Nat → Expr → List Nat
  | 0, _ => []
  | n + 1, .Name x _ => (match idx N x with | some i => [i] | none => [])
  | n + 1, .Tuple es _ _ => slotsL n es
  | _, _ => []
where slotsL : Nat → List Expr → List Nat
  | 0, _ => []
  | _, [] => []
  | n + 1, e :: es => slots n e ++ slotsL n es
mutual
def cG (sc : Scope) (top : Bool) : Nat → Expr → D → DEnv → Option DEnv
  | 0, _ => fun _ => bad
  | n + 1, .Name x _ => if isStore top (sc.names.lookup x) = true then (match idx N x with
      | some i => gVar i
      | none => fun _ => bad) else fun _ => bad
  | n + 1, .Tuple es _ _ => if noStar es = true then gTupD fun ds δ => if ds.length = es.length then cGs sc top n es ds δ else none else fun _ => bad
  | _, _ => fun _ => bad
def cGs (sc : Scope) (top : Bool) : Nat → List Expr → List D → DEnv → Option DEnv
  | 0, _ => fun _ => bad
  | _ + 1, [] => gNone
  | n + 1, e :: es => if isStar e = false then gMore (cG sc top n e) (cGs sc top n es) else fun _ => bad
end
def cN (sc : Scope) (js : List Nat) : Expr → DEnv → Option D
  | .Name x _ => if okName x = true then
      if isVar (sc.names.lookup x) = true then (match idx N x with
        | some i => if js.contains i = false then fVar i else bad
        | none => bad)
      else if sc.names.lookup x = some .globalImplicit then (match T.consts.lookup x with
        | some d => fConst d
        | none => bad)
      else bad
    else bad
  | _ => bad
mutual
def cE (sc : Scope) : Nat → Expr → DEnv → Option D
  | 0, _ => bad
  | n + 1, .Name x _ => cName T N sc x
  | n + 1, .Constant (.int i) _ _ => fConst (.int i)
  | n + 1, .Constant (.bool i) _ _ => fConst (.bl i)
  | n + 1, .Constant .none _ _ => fConst .non
  | n + 1, .BinOp a op b _ => f2 (binD op) (cE sc n a) (cE sc n b)
  | n + 1, .UnaryOp .Not a _ => fNot (cE sc n a)
  | n + 1, .UnaryOp .USub a _ => fNeg (cE sc n a)
  | n + 1, .BoolOp op vs _ => cB sc n op vs
  | n + 1, .Compare a [op] [b] _ => if behindInMarks op b = false then (match T.eq, op with
      | some (C, m), .Eq => f2 (fun d e => (cmpD .Eq d e).or (eqOb C m d e)) (cE sc n a) (cE sc n b)
      | _, op => f2 (cmpD op) (cE sc n a) (cE sc n b)) else bad
  | n + 1, .Attribute e f _ => if isCall0 e = false then (match T.prop.lookup f with
      | some (C, m) => fAttrP T.slots f C m (cE sc n e)
      | none => fAttr T.slots f (cE sc n e)) else bad
  | n + 1, .Compare a [op, op'] [b, c] _ => if lastMarks [op, op'] [b, c] = false then fChain (cmpD op) (cmpD op') (cE sc n a) (cE sc n b) (cE sc n c) else bad
  | n + 1, .IfExp c a b _ => fIf (cT sc n c) (cE sc n a) (cE sc n b)
  | n + 1, .Tuple es _ _ => fTup (cA sc n es)
  | n + 1, .List es _ => fLst (cA sc n es)
  | n + 1, .Subscript a b _ => if isSlice b = false then f2 ixD (cE sc n a) (cE sc n b) else bad
  | n + 1, .Call (.Name x _) (e :: es) [] _ =>
    if noStar (e :: es) = true ∧ okName x = true ∧ sc.names.lookup x = some .globalImplicit then
      if x = "isinstance" then (match es with
        | [.Name y _] => if okName y = true ∧ sc.names.lookup y = some .globalImplicit then (match isiOf y with
            | some g => fIsi g (cE sc n e)
            | none => match T.cls.lookup y with
              | some C => fIsi (isOwn C) (cE sc n e)
              | none => bad) else bad
        | _ => bad)
      else match T.fns.lookup x with
        | some (k, m) => if (e :: es).length = k then fCall (cA sc n (e :: es)) m else bad
        | none => match T.makes.lookup x with
          | some (k, C, m) => if (e :: es).length = k then fMake C (cA sc n (e :: es)) m else bad
          | none => match bltOf x with
            | some g => fCall (cA sc n (e :: es)) g
            | none => bad
    else bad
  | n + 1, .Call (.Name x _) [] [] _ =>
    if okName x = true ∧ sc.names.lookup x = some .globalImplicit then (match T.fns.lookup x with
        | some (k, m) => if k = 0 then fCall aNil m else bad
        | none => bad)
    else bad
  | n + 1, .ListComp elt [⟨tg, iter, ifs, 0⟩] scope _ =>
    if blkC N sc scope (ownOf N scope) = true ∧ isSet iter = false ∧ (slots N n tg).all (fun i => ((ownOf N scope).map (·.2)).contains i) = true then
      fComp (cI sc n tg iter) ((ownOf N scope).map (·.2)) (cG N (relS scope sc) false n tg) (cTs (relS scope sc) n ifs) (cE (relS scope sc) n elt)
    else bad
  | n + 1, .ListComp elt [⟨tg, iter, ifs, 0⟩, ⟨tg1, it1, ifs1, 0⟩] scope _ =>
    if blkC N sc scope (ownOf N scope) = true ∧ isSet iter = false ∧ isSet it1 = false ∧ (slots N n tg).all (fun i => ((ownOf N scope).map (·.2)).contains i) = true ∧ (slots N n tg1).all (fun i => ((ownOf N scope).map (·.2)).contains i) = true then
      fComp2 (slots N n tg) (cI sc n tg iter) ((ownOf N scope).map (·.2)) (slots N n tg1) (cG N (relS scope sc) false n tg) (cTs (relS scope sc) n ifs) (cN T N (relS scope sc) (slots N n tg) it1) (cG N (relS scope sc) false n tg1) (cTs (relS scope sc) n ifs1) (cE (relS scope sc) n elt)
    else bad
  | _, _ => bad
def cA (sc : Scope) : Nat → List Expr → FA
  | 0, _ => bad
  | _ + 1, [] => aNil
  | n + 1, .Starred e _ :: es => aStar (cE sc n e) (cA sc n es)
  | n + 1, e :: es => if isStar e = false then aCons (cE sc n e) (cA sc n es) else bad
def cT (sc : Scope) : Nat → Expr → DEnv → Option Bool
  | 0, _ => bad
  | n + 1, .BoolOp op vs _ => cW sc n op vs
  | n + 1, .UnaryOp .Not a _ => tNot1 (cT sc n a)
  | n + 1, .Compare a [op] [b] _ => if behindInMarks op b = false then fun δ => (f2 (cmpD op) (cE sc n a) (cE sc n b) δ).bind asB else bad
  | n + 1, .Compare a [op, op'] [b, c] _ => if lastMarks [op, op'] [b, c] = false then fun δ => (fChain (cmpD op) (cmpD op') (cE sc n a) (cE sc n b) (cE sc n c) δ).bind asB else bad
  | n + 1, .Compare a [o1, o2, o3] [b, c, d] _ => if lastMarks [o1, o2, o3] [b, c, d] = false then tChain3 (cmpD o1) (cmpD o2) (cmpD o3) (cE sc n a) (cE sc n b) (cE sc n c) (cE sc n d) else bad
  | n + 1, e => if plainT e = true then fun δ => (cE sc n e δ).bind asB else bad
def cW (sc : Scope) : Nat → BoolOp → List Expr → DEnv → Option Bool
  | 0, _, _ => bad
  | n + 1, _, [a] => cT sc n a
  | n + 1, .And, a :: b :: rest => tAnd2 (cT sc n a) (cW sc n .And (b :: rest))
  | n + 1, .Or, a :: b :: rest => tOr2 (cT sc n a) (cW sc n .Or (b :: rest))
  | _, _, _ => bad
def cB (sc : Scope) : Nat → BoolOp → List Expr → DEnv → Option D
  | 0, _, _ => bad
  | n + 1, _, [a] => cE sc n a
  | n + 1, .And, a :: b :: rest => fAnd (cE sc n a) (cB sc n .And (b :: rest))
  | n + 1, .Or, a :: b :: rest => fOr (cE sc n a) (cB sc n .Or (b :: rest))
  | _, _, _ => bad
def cTs (sc : Scope) : Nat → List Expr → DEnv → Option Bool
  | _, [] => tTrue
  | n + 1, [c] => cT sc n c
  | _, _ => bad
def cI (sc : Scope) : Nat → Expr → Expr → FA
  | 0, _, _ => bad
  | n + 1, tg, .Call (.Name x p) args kw pos =>
    if (x = "range" ∨ x = "zip" ∨ x = "enumerate") ∧ kw.isEmpty = true then
      if noStar args = true ∧ sc.names.lookup x = some .globalImplicit then
        if x = "range" then (match args with
          | [_] => iBind (cA sc n args) iRange1
          | [_, _] => iBind (cA sc n args) iRange2
          | _ => bad)
        else if x = "zip" ∧ isTuple tg = true then (match args with
          | [_, _] => iBind (cA sc n args) iZipF
          | _ => bad)
        else if x = "enumerate" ∧ isTuple tg = true then (match args with
          | [_] => iBind (cA sc n args) iEnumF
          | _ => bad)
        else bad
      else bad
    else iSeq (cE sc n (.Call (.Name x p) args kw pos))
  | n + 1, _, iter => iSeq (cE sc n iter)
end
def fuelW : Nat := 200
def cPar (sc : Scope) (n : Nat) (ns : List Str) (ts vs : List Expr) : FS := match ts, vs with
  | [.Name x _, .Name y _], [_, _] => if ns = [x, y] ∧ sc.names.lookup x = some .local ∧ sc.names.lookup y = some .local then (match idx N x, idx N y with
      | some i, some j => if i ≠ j then sPar2 i j (cA T N sc n vs) else bad
      | _, _ => bad) else bad
  | [.Name x _, .Name y _, .Name z _], [_, _, _] => if ns = [x, y, z] ∧ sc.names.lookup x = some .local ∧ sc.names.lookup y = some .local ∧ sc.names.lookup z = some .local then (match idx N x, idx N y, idx N z with
      | some i, some j, some l => if i ≠ j ∧ i ≠ l ∧ j ≠ l then sPar3 i j l (cA T N sc n vs) else bad
      | _, _, _ => bad) else bad
  | _, _ => bad
mutual
def cS (sc : Scope) : Nat → Stmt → FS
  | 0, _ => bad
  | n + 1, .Return (some e) _ => sRet (cE T N sc n e)
  | n + 1, .Return none _ => sRetN
  | n + 1, .If c a b _ => sIf (cT T N sc n c) (cSs sc n a) (cSs sc n b)
  | n + 1, .Assign [.Name x p] (.ListComp elt [⟨tg, iter, ifs, 0⟩] scope pos) _ =>
    if sc.kind = .function ∧ blkC N sc scope (ownOf N scope) = true ∧ isSet iter = false ∧ (slots N n tg).all (fun i => ((ownOf N scope).map (·.2)).contains i) = true then
      (match idx N x with
      | some i => if sc.names.lookup x = some .local ∧ (p.line == pos.line) = true ∧ (scope.names.any fun (n, k) => n == x && (k == .local || k == .cell)) = false then
          sSet i (fComp (cI T N sc n tg iter) ((ownOf N scope).map (·.2)) (cG N (relS scope sc) false n tg) (cTs T N (relS scope sc) n ifs) (cE T N (relS scope sc) n elt)) else bad
      | none => bad)
    else bad
  | n + 1, .Assign [.Name x _] e _ => if (isComp e = false ∨ sc.names.lookup x = some .cell) ∧ isStore true (sc.names.lookup x) = true then (match idx N x with
      | some i => sSet i (cE T N sc n e)
      | none => bad) else bad
  | n + 1, .Assign [.Tuple ts kt pt] (.Tuple vs q r) _ =>
    if sc.kind = .function then (match swp sc ts vs with
      | some none => sAsg (cE T N sc n (.Tuple vs q r)) (cG N sc true n (.Tuple ts kt pt))
      | some (some ns) => cPar T N sc n ns ts vs
      | none => bad)
    else bad
  | n + 1, .Assign [.Tuple ts q r] e _ => if isTuple e = false then sAsg (cE T N sc n e) (cG N sc true n (.Tuple ts q r)) else bad
  | n + 1, .AugAssign (.Name x _) .Mult e _ => if isStore true (sc.names.lookup x) = true then (match idx N x with
      | some i => sMul i (cE T N sc n e)
      | none => bad) else bad
  | n + 1, .For tg iter body [] _ => if isSet iter = false then sFor (cI T N sc n tg iter) (cG N sc true n tg) (cSs sc n body) else bad
  | n + 1, .Expr e _ => if isComp e = false then sDrop (cE T N sc n e) else bad
  | n + 1, .While c body [] _ => whileD (cT T N sc n c) (cSs sc n body) fuelW
  | _, _ => bad
def cSs (sc : Scope) : Nat → List Stmt → FS
  | 0, _ => bad
  | _ + 1, [] => sNil
  | n + 1, st :: sts => sSeq (cS sc n st) (cSs sc n sts)
end
end
end DV
end
section
set_option Elab.async false
set_option linter.all false
set_option maxRecDepth 100000
set_option maxHeartbeats 4000000
/-! DV: soundness of the compiled functions. -/
namespace DV
open PySem PySem.Spec PyProof.Rows L2 StX
section
variable {c : Ctx} {T : Tab}
theorem fam_vis {sc : Scope} {top : Bool} {X : Cx} {x : Str} (h : Fam c sc top X) (hv : isVar (sc.names.lookup x) = true) : Vis X.env.scope x := by
  unfold Vis
  rw [h.sc]
  cases q : sc.names.lookup x with
  | none => rw [q] at hv; cases hv
  | some k =>
    rw [q] at hv
    cases k with
    | «local» => exact .inl rfl
    | cell => exact .inr (.inl rfl)
    | free => exact .inr (.inr rfl)
    | _ => cases hv
theorem fam_gl {sc : Scope} {top : Bool} {X : Cx} {x : Str} (h : Fam c sc top X) (hv : sc.names.lookup x = some .globalImplicit) : Gl X x := by
  show X.env.scope.names.lookup x = _
  rw [h.sc]; exact hv
theorem fam_at {sc : Scope} {top : Bool} {X : Cx} {x : Str} {i : Nat} (h : Fam c sc top X) (hi : idx c.N x = some i) : X.N[i]? = some x := by
  rw [h.N]; exact idx_ok hi
theorem fam_store {sc : Scope} {top : Bool} {X : Cx} {x : Str} (h : Fam c sc top X) (hv : isStore top (sc.names.lookup x) = true) : L2.Loc X.env.scope x ∧ (X.fn x = true ∨ X.env.scope.names.lookup x = some .local) := by
  unfold L2.Loc
  rw [h.sc]
  cases q : sc.names.lookup x with
  | none => rw [q] at hv; cases hv
  | some k =>
    rw [q] at hv
    cases k with
    | «local» => exact ⟨.inl rfl, .inr rfl⟩
    | cell => exact ⟨.inr rfl, .inl (h.fn hv x)⟩
    | _ => cases hv
theorem fam_place (ok : TabOk c T) {sc : Scope} {top : Bool} {X : Cx} {x : Str} {i : Nat} (h : Fam c sc top X) (hi : idx c.N x = some i) (hv : isStore top (sc.names.lookup x) = true) : Place X i x :=
  ⟨by rw [h.N]; exact ok.nd, fam_at h hi, (fam_store h hv).1, (fam_store h hv).2⟩
theorem sound_name (ok : TabOk c T) (sc : Scope) (top : Bool) (x : Str) (pos : Pos) : SE (Fam c sc top) c.K (.Name x pos) (cName T c.N sc x) := by
  unfold cName
  split
  · rename_i h0
    obtain ⟨h1, h2, h3⟩ := okName_ok h0
    split
    · rename_i hv
      split
      · rename_i i hi
        exact SE.var (fun X hX => ⟨fam_at hX hi, fam_vis hX hv⟩) h1 h2
      · exact SE.bad
    · split
      · rename_i hg
        split
        · rename_i d hd
          obtain ⟨v, u, e1, e2, e3⟩ := ok.const x d hd
          exact SE.glob (fun X hX => ⟨fam_gl hX hg, by rw [hX.mg]; exact e1⟩) e2 e3 h1
        · exact SE.bad
      · exact SE.bad
  · exact SE.bad
/-! ### targets -/
theorem sound_g (ok : TabOk c T) (sc : Scope) (top : Bool) : ∀ n : Nat, (∀ e, SG (Fam c sc top) c.K e (slots c.N n e) (cG c.N sc top n e)) ∧ (∀ es, SGs (Fam c sc top) c.K es (slots.slotsL c.N n es) (cGs c.N sc top n es))
  | 0 => ⟨fun e => SG.bad, fun es => SGs.bad⟩
  | n + 1 => by
    obtain ⟨ih1, ih2⟩ := sound_g ok sc top n
    refine ⟨fun e => ?_, fun es => ?_⟩
    · unfold cG
      split
      · rename_i h; cases h
      · rename_i n' x pos h
        cases h
        unfold slots
        cases hi : idx c.N x with
        | some i =>
          dsimp only
          split
          · rename_i hv
            exact SG.name fun X hX => let p := fam_place ok hX hi hv; ⟨p.nd, p.at_, p.loc, p.ok⟩
          · exact SG.bad
        | none =>
          dsimp only
          split <;> exact SG.bad
      · rename_i n' es k pos h
        cases h
        unfold slots
        split
        · rename_i hs
          exact SG.tup (fun X hX => ⟨hX.calm, hX.K⟩) hs (ih2 es)
        · exact SG.bad
      · exact SG.bad
    · unfold cGs
      split
      · rename_i h; cases h
      · unfold slots.slotsL
        exact SGs.nil
      · rename_i n' e es h
        cases h
        unfold slots.slotsL
        split
        · rename_i hs
          exact SGs.cons hs (ih1 e) (ih2 es)
        · exact SGs.bad
/-! ### expressions -/
theorem isi_ok {y : Str} {g : D → Option Bool} (h : isiOf y = some g) : y ∈ bltNames ∧ ∃ Ty : String, bootBuiltins y = some (.type Ty) ∧ ∀ {K : PySem.W.Frag} {x : D} {b : Bool} {H : Hp} {v : V}, g x = some b → Den K H x v → ∃ t, TyX K H v t ∧ PySem.W.kitOne K t (.type Ty) = some b := by
  unfold isiOf at h
  split at h
  · rename_i e; subst e; cases h
    exact ⟨by decide, "int", by decide +kernel, kit_int⟩
  · split at h
    · rename_i e; subst e; cases h
      exact ⟨by decide, "bool", by decide +kernel, kit_bool⟩
    · split at h
      · rename_i e; subst e; cases h
        exact ⟨by decide, "tuple", by decide +kernel, kit_tup⟩
      · cases h
theorem sound_blt (ok : TabOk c T) (sc : Scope) (top : Bool) {x : Str} {g : List D → Option D} (hx : bltOf x = some g) (h0 : okName x = true) (hg : sc.names.lookup x = some .globalImplicit) {e : Expr} {es : List Expr} {r : FA} {p pos : Pos}
    (hs : noStar (e :: es) = true) (ha : SA (Fam c sc top) c.K (e :: es) r) : SE (Fam c sc top) c.K (.Call (.Name x p) (e :: es) [] pos) (fCall r g) := by
  obtain ⟨h1, h2, h3⟩ := okName_ok h0
  have hK : ∀ X, Fam c sc top X → X.K = c.K := fun X hX => hX.K
  have hc : ∀ X, Fam c sc top X → X.calm = true := fun X hX => hX.calm
  have gb : x ∈ bltNames → ∀ X, Fam c sc top X → Gl X x ∧ X.mg x = none := fun hm X hX => ⟨fam_gl hX hg, by rw [hX.mg]; exact ok.blt x hm⟩
  unfold bltOf at hx
  split at hx
  · rename_i e; subst e; cases hx
    exact SE.callB callS_abs (gb (by decide)) (by decide +kernel) h3 h1 hs ha
  split at hx
  · rename_i e; subst e; cases hx
    exact SE.callB (callS_max hc) (gb (by decide)) (by decide +kernel) h3 h1 hs ha
  split at hx
  · rename_i e; subst e; cases hx
    exact SE.callB (callS_min hc) (gb (by decide)) (by decide +kernel) h3 h1 hs ha
  split at hx
  · rename_i e; subst e; cases hx
    exact SE.callB (callS_len hK) (gb (by decide)) (by decide +kernel) h3 h1 hs ha
  split at hx
  · rename_i e; subst e; cases hx
    exact SE.callT (callS_tup hK) (gb (by decide)) (by decide +kernel) h3 h1 hs ha
  split at hx
  · rename_i e; subst e; cases hx
    exact SE.callT callS_int (gb (by decide)) (by decide +kernel) h3 h1 hs ha
  split at hx
  · rename_i e; subst e; cases hx
    exact SE.callB (callS_all hK hc) (gb (by decide)) (by decide +kernel) h3 h1 hs ha
  split at hx
  · rename_i e; subst e; cases hx
    exact SE.callB (callS_any hK hc) (gb (by decide)) (by decide +kernel) h3 h1 hs ha
  split at hx
  · rename_i e; subst e; cases hx
    exact SE.callM callS_gcd (fun X hX => ⟨fam_gl hX hg, by rw [hX.mg]; exact ok.gcd⟩) h1 hs ha
  split at hx
  · rename_i e; subst e; cases hx
    exact SE.callM callS_sqrt (fun X hX => ⟨fam_gl hX hg, by rw [hX.mg]; exact ok.sqrt⟩) h1 hs ha
  · cases hx
theorem own_ok {scope : Scope} {sc : Scope} {top : Bool} {X : Cx} {own : List (Str × Nat)} (hX : Fam c sc top X) (h : blkC c.N sc scope own = true) : BlkOk X.N X.env.scope scope own := by
  rw [hX.N, hX.sc]
  exact blkOk_by h
structure Sound (c : Ctx) (T : Tab) (n : Nat) : Prop where
  e : ∀ sc top e, SE (Fam c sc top) c.K e (cE T c.N sc n e)
  a : ∀ sc top es, SA (Fam c sc top) c.K es (cA T c.N sc n es)
  t : ∀ sc top e, ST (Fam c sc top) c.K e (cT T c.N sc n e)
  w : ∀ sc top op vs pos, SW (Fam c sc top) c.K (.BoolOp op vs pos) (cW T c.N sc n op vs)
  b : ∀ sc top op vs pos, SE (Fam c sc top) c.K (.BoolOp op vs pos) (cB T c.N sc n op vs)
  ts : ∀ sc top es, STs (Fam c sc top) c.K es (cTs T c.N sc n es)
  i : ∀ sc top tg iter, SI (Fam c sc top) c.K tg iter (cI T c.N sc n tg iter)
theorem STs.bad {F : Cx → Prop} {K : PySem.W.Frag} {es : List Expr} : STs F K es DV.bad := ⟨fun _ _ _ => False, fun _ _ => ⟨fun _ _ _ _ _ _ h => h.elim⟩, fun _ _ _ _ _ _ h => nomatch h⟩
theorem sound_n (ok : TabOk c T) (sc : Scope) (top : Bool) (js : List Nat) (e : Expr) : SN (Fam c sc top) c.K js e (cN T c.N sc js e) := by
  unfold cN
  split
  · rename_i x pos
    split
    · rename_i h0
      obtain ⟨h1, h2, h3⟩ := okName_ok h0
      split
      · rename_i hv
        split
        · rename_i i hi
          split
          · rename_i hj
            exact SN.var (fun z => by rw [List.contains_iff_mem.mpr z] at hj; cases hj) (fun X hX => ⟨fam_at hX hi, fam_vis hX hv⟩) h1 h2
          · exact SN.bad
        · exact SN.bad
      · split
        · rename_i hg
          split
          · rename_i d hd
            obtain ⟨v, u, e1, e2, e3⟩ := ok.const x d hd
            exact SN.glob (fun X hX => ⟨fam_gl hX hg, by rw [hX.mg]; exact e1⟩) e2 e3 h1
          · exact SN.bad
        · exact SN.bad
    · exact SN.bad
  · exact SN.bad
/-- a target changes its own slots alone -/
theorem g_off {N : List Str} (sc : Scope) (top : Bool) : ∀ n : Nat, (∀ (e : Expr) (d : D) (δ δ' : DEnv), cG N sc top n e d δ = some δ' → ∀ i, i ∉ slots N n e → δ'[i]? = δ[i]?) ∧ (∀ (es : List Expr) (ds : List D) (δ δ' : DEnv), cGs N sc top n es ds δ = some δ' → ∀ i, i ∉ slots.slotsL N n es → δ'[i]? = δ[i]?)
  | 0 => ⟨fun e d δ δ' h => (by unfold cG at h; cases h), fun es ds δ δ' h => (by unfold cGs at h; cases h)⟩
  | n + 1 => by
    obtain ⟨ih1, ih2⟩ := g_off (N := N) sc top n
    refine ⟨fun e d δ δ' => ?_, fun es ds δ δ' => ?_⟩
    · cases e with
      | Name x pos =>
        intro h i hi
        have h : (if isStore top (sc.names.lookup x) = true then (match idx N x with
          | some i => gVar i
          | none => fun _ => bad) else fun _ => bad) d δ = some δ' := h
        have hi : i ∉ (match idx N x with | some i => [i] | none => []) := hi
        cases hx : idx N x with
        | some j =>
          rw [hx] at h hi
          dsimp only at h hi
          split at h
          · cases h
            rw [List.getElem?_set_ne (by intro z; subst z; simp at hi)]
          · cases h
        | none =>
          rw [hx] at h
          dsimp only at h
          split at h <;> cases h
      | Tuple es k pos =>
        intro h i hi
        have h : (if noStar es = true then gTupD fun ds δ => if ds.length = es.length then cGs N sc top n es ds δ else none else fun _ => bad) d δ = some δ' := h
        split at h
        · unfold gTupD at h
          split at h <;> try (cases h; done)
          dsimp only at h
          split at h
          · exact ih2 _ _ _ _ h i hi
          · cases h
        · cases h
      | _ => exact fun h => nomatch h
    · cases es with
      | nil =>
        intro h i hi
        have h : gNone ds δ = some δ' := h
        unfold gNone at h
        split at h <;> cases h
        rfl
      | cons e es =>
        intro h i hi
        have h : (if isStar e = false then gMore (cG N sc top n e) (cGs N sc top n es) else fun _ => bad) ds δ = some δ' := h
        have hi : i ∉ slots N n e ++ slots.slotsL N n es := hi
        split at h
        · unfold gMore at h
          split at h <;> try (cases h; done)
          rw [Option.bind_eq_some_iff] at h
          obtain ⟨δ1, e1, e2⟩ := h
          rw [ih2 _ _ _ _ e2 i (fun z => hi (List.mem_append_right _ z)), ih1 _ _ _ _ e1 i (fun z => hi (List.mem_append_left _ z))]
        · cases h
theorem sound_call (ok : TabOk c T) {n : Nat} (ih : Sound c T n) (sc : Scope) (top : Bool) (x : Str) (p : Pos) (e : Expr) (es : List Expr) (pos : Pos) : SE (Fam c sc top) c.K (.Call (.Name x p) (e :: es) [] pos) (cE T c.N sc (n + 1) (.Call (.Name x p) (e :: es) [] pos)) := by
  have hK : ∀ X, Fam c sc top X → X.K = c.K := fun X hX => hX.K
  show SE _ _ _ (if noStar (e :: es) = true ∧ okName x = true ∧ sc.names.lookup x = some .globalImplicit then
      if x = "isinstance" then (match es with
        | [.Name y _] => if okName y = true ∧ sc.names.lookup y = some .globalImplicit then (match isiOf y with
            | some g => fIsi g (cE T c.N sc n e)
            | none => match T.cls.lookup y with
              | some C => fIsi (isOwn C) (cE T c.N sc n e)
              | none => bad) else bad
        | _ => bad)
      else match T.fns.lookup x with
        | some (k, m) => if (e :: es).length = k then fCall (cA T c.N sc n (e :: es)) m else bad
        | none => match T.makes.lookup x with
          | some (k, C, m) => if (e :: es).length = k then fMake C (cA T c.N sc n (e :: es)) m else bad
          | none => match bltOf x with
            | some g => fCall (cA T c.N sc n (e :: es)) g
            | none => bad
    else bad)
  split
  · rename_i hh
    obtain ⟨hs, h0, hg⟩ := hh
    split
    · rename_i ex
      subst ex
      split
      · rename_i y py
        split
        · rename_i hy
          obtain ⟨hy0, hyg⟩ := hy
          split
          · rename_i g hgi
            obtain ⟨hm, Ty, e1, e2⟩ := isi_ok hgi
            obtain ⟨y1, y2, y3⟩ := okName_ok hy0
            have hs' : isStar e = false := by simp [noStar] at hs; exact hs.1
            exact SE.isi hK (fun X hX => ⟨fam_gl hX hg, by rw [hX.mg]; exact ok.blt _ (by decide)⟩) (fun X hX => ⟨fam_gl hX hyg, by rw [hX.mg]; exact ok.blt _ hm⟩) e1 y3 y1 e2 hs' (ih.e sc top _)
          · split
            · rename_i C hC
              obtain ⟨c1, c2, c3, c4, c5⟩ := ok.cls _ _ hC
              have hs' : isStar e = false := by simp [noStar] at hs; exact hs.1
              exact SE.isiO hK (fun X hX => ⟨fam_gl hX hg, by rw [hX.mg]; exact ok.blt _ (by decide)⟩) (fun X hX => ⟨fam_gl hX hyg, by rw [hX.mg]; exact c1⟩) (okName_ok hy0).1 c2 c3 c4 c5 hs' (ih.e sc top _)
            · exact SE.bad
        · exact SE.bad
      · exact SE.bad
    · split
      · rename_i k m hm
        split
        · rename_i hk
          obtain ⟨e0, k', f, fd, ps, e1, e2, e3, e4, e5, e6⟩ := ok.fn _ _ _ hm
          exact SE.callF ⟨k', f, fd, ps, e1, fun X hX => ⟨hX.K, fam_gl hX hg, by rw [hX.mg]; exact e3, by rw [hX.K]; exact e4, by rw [hX.K]; exact e5, hX.room.mono e2, by rw [hX.P, hX.w, hX.K, hX.mg, hX.base]; exact e6⟩⟩ (okName_ok h0).1 hs hk e0 (ih.a sc top _)
        · exact SE.bad
      · split
        · rename_i k C m hm
          split
          · rename_i hk
            subst hk
            obtain ⟨e0, k', f, fd, ps, e1, e2, e3, e4, e5, e6⟩ := ok.make _ _ _ _ hm
            exact SE.make ⟨k', f, fd, ps, e1, fun X hX => ⟨by rw [hX.K]; exact e3, fam_gl hX hg, by rw [hX.mg]; exact e4, by rw [hX.K]; exact e5, hX.room.mono e2, by rw [hX.P, hX.w, hX.K, hX.mg, hX.base]; exact e6⟩⟩ (okName_ok h0).1 hs e0 (ih.a sc top _)
          · exact SE.bad
        · split
          · rename_i g hgi
            exact sound_blt ok sc top hgi h0 hg hs (ih.a sc top _)
          · exact SE.bad
  · exact SE.bad
theorem sound_e (ok : TabOk c T) {n : Nat} (ih : Sound c T n) (sc : Scope) (top : Bool) (e : Expr) : SE (Fam c sc top) c.K e (cE T c.N sc (n + 1) e) := by
  have hK : ∀ X, Fam c sc top X → X.K = c.K := fun X hX => hX.K
  have hu : ∀ X, Fam c sc top X → X.A.units + 64 < cLine := fun X hX => hX.units
  unfold cE
  split
  · rename_i h; cases h
  · rename_i h; cases h
    exact sound_name ok sc top _ _
  · rename_i h; cases h
    exact SE.int
  · rename_i h; cases h
    exact SE.bl
  · rename_i h; cases h
    exact SE.non
  · rename_i h; cases h
    exact SE.bin (opS_bin _) (ih.e sc top _) (ih.e sc top _)
  · rename_i h; cases h
    exact SE.not (ih.e sc top _)
  · rename_i h; cases h
    exact SE.neg (ih.e sc top _)
  · rename_i h; cases h
    exact ih.b sc top _ _ _
  · rename_i h; cases h
    split
    · rename_i hm
      split
      · rename_i C m hq
        obtain ⟨ga, k, e1, e2, e3, e4, e5⟩ := ok.eq _ _ hq
        exact SE.cmp ((opS_cmp hu hK .Eq).or (opS_eqOb hK e1 e2 e3 fun X hX => ⟨by rw [hX.P, hX.w, hX.K, hX.mg, hX.base]; exact e5, hX.room.mono e4⟩)) hm (ih.e sc top _) (ih.e sc top _)
      · exact SE.cmp (opS_cmp hu hK _) hm (ih.e sc top _) (ih.e sc top _)
    · exact SE.bad
  · rename_i h; cases h
    split
    · rename_i hc
      split
      · rename_i C m hp
        obtain ⟨c0, pa, ga, k, e1, e2, e3, e4, e5, e6⟩ := ok.prop _ _ _ hp
        exact SE.attrP hK ok.slot hc c0 e1 e2 e3 e4 (fun X hX => ⟨by rw [hX.P, hX.w, hX.K, hX.mg, hX.base]; exact e6, hX.room.mono e5⟩) (ih.e sc top _)
      · exact SE.attr hK ok.slot hc (ih.e sc top _)
    · exact SE.bad
  · rename_i h; cases h
    split
    · rename_i hm
      exact SE.chain (opS_cmp hu hK _) (opS_cmp hu hK _) hm (ih.e sc top _) (ih.e sc top _) (ih.e sc top _)
    · exact SE.bad
  · rename_i h; cases h
    exact SE.ite (ih.t sc top _) (ih.e sc top _) (ih.e sc top _)
  · rename_i h; cases h
    exact SE.tup (ih.a sc top _)
  · rename_i h; cases h
    exact SE.lst (ih.a sc top _)
  · rename_i h; cases h
    split
    · rename_i hm
      exact SE.ix hK hm (ih.e sc top _) (ih.e sc top _)
    · exact SE.bad
  · rename_i h; cases h
    exact sound_call ok ih sc top _ _ _ _ _
  · rename_i h; cases h
    split
    · rename_i hh
      obtain ⟨h0, hg⟩ := hh
      split
      · rename_i k m hm
        split
        · rename_i hk
          subst hk
          obtain ⟨_, k', f, fd, ps, e1, e2, e3, e4, e5, e6⟩ := ok.fn _ _ _ hm
          exact SE.callF0 ⟨k', f, fd, ps, e1, fun X hX => ⟨hX.K, fam_gl hX hg, by rw [hX.mg]; exact e3, by rw [hX.K]; exact e4, by rw [hX.K]; exact e5, hX.room.mono e2, by rw [hX.P, hX.w, hX.K, hX.mg, hX.base]; exact e6⟩⟩ (okName_ok h0).1
        · exact SE.bad
      · exact SE.bad
    · exact SE.bad
  · rename_i h; cases h
    split
    · rename_i hh
      obtain ⟨h1, h2, h3⟩ := hh
      refine SE.lc (F' := Fam c (relS _ sc) false) (fun X hX => ⟨hX.calm, by rw [hX.N]; exact ok.nd, own_ok hX h1⟩) (ih.i sc top _ _) (fun X hX s H C cl fp => hX.blk s H _ cl C fp) ((sound_g ok _ false n).1 _) (ih.ts _ false _) (ih.e _ false _) (fun i hi => ?_) h2
      have := List.all_eq_true.mp h3 i hi
      exact List.contains_iff_mem.mp this
    · exact SE.bad
  · rename_i h; cases h
    split
    · rename_i hh
      obtain ⟨h1, h2, h3, h4, h5⟩ := hh
      exact SE.lc2 (F' := Fam c (relS _ sc) false) (fun X hX => ⟨hX.calm, hX.K, by rw [hX.N]; exact ok.nd, own_ok hX h1⟩) (fun X hX => hX.K) (ih.i sc top _ _) (fun X hX s H C cl fp => hX.blk s H _ cl C fp) ((sound_g ok _ false n).1 _) ((g_off _ false n).1 _) (ih.ts _ false _) (sound_n ok _ false _ _)
        ((sound_g ok _ false n).1 _) (ih.ts _ false _) (ih.e _ false _) (fun i hi => List.contains_iff_mem.mp (List.all_eq_true.mp h4 i hi)) (fun i hi => List.contains_iff_mem.mp (List.all_eq_true.mp h5 i hi)) h2 h3
    · exact SE.bad
  · exact SE.bad
theorem sound_a (ok : TabOk c T) {n : Nat} (ih : Sound c T n) (sc : Scope) (top : Bool) (es : List Expr) : SA (Fam c sc top) c.K es (cA T c.N sc (n + 1) es) := by
  unfold cA
  split
  · rename_i h; cases h
  · exact SA.nil
  · rename_i h; cases h
    exact SA.star (fun X hX => hX.K) (ih.e sc top _) (ih.a sc top _)
  · rename_i h; cases h
    split
    · rename_i hs
      exact SA.cons hs (ih.e sc top _) (ih.a sc top _)
    · exact SA.bad
theorem plain_true {e : Expr} (hp : plainT e = true) (env : PySem.Env) (whole : Sem Value) : PySem.isTrue e env whole = (do let v ← whole; standAt e.pos; holding [v] (truthy v)) := by
  cases e <;> first | rfl | exact absurd hp (by simp [plainT])
theorem sound_t (ok : TabOk c T) {n : Nat} (ih : Sound c T n) (sc : Scope) (top : Bool) (e : Expr) : ST (Fam c sc top) c.K e (cT T c.N sc (n + 1) e) := by
  have hK : ∀ X, Fam c sc top X → X.K = c.K := fun X hX => hX.K
  have hu : ∀ X, Fam c sc top X → X.A.units + 64 < cLine := fun X hX => hX.units
  unfold cT
  split
  · rename_i h; cases h
  · rename_i h; cases h
    exact (ih.w sc top _ _ _).test
  · rename_i h; cases h
    exact ST.not (ih.t sc top _)
  · rename_i h; cases h
    split
    · rename_i hm
      exact ST.cmp (opS_cmp hu hK _) hm (ih.e sc top _) (ih.e sc top _)
    · exact ST.bad
  · rename_i h; cases h
    split
    · rename_i hm
      exact ST.chain (opS_cmp hu hK _) (opS_cmp hu hK _) hm (ih.e sc top _) (ih.e sc top _) (ih.e sc top _)
    · exact ST.bad
  · rename_i h; cases h
    split
    · rename_i hm
      exact ST.chain3 (opS_cmp hu hK _) (opS_cmp hu hK _) (opS_cmp hu hK _) hm (ih.e sc top _) (ih.e sc top _) (ih.e sc top _) (ih.e sc top _)
    · exact ST.bad
  · rename_i h _ _ _ _ _; cases h
    split
    · rename_i hp
      exact ST.val (ih.e sc top _) fun X hX whole => plain_true hp _ _
    · exact ST.bad
theorem one1 {F : Cx → Prop} {K : PySem.W.Frag} {a : Expr} {pos : Pos} {p : DEnv → Option Bool} (op : BoolOp) (h : ST F K a p) : SW F K (.BoolOp op [a] pos) p := by
  cases op with
  | And => exact SW.and1 h
  | Or => exact SW.or1 h
theorem sound_w (ok : TabOk c T) {n : Nat} (ih : Sound c T n) (sc : Scope) (top : Bool) (op : BoolOp) (vs : List Expr) (pos : Pos) : SW (Fam c sc top) c.K (.BoolOp op vs pos) (cW T c.N sc (n + 1) op vs) := by
  unfold cW
  split
  · rename_i h; cases h
  · rename_i h; cases h
    exact one1 _ (ih.t sc top _)
  · rename_i h; cases h
    exact SW.and (ih.t sc top _) (ih.w sc top _ _ _)
  · rename_i h; cases h
    exact SW.or (ih.t sc top _) (ih.w sc top _ _ _)
  · exact SW.bad
theorem sound_b (ok : TabOk c T) {n : Nat} (ih : Sound c T n) (sc : Scope) (top : Bool) (op : BoolOp) (vs : List Expr) (pos : Pos) : SE (Fam c sc top) c.K (.BoolOp op vs pos) (cB T c.N sc (n + 1) op vs) := by
  unfold cB
  split
  · rename_i h; cases h
  · rename_i h; cases h
    exact SE.one (ih.e sc top _)
  · rename_i h; cases h
    exact SE.and (ih.e sc top _) (ih.b sc top _ _ _)
  · rename_i h; cases h
    exact SE.or (ih.e sc top _) (ih.b sc top _ _ _)
  · exact SE.bad
theorem sound_ts (ok : TabOk c T) {n : Nat} (ih : Sound c T n) (sc : Scope) (top : Bool) (es : List Expr) : STs (Fam c sc top) c.K es (cTs T c.N sc (n + 1) es) := by
  unfold cTs
  split
  · exact STs.nil
  · rename_i h; cases h
    exact STs.one (ih.t sc top _)
  · exact STs.bad
theorem zip_any {F : Cx → Prop} {K : PySem.W.Frag} {tg e e' : Expr} {p pos : Pos} {r : FA} (hK : ∀ X, F X → X.K = K) (hg : ∀ X, F X → Gl X "zip" ∧ X.mg "zip" = none) (hs : noStar [e, e'] = true) (ht : isTuple tg = true) (h : SA F K [e, e'] r) :
    SI F K tg (.Call (.Name "zip" p) [e, e'] [] pos) (iBind r iZipF) := by
  cases tg with
  | Tuple elts k q => exact SI.zip hK hg hs h
  | _ => exact absurd ht (by simp [isTuple])
theorem enum_any {F : Cx → Prop} {K : PySem.W.Frag} {tg e : Expr} {p pos : Pos} {r : FA} (hK : ∀ X, F X → X.K = K) (hg : ∀ X, F X → Gl X "enumerate" ∧ X.mg "enumerate" = none) (hs : isStar e = false) (ht : isTuple tg = true) (h : SA F K [e] r) :
    SI F K tg (.Call (.Name "enumerate" p) [e] [] pos) (iBind r iEnumF) := by
  cases tg with
  | Tuple elts k q => exact SI.enum hK hg hs h
  | _ => exact absurd ht (by simp [isTuple])
theorem sound_i (ok : TabOk c T) {n : Nat} (ih : Sound c T n) (sc : Scope) (top : Bool) (tg iter : Expr) : SI (Fam c sc top) c.K tg iter (cI T c.N sc (n + 1) tg iter) := by
  have hK : ∀ X, Fam c sc top X → X.K = c.K := fun X hX => hX.K
  unfold cI
  split
  · rename_i h; cases h
  · rename_i n' tg' x p args kw pos h
    cases h
    split
    · rename_i hx
      have ek : kw = [] := List.isEmpty_iff.mp hx.2
      subst ek
      split
      · rename_i hh
        obtain ⟨hs, hg⟩ := hh
        split
        · rename_i e; subst e
          have gr : ∀ X, Fam c sc top X → Gl X "range" ∧ X.mg "range" = none := fun X hX => ⟨fam_gl hX hg, by rw [hX.mg]; exact ok.blt _ (by decide)⟩
          split
          · rename_i a1
            have hs' : isStar a1 = false := by simpa [noStar] using hs
            exact SI.range1 gr hs' (ih.a sc top _)
          · rename_i a1 a2
            have hs' : isStar a1 = false ∧ isStar a2 = false := by simpa [noStar] using hs
            exact SI.range2 gr hs'.1 hs'.2 (ih.a sc top _)
          · exact SI.bad
        · split
          · rename_i hz
            obtain ⟨e, ht⟩ := hz
            subst e
            have gr : ∀ X, Fam c sc top X → Gl X "zip" ∧ X.mg "zip" = none := fun X hX => ⟨fam_gl hX hg, by rw [hX.mg]; exact ok.blt _ (by decide)⟩
            split
            · exact zip_any hK gr hs ht (ih.a sc top _)
            · exact SI.bad
          · split
            · rename_i hz
              obtain ⟨e, ht⟩ := hz
              subst e
              have gr : ∀ X, Fam c sc top X → Gl X "enumerate" ∧ X.mg "enumerate" = none := fun X hX => ⟨fam_gl hX hg, by rw [hX.mg]; exact ok.blt _ (by decide)⟩
              split
              · rename_i a1
                have hs' : isStar a1 = false := by simpa [noStar] using hs
                exact enum_any hK gr hs' ht (ih.a sc top _)
              · exact SI.bad
            · exact SI.bad
      · exact SI.bad
    · exact SI.seq hK (ih.e sc top _)
  · rename_i h _; cases h
    exact SI.seq hK (ih.e sc top _)
theorem sound (ok : TabOk c T) : ∀ n, Sound c T n
  | 0 => ⟨fun _ _ _ => by unfold cE; exact SE.bad, fun _ _ _ => by unfold cA; exact SA.bad, fun _ _ _ => by unfold cT; exact ST.bad, fun _ _ _ _ _ => by unfold cW; exact SW.bad, fun _ _ _ _ _ => by unfold cB; exact SE.bad,
      fun _ _ es => by
        cases es with
        | nil => unfold cTs; exact STs.nil
        | cons a as =>
          unfold cTs
          split
          · rename_i h; cases h
          · rename_i h _; cases h
          · exact STs.bad, fun _ _ _ _ => by unfold cI; exact SI.bad⟩
  | n + 1 => let ih := sound ok n; ⟨sound_e ok ih, sound_a ok ih, sound_t ok ih, sound_w ok ih, sound_b ok ih, sound_ts ok ih, sound_i ok ih⟩
end
end DV
end
section
set_option Elab.async false
set_option linter.all false
set_option maxRecDepth 100000
set_option maxHeartbeats 4000000
/-! DV: soundness of statements; a def by its compiled body. -/
namespace DV
open PySem PySem.Spec PyProof.Rows L2 StX
section
variable {c : Ctx} {T : Tab}
structure SoundS (c : Ctx) (T : Tab) (sc : Scope) (n : Nat) : Prop where
  s : ∀ st, SS (Fam c sc true) c.K st (cS T c.N sc n st)
  ss : ∀ sts, SSs (Fam c sc true) c.K sts (cSs T c.N sc n sts)
theorem local_store {sc : Scope} {x : Str} (h : sc.names.lookup x = some .local) : isStore true (sc.names.lookup x) = true := by rw [h]; rfl
theorem sound_par (ok : TabOk c T) {sc : Scope} {n : Nat} {ts vs : List Expr} {q1 q2 : Nat} {p1 p2 pos : Pos} {ns : List Str} (hk : sc.kind = .function) (hw : swp sc ts vs = some (some ns)) :
    SS (Fam c sc true) c.K (.Assign [.Tuple ts q1 p1] (.Tuple vs q2 p2) pos) (cPar T c.N sc n ns ts vs) := by
  revert hw
  unfold cPar
  split
  · rename_i x px y py a b
    intro hw
    split
    · rename_i hh
      obtain ⟨e, hx, hy⟩ := hh
      subst e
      split
      · rename_i i j hi hj
        split
        · rename_i hij
          exact SS.par2 (fun X hX => hX.calm) (fun X hX => ⟨fam_place ok hX hi (local_store hx), by rw [hX.sc]; exact hx⟩) (fun X hX => ⟨fam_place ok hX hj (local_store hy), by rw [hX.sc]; exact hy⟩) hij (fun X hX => swp_ok hX.sc hk hw) ((sound ok n).a sc true _)
        · exact SS.bad
      · exact SS.bad
    · exact SS.bad
  · rename_i x px y py z pz a b d
    intro hw
    split
    · rename_i hh
      obtain ⟨e, hx, hy, hz⟩ := hh
      subst e
      split
      · rename_i i j l hi hj hl
        split
        · rename_i hij
          exact SS.par3 (fun X hX => hX.calm) (fun X hX => ⟨fam_place ok hX hi (local_store hx), by rw [hX.sc]; exact hx⟩) (fun X hX => ⟨fam_place ok hX hj (local_store hy), by rw [hX.sc]; exact hy⟩) (fun X hX => ⟨fam_place ok hX hl (local_store hz), by rw [hX.sc]; exact hz⟩)
            hij.1 hij.2.1 hij.2.2 (fun X hX => swp_ok hX.sc hk hw) ((sound ok n).a sc true _)
        · exact SS.bad
      · exact SS.bad
    · exact SS.bad
  · intro _
    exact SS.bad
theorem sound_s (ok : TabOk c T) {sc : Scope} {n : Nat} (ih : SoundS c T sc n) (st : Stmt) : SS (Fam c sc true) c.K st (cS T c.N sc (n + 1) st) := by
  unfold cS
  split
  · rename_i h; cases h
  · rename_i h; cases h
    exact SS.ret ((sound ok n).e sc true _)
  · rename_i h; cases h
    exact SS.retN
  · rename_i h; cases h
    exact SS.ite ((sound ok n).t sc true _) (ih.ss _) (ih.ss _)
  · rename_i h; cases h
    split
    · rename_i hh
      obtain ⟨hk, h1, h2, h3⟩ := hh
      split
      · rename_i i hi
        split
        · rename_i hz
          obtain ⟨hx, hp, ha⟩ := hz
          refine SS.setLc (F' := Fam c (relS _ sc) false) (fun X hX => fam_place ok hX hi (local_store hx)) (fun X hX => ⟨by rw [hX.sc]; exact hk, by rw [hX.sc]; exact hx⟩) hp ha (fun X hX => ⟨hX.calm, by rw [hX.N]; exact ok.nd, own_ok hX h1⟩) ((sound ok n).i sc true _ _) (fun X hX s H C cl fp => hX.blk s H _ cl C fp) ((sound_g ok _ false n).1 _) ((sound ok n).ts _ false _) ((sound ok n).e _ false _) (fun i hi => ?_) h2
          exact List.contains_iff_mem.mp (List.all_eq_true.mp h3 i hi)
        · exact SS.bad
      · exact SS.bad
    · exact SS.bad
  · rename_i h; cases h
    split
    · rename_i hh
      split
      · rename_i i hi
        exact SS.set (fun X hX => fam_place ok hX hi hh.2) (fun X hX => hh.1.elim (fun z => swaps_no z _ _ _) fun z => swaps_cell (by rw [hX.sc]; exact z)) ((sound ok n).e sc true _)
      · exact SS.bad
    · exact SS.bad
  · rename_i h; cases h
    split
    · rename_i hk
      split
      · rename_i hw
        exact SS.asg (fun X hX => swp_ok hX.sc hk hw) ((sound ok n).e sc true _) ((sound_g ok sc true n).1 _)
      · rename_i ns hw
        exact sound_par ok hk hw
      · exact SS.bad
    · exact SS.bad
  · rename_i h; cases h
    split
    · rename_i hh
      exact SS.asg (fun X hX => swapped_no hh X.env) ((sound ok n).e sc true _) ((sound_g ok sc true n).1 _)
    · exact SS.bad
  · rename_i h; cases h
    split
    · rename_i hh
      split
      · rename_i i hi
        exact SS.mul (fun X hX => fam_place ok hX hi hh) ((sound ok n).e sc true _)
      · exact SS.bad
    · exact SS.bad
  · rename_i h; cases h
    split
    · rename_i hh
      exact SS.for (fun X hX => ⟨hX.calm, hX.po⟩) hh ((sound ok n).i sc true _ _) ((sound_g ok sc true n).1 _) (ih.ss _)
    · exact SS.bad
  · rename_i h; cases h
    split
    · rename_i hh
      exact SS.drop hh ((sound ok n).e sc true _)
    · exact SS.bad
  · rename_i h; cases h
    exact SS.while (fun X hX => hX.po) ((sound ok n).t sc true _) (ih.ss _)
  · exact SS.bad
theorem sound_ss (ok : TabOk c T) {sc : Scope} {n : Nat} (ih : SoundS c T sc n) (sts : List Stmt) : SSs (Fam c sc true) c.K sts (cSs T c.N sc (n + 1) sts) := by
  unfold cSs
  split
  · rename_i h; cases h
  · exact SSs.nil
  · rename_i h; cases h
    exact SSs.cons (ih.s _) (ih.ss _)
theorem soundS (ok : TabOk c T) (sc : Scope) : ∀ n, SoundS c T sc n
  | 0 => ⟨fun _ => by unfold cS; exact SS.bad, fun _ => by unfold cSs; exact SSs.bad⟩
  | n + 1 => let ih := soundS ok sc n; ⟨sound_s ok ih, sound_ss ok ih⟩
/-! ### a def -/
def outD : Out → D
  | .nx _ => .non
  | .rt d => d
/-- the function of a def, by its body; N: its names by slot; np: how many of them are parameters -/
def runB (N : List Str) (np : Nat) (f : FS) : List D → Option D := fun ds => if ds.length = np then (f (ds.map some ++ List.replicate (N.length - np) none)).bind fun o => some (outD o) else none
def defD (T : Tab) (N : List Str) (np : Nat) (st : Stmt) : List D → Option D := runB N np (cSs T N (defScope st) 60 (defBody st))
theorem runB_len {N : List Str} {np : Nat} {f : FS} : ∀ ds d, runB N np f ds = some d → ds.length = np := fun ds d h => by
  unfold runB at h
  split at h
  · assumption
  · cases h
theorem env_start {K : PySem.W.Frag} {H : Hp} {N : List Str} {ds : List D} {vs : List V} (h : DenL K H ds vs) (hl : ds.length ≤ N.length) : EnvD K H (L2.start N vs) (ds.map some ++ List.replicate (N.length - ds.length) none) := by
  unfold L2.start
  rw [h.length]
  refine ⟨by simp [h.length], fun i d q => ?_⟩
  by_cases hi : i < ds.length
  · rw [List.getElem?_append_left (by simpa using hi), List.getElem?_map] at q
    cases e : ds[i]? with
    | none => rw [e] at q; cases q
    | some z =>
      rw [e] at q
      cases q
      obtain ⟨v, e1, e2⟩ := h.get e
      refine ⟨v, ?_, e2⟩
      rw [List.getElem?_append_left (by simpa [h.length] using hi), List.getElem?_map, e1]
      rfl
  · rw [List.getElem?_append_right (by simpa using hi), List.getElem?_replicate] at q
    split at q <;> cases q
/-- the body's family -/
theorem fam_def {P : Program} {w : World} {K : PySem.W.Frag} {mg : Str → Option Value} {base : Heap} {N : List Str} {qual : Str} {sc : Scope} {f : Addr} {cdv : Value} {A : Around} {outer : List PySem.Env} {s : Shared} {H : Hp} {E : XK} {k : Nat}
    (hr : Room k (A.deeper (envOfC qual sc s.heap.objs.size f cdv))) : Fam ⟨P, w, K, mg, base, k, N⟩ sc true (cxOf CX0 P w K mg base N qual sc f cdv A outer s H E).nox :=
  ⟨rfl, rfl, rfl, rfl, rfl, rfl, rfl, hr, rfl, PassesOwn.never, fun _ _ => rfl⟩
theorem def_ok {P : Program} {w : World} {K : PySem.W.Frag} {mg : Str → Option Value} {base : Heap} {x qual : Str} {st : Stmt} {f : Addr} {fd : FuncData} {N ps : List Str} {k : Nat} (F : Fun K x qual st f fd) (S : FnScope N ps (defScope st))
    (ok : TabOk ⟨P, w, K, mg, base, k, N⟩ T) : FnOk P w K mg base CX0 (k + 1) f fd ps (spD K ps.length (defD T N ps.length st)) := by
  refine F.ok S (fun vs H Q E h => ?_) (fun cdv A outer s H vs Q E hr h => ?_)
  · obtain ⟨ds, d, e, _⟩ := h
    exact e
  · obtain ⟨ds, d, e, hd, hm, hQ⟩ := h
    obtain ⟨t, pt, qt⟩ := (soundS ok (defScope st) 60).ss (defBody st)
    refine ⟨t, pt _ (fam_def hr), ?_⟩
    have hl : ds.length = ps.length := by rw [← hd.length]; exact e
    have hpl : ps.length ≤ N.length := by
      have q := congrArg List.length S.pre
      rw [List.length_take] at q
      omega
    unfold defD runB at hm
    rw [if_pos hl, Option.bind_eq_some_iff] at hm
    obtain ⟨o, e1, e2⟩ := hm
    cases e2
    refine qt (L2.start N vs) H _ o _ (env_start hd (by rw [hl]; exact hpl)) (by rw [hl]; exact e1) ?_
    cases o with
    | nx δ => exact fun σ' H' s1 _ => hQ .non H' s1 rfl
    | rt z => exact fun v H' s1 dv => hQ v H' s1 dv
end
end DV
end
section
set_option Elab.async false
set_option linter.all false
set_option maxRecDepth 100000
set_option maxHeartbeats 4000000
/-! The text: each def of the program by its place, its names by slot. Printed by wip/gen1.py. -/
namespace FR
open PySem PySem.Spec PyProof.Rows L2 DV
abbrev p_is_whole : List Str := ["value"]
abbrev n_is_whole : List Str := ["value"]
theorem sc_is_whole : FnScope n_is_whole p_is_whole (defScope s_is_whole) := ⟨rfl, rfl, rfl, by decide +kernel, rfl, by decide +kernel, by decide +kernel⟩
abbrev p_is_integer : List Str := ["value"]
abbrev n_is_integer : List Str := ["value"]
theorem sc_is_integer : FnScope n_is_integer p_is_integer (defScope s_is_integer) := ⟨rfl, rfl, rfl, by decide +kernel, rfl, by decide +kernel, by decide +kernel⟩
abbrev p_common_of : List Str := ["one", "other"]
abbrev n_common_of : List Str := ["one", "other"]
theorem sc_common_of : FnScope n_common_of p_common_of (defScope s_common_of) := ⟨rfl, rfl, rfl, by decide +kernel, rfl, by decide +kernel, by decide +kernel⟩
abbrev p_joined_in : List Str := ["first", "second"]
abbrev n_joined_in : List Str := ["first", "second", "p", "q", "r", "s", "i", "j", "k", "l"]
theorem sc_joined_in : FnScope n_joined_in p_joined_in (defScope s_joined_in) := ⟨rfl, rfl, rfl, by decide +kernel, rfl, by decide +kernel, by decide +kernel⟩
abbrev p_are_integers : List Str := ["value", "size"]
abbrev n_are_integers : List Str := ["value", "size", "entry"]
theorem sc_are_integers : FnScope n_are_integers p_are_integers (defScope s_are_integers) := ⟨rfl, rfl, rfl, by decide +kernel, rfl, by decide +kernel, by decide +kernel⟩
abbrev p_content_of : List Str := ["numbers"]
abbrev n_content_of : List Str := ["numbers", "found", "number"]
theorem sc_content_of : FnScope n_content_of p_content_of (defScope s_content_of) := ⟨rfl, rfl, rfl, by decide +kernel, rfl, by decide +kernel, by decide +kernel⟩
abbrev p_lowest_place : List Str := ["x", "y"]
abbrev n_lowest_place : List Str := ["x", "y", "share"]
theorem sc_lowest_place : FnScope n_lowest_place p_lowest_place (defScope s_lowest_place) := ⟨rfl, rfl, rfl, by decide +kernel, rfl, by decide +kernel, by decide +kernel⟩
abbrev p_places_of_double : List Str := ["numbers"]
abbrev n_places_of_double : List Str := ["numbers", "a", "b", "c", "part", "root"]
theorem sc_places_of_double : FnScope n_places_of_double p_places_of_double (defScope s_places_of_double) := ⟨rfl, rfl, rfl, by decide +kernel, rfl, by decide +kernel, by decide +kernel⟩
abbrev p_monic_at : List Str := ["numbers", "x"]
abbrev n_monic_at : List Str := ["numbers", "x", "u", "v", "w"]
theorem sc_monic_at : FnScope n_monic_at p_monic_at (defScope s_monic_at) := ⟨rfl, rfl, rfl, by decide +kernel, rfl, by decide +kernel, by decide +kernel⟩
abbrev p_bisected : List Str := ["numbers", "low", "high", "sense"]
abbrev n_bisected : List Str := ["numbers", "low", "high", "sense", "middle"]
theorem sc_bisected : FnScope n_bisected p_bisected (defScope s_bisected) := ⟨rfl, rfl, rfl, by decide +kernel, rfl, by decide +kernel, by decide +kernel⟩
abbrev p_monic_roots : List Str := ["numbers"]
abbrev n_monic_roots : List Str := ["numbers", "u", "v", "w", "most", "part", "root", "low", "high", "found"]
theorem sc_monic_roots : FnScope n_monic_roots p_monic_roots (defScope s_monic_roots) := ⟨rfl, rfl, rfl, by decide +kernel, rfl, by decide +kernel, by decide +kernel⟩
abbrev p_places_of_cubic : List Str := ["numbers"]
abbrev n_places_of_cubic : List Str := ["numbers", "a", "b", "c", "d", "found", "x", "place"]
theorem sc_places_of_cubic : FnScope n_places_of_cubic p_places_of_cubic (defScope s_places_of_cubic) := ⟨rfl, rfl, rfl, by decide +kernel, rfl, by decide +kernel, by decide +kernel⟩
abbrev p_form_at : List Str := ["numbers", "x", "y"]
abbrev n_form_at : List Str := ["numbers", "x", "y", "a", "b", "c", "d"]
theorem sc_form_at : FnScope n_form_at p_form_at (defScope s_form_at) := ⟨rfl, rfl, rfl, by decide +kernel, rfl, by decide +kernel, by decide +kernel⟩
abbrev p_form_led : List Str := ["numbers", "change"]
abbrev n_form_led : List Str := ["numbers", "change", "a", "b", "c", "d", "p", "q", "r", "s", "sense", "second", "third"]
theorem sc_form_led : FnScope n_form_led p_form_led (defScope s_form_led) := ⟨rfl, rfl, rfl, by decide +kernel, rfl, by decide +kernel, by decide +kernel⟩
abbrev p_discriminant_of : List Str := ["numbers"]
abbrev n_discriminant_of : List Str := ["numbers", "a", "b", "c", "d", "plus"]
theorem sc_discriminant_of : FnScope n_discriminant_of p_discriminant_of (defScope s_discriminant_of) := ⟨rfl, rfl, rfl, by decide +kernel, rfl, by decide +kernel, by decide +kernel⟩
abbrev p_hessian_of : List Str := ["numbers"]
abbrev n_hessian_of : List Str := ["numbers", "a", "b", "c", "d"]
theorem sc_hessian_of : FnScope n_hessian_of p_hessian_of (defScope s_hessian_of) := ⟨rfl, rfl, rfl, by decide +kernel, rfl, by decide +kernel, by decide +kernel⟩
abbrev p_small_changes : List Str := []
abbrev n_small_changes : List Str := ["pairs", "first", "second", "one", "other"]
theorem sc_small_changes : FnScope n_small_changes p_small_changes (defScope s_small_changes) := ⟨rfl, rfl, rfl, by decide +kernel, rfl, by decide +kernel, by decide +kernel⟩
abbrev p_way_to_small : List Str := ["row"]
abbrev n_way_to_small : List Str := ["row", "way", "first", "middle", "last", "many"]
theorem sc_way_to_small : FnScope n_way_to_small p_way_to_small (defScope s_way_to_small) := ⟨rfl, rfl, rfl, by decide +kernel, rfl, by decide +kernel, by decide +kernel⟩
abbrev p_led_above : List Str := ["row"]
abbrev n_led_above : List Str := ["row", "way", "here", "hessian", "found", "last", "change", "other"]
theorem sc_led_above : FnScope n_led_above p_led_above (defScope s_led_above) := ⟨rfl, rfl, rfl, by decide +kernel, rfl, by decide +kernel, by decide +kernel⟩
abbrev p_bezout : List Str := ["p", "q"]
abbrev n_bezout : List Str := ["p", "q", "one", "other", "times", "first", "second"]
theorem sc_bezout : FnScope n_bezout p_bezout (defScope s_bezout) := ⟨rfl, rfl, rfl, by decide +kernel, rfl, by decide +kernel, by decide +kernel⟩
abbrev p_end_change : List Str := ["place"]
abbrev n_end_change : List Str := ["place"]
theorem sc_end_change : FnScope n_end_change p_end_change (defScope s_end_change) := ⟨rfl, rfl, rfl, by decide +kernel, rfl, by decide +kernel, by decide +kernel⟩
abbrev p_lead_with_root : List Str := ["walk", "place"]
abbrev n_lead_with_root : List Str := ["walk", "place", "b", "c", "shift"]
theorem sc_lead_with_root : FnScope n_lead_with_root p_lead_with_root (defScope s_lead_with_root) := ⟨rfl, rfl, rfl, by decide +kernel, rfl, by decide +kernel, by decide +kernel⟩
abbrev p_is_small : List Str := ["numbers"]
abbrev n_is_small : List Str := ["numbers", "a", "b", "c", "d"]
theorem sc_is_small : FnScope n_is_small p_is_small (defScope s_is_small) := ⟨rfl, rfl, rfl, by decide +kernel, rfl, by decide +kernel, by decide +kernel⟩
abbrev p_is_between : List Str := ["numbers"]
abbrev n_is_between : List Str := ["numbers", "a", "b", "c", "d", "middle"]
theorem sc_is_between : FnScope n_is_between p_is_between (defScope s_is_between) := ⟨rfl, rfl, rfl, by decide +kernel, rfl, by decide +kernel, by decide +kernel⟩
abbrev p_is_not_past : List Str := ["numbers", "shift"]
abbrev n_is_not_past : List Str := ["numbers", "shift", "a", "b"]
theorem sc_is_not_past : FnScope n_is_not_past p_is_not_past (defScope s_is_not_past) := ⟨rfl, rfl, rfl, by decide +kernel, rfl, by decide +kernel, by decide +kernel⟩
abbrev p_best_shift : List Str := ["numbers"]
abbrev n_best_shift : List Str := ["numbers", "low", "high", "middle"]
theorem sc_best_shift : FnScope n_best_shift p_best_shift (defScope s_best_shift) := ⟨rfl, rfl, rfl, by decide +kernel, rfl, by decide +kernel, by decide +kernel⟩
abbrev p_lead_without_root : List Str := ["walk"]
abbrev n_lead_without_root : List Str := ["walk", "a", "b", "c", "d", "shift"]
theorem sc_lead_without_root : FnScope n_lead_without_root p_lead_without_root (defScope s_lead_without_root) := ⟨rfl, rfl, rfl, by decide +kernel, rfl, by decide +kernel, by decide +kernel⟩
abbrev p_led_below : List Str := ["numbers"]
abbrev n_led_below : List Str := ["numbers", "walk", "places"]
theorem sc_led_below : FnScope n_led_below p_led_below (defScope s_led_below) := ⟨rfl, rfl, rfl, by decide +kernel, rfl, by decide +kernel, by decide +kernel⟩
abbrev p_double_place : List Str := ["row"]
abbrev n_double_place : List Str := ["row", "first", "middle", "last", "place", "share"]
theorem sc_double_place : FnScope n_double_place p_double_place (defScope s_double_place) := ⟨rfl, rfl, rfl, by decide +kernel, rfl, by decide +kernel, by decide +kernel⟩
abbrev p_with_first : List Str := ["place"]
abbrev n_with_first : List Str := ["place", "one", "other", "sign", "many", "left", "right"]
theorem sc_with_first : FnScope n_with_first p_with_first (defScope s_with_first) := ⟨rfl, rfl, rfl, by decide +kernel, rfl, by decide +kernel, by decide +kernel⟩
abbrev p_last_way : List Str := ["row"]
abbrev n_last_way : List Str := ["row", "third", "fourth", "way", "many"]
theorem sc_last_way : FnScope n_last_way p_last_way (defScope s_last_way) := ⟨rfl, rfl, rfl, by decide +kernel, rfl, by decide +kernel, by decide +kernel⟩
abbrev p_led_zero : List Str := ["row"]
abbrev n_led_zero : List Str := ["row", "way"]
theorem sc_led_zero : FnScope n_led_zero p_led_zero (defScope s_led_zero) := ⟨rfl, rfl, rfl, by decide +kernel, rfl, by decide +kernel, by decide +kernel⟩
abbrev p_least_of : List Str := ["numbers"]
abbrev n_least_of : List Str := ["numbers", "discriminant"]
theorem sc_least_of : FnScope n_least_of p_least_of (defScope s_least_of) := ⟨rfl, rfl, rfl, by decide +kernel, rfl, by decide +kernel, by decide +kernel⟩
abbrev p_least_row : List Str := ["row"]
abbrev n_least_row : List Str := ["row"]
theorem sc_least_row : FnScope n_least_row p_least_row (defScope s_least_row) := ⟨rfl, rfl, rfl, by decide +kernel, rfl, by decide +kernel, by decide +kernel⟩
abbrev p_least_made : List Str := ["numbers"]
abbrev n_least_made : List Str := ["numbers"]
theorem sc_least_made : FnScope n_least_made p_least_made (defScope s_least_made) := ⟨rfl, rfl, rfl, by decide +kernel, rfl, by decide +kernel, by decide +kernel⟩
abbrev p_require_short : List Str := ["numbers"]
abbrev n_require_short : List Str := ["numbers", "entry"]
theorem sc_require_short : FnScope n_require_short p_require_short (defScope s_require_short) := ⟨rfl, rfl, rfl, by decide +kernel, rfl, by decide +kernel, by decide +kernel⟩
abbrev p_is_least : List Str := ["form"]
abbrev n_is_least : List Str := ["form"]
theorem sc_is_least : FnScope n_is_least p_is_least (defScope s_is_least) := ⟨rfl, rfl, rfl, by decide +kernel, rfl, by decide +kernel, by decide +kernel⟩
abbrev p_least_form : List Str := ["form"]
abbrev n_least_form : List Str := ["form"]
theorem sc_least_form : FnScope n_least_form p_least_form (defScope s_least_form) := ⟨rfl, rfl, rfl, by decide +kernel, rfl, by decide +kernel, by decide +kernel⟩
abbrev p_form_told : List Str := ["coefficients"]
abbrev n_form_told : List Str := ["coefficients"]
theorem sc_form_told : FnScope n_form_told p_form_told (defScope s_form_told) := ⟨rfl, rfl, rfl, by decide +kernel, rfl, by decide +kernel, by decide +kernel⟩
abbrev p_made_form : List Str := ["numbers"]
abbrev n_made_form : List Str := ["numbers"]
theorem sc_made_form : FnScope n_made_form p_made_form (defScope s_made_form) := ⟨rfl, rfl, rfl, by decide +kernel, rfl, by decide +kernel, by decide +kernel⟩
abbrev p_require_form : List Str := ["value"]
abbrev n_require_form : List Str := ["value"]
theorem sc_require_form : FnScope n_require_form p_require_form (defScope s_require_form) := ⟨rfl, rfl, rfl, by decide +kernel, rfl, by decide +kernel, by decide +kernel⟩
abbrev p__law_crock : List Str := ["_law_script", "_law_turn"]
abbrev n__law_crock : List Str := ["_law_script", "_law_turn", "_law_cell", "_law_great"]
theorem sc__law_crock : FnScope n__law_crock p__law_crock (defScope s__law_crock) := ⟨rfl, rfl, rfl, by decide +kernel, rfl, by decide +kernel, by decide +kernel⟩
abbrev p__law_scoop : List Str := ["_law_crock_here", "_law_many"]
abbrev n__law_scoop : List Str := ["_law_crock_here", "_law_many", "_law_one", "_law_two", "_law_found"]
theorem sc__law_scoop : FnScope n__law_scoop p__law_scoop (defScope s__law_scoop) := ⟨rfl, rfl, rfl, by decide +kernel, rfl, by decide +kernel, by decide +kernel⟩
abbrev p__law_lines : List Str := ["_law_lines_here"]
abbrev n__law_lines : List Str := ["_law_lines_here", "_law_found", "_law_one", "_law_other", "_law_left", "_law_right_here"]
theorem sc__law_lines : FnScope n__law_lines p__law_lines (defScope s__law_lines) := ⟨rfl, rfl, rfl, by decide +kernel, rfl, by decide +kernel, by decide +kernel⟩
abbrev p__law_led : List Str := ["_law_form", "_law_change_here"]
abbrev n__law_led : List Str := ["_law_form", "_law_change_here", "_law_p", "_law_q", "_law_r", "_law_s", "_law_first", "_law_second", "_law_found", "_law_at_here", "_law_entry", "_law_sense", "_law_lines_here", "_law_one", "_law_more"]
theorem sc__law_led : FnScope n__law_led p__law_led (defScope s__law_led) := ⟨rfl, rfl, rfl, by decide +kernel, rfl, by decide +kernel, by decide +kernel⟩
abbrev p__law_discriminant : List Str := ["_law_form"]
abbrev n__law_discriminant : List Str := ["_law_form", "_law_a", "_law_b", "_law_c", "_law_d", "_law_first"]
theorem sc__law_discriminant : FnScope n__law_discriminant p__law_discriminant (defScope s__law_discriminant) := ⟨rfl, rfl, rfl, by decide +kernel, rfl, by decide +kernel, by decide +kernel⟩
abbrev p__law_at : List Str := ["_law_form", "_law_x", "_law_y"]
abbrev n__law_at : List Str := ["_law_form", "_law_x", "_law_y", "_law_a", "_law_b", "_law_c", "_law_d"]
theorem sc__law_at : FnScope n__law_at p__law_at (defScope s__law_at) := ⟨rfl, rfl, rfl, by decide +kernel, rfl, by decide +kernel, by decide +kernel⟩
abbrev p__law_has_root : List Str := ["_law_form"]
abbrev n__law_has_root : List Str := ["_law_form", "_law_prime", "_law_y", "_law_x"]
theorem sc__law_has_root : FnScope n__law_has_root p__law_has_root (defScope s__law_has_root) := ⟨rfl, rfl, rfl, by decide +kernel, rfl, by decide +kernel, by decide +kernel⟩
abbrev p__law_small : List Str := ["_law_crock_here", "_law_most"]
abbrev n__law_small : List Str := ["_law_crock_here", "_law_most", "_law_at_here"]
theorem sc__law_small : FnScope n__law_small p__law_small (defScope s__law_small) := ⟨rfl, rfl, rfl, by decide +kernel, rfl, by decide +kernel, by decide +kernel⟩
abbrev p__law_is_mathews : List Str := ["_law_form"]
abbrev n__law_is_mathews : List Str := ["_law_form", "_law_a", "_law_b", "_law_c", "_law_d", "_law_middle"]
theorem sc__law_is_mathews : FnScope n__law_is_mathews p__law_is_mathews (defScope s__law_is_mathews) := ⟨rfl, rfl, rfl, by decide +kernel, rfl, by decide +kernel, by decide +kernel⟩
abbrev p__law_hessian : List Str := ["_law_form"]
abbrev n__law_hessian : List Str := ["_law_form", "_law_a", "_law_b", "_law_c", "_law_d"]
theorem sc__law_hessian : FnScope n__law_hessian p__law_hessian (defScope s__law_hessian) := ⟨rfl, rfl, rfl, by decide +kernel, rfl, by decide +kernel, by decide +kernel⟩
abbrev p__law_is_greatest : List Str := ["_law_form"]
abbrev n__law_is_greatest : List Str := ["_law_form", "_law_due", "_law_sizes", "_law_rows", "_law_p", "_law_q", "_law_r", "_law_s", "_law_other"]
theorem sc__law_is_greatest : FnScope n__law_is_greatest p__law_is_greatest (defScope s__law_is_greatest) := ⟨rfl, rfl, rfl, by decide +kernel, rfl, by decide +kernel, by decide +kernel⟩
abbrev p__law_is_due : List Str := ["_law_form"]
abbrev n__law_is_due : List Str := ["_law_form", "_law_number", "_law_a", "_law_b", "_law_c", "_law_d"]
theorem sc__law_is_due : FnScope n__law_is_due p__law_is_due (defScope s__law_is_due) := ⟨rfl, rfl, rfl, by decide +kernel, rfl, by decide +kernel, by decide +kernel⟩
abbrev p__law_drawn : List Str := ["_law_crock_here"]
abbrev n__law_drawn : List Str := ["_law_crock_here", "_law_way"]
theorem sc__law_drawn : FnScope n__law_drawn p__law_drawn (defScope s__law_drawn) := ⟨rfl, rfl, rfl, by decide +kernel, rfl, by decide +kernel, by decide +kernel⟩
abbrev p__law_right : List Str := ["_law_crock_here"]
abbrev n__law_right : List Str := ["_law_crock_here", "_law_form", "_law_due", "_law_one"]
theorem sc__law_right : FnScope n__law_right p__law_right (defScope s__law_right) := ⟨rfl, rfl, rfl, by decide +kernel, rfl, by decide +kernel, by decide +kernel⟩
abbrev p_law : List Str := ["_law_script"]
abbrev n_law : List Str := ["_law_script", "_law_turn", "_law_rows", "_law_crock_here", "_law_case", "_law_row"]
theorem sc_law : FnScope n_law p_law (defScope s_law) := ⟨rfl, rfl, rfl, by decide +kernel, rfl, by decide +kernel, by decide +kernel⟩
abbrev p_KeptForm_init : List Str := ["self", "numbers"]
abbrev n_KeptForm_init : List Str := ["self", "numbers"]
theorem sc_KeptForm_init : FnScope n_KeptForm_init p_KeptForm_init (defScope s_KeptForm_init) := ⟨rfl, rfl, rfl, by decide +kernel, rfl, by decide +kernel, by decide +kernel⟩
abbrev p_Form_init : List Str := ["self", "coefficients"]
abbrev n_Form_init : List Str := ["self", "coefficients"]
theorem sc_Form_init : FnScope n_Form_init p_Form_init (defScope s_Form_init) := ⟨rfl, rfl, rfl, by decide +kernel, rfl, by decide +kernel, by decide +kernel⟩
abbrev p_Form_coefficients : List Str := ["self"]
abbrev n_Form_coefficients : List Str := ["self"]
theorem sc_Form_coefficients : FnScope n_Form_coefficients p_Form_coefficients (defScope s_Form_coefficients) := ⟨rfl, rfl, rfl, by decide +kernel, rfl, by decide +kernel, by decide +kernel⟩
abbrev p_Form_eq : List Str := ["self", "other"]
abbrev n_Form_eq : List Str := ["self", "other"]
theorem sc_Form_eq : FnScope n_Form_eq p_Form_eq (defScope s_Form_eq) := ⟨rfl, rfl, rfl, by decide +kernel, rfl, by decide +kernel, by decide +kernel⟩
abbrev p_Walk_init : List Str := ["self", "numbers"]
abbrev n_Walk_init : List Str := ["self", "numbers"]
theorem sc_Walk_init : FnScope n_Walk_init p_Walk_init (defScope s_Walk_init) := ⟨rfl, rfl, rfl, by decide +kernel, rfl, by decide +kernel, by decide +kernel⟩
abbrev p_Walk_step : List Str := ["self", "change"]
abbrev n_Walk_step : List Str := ["self", "change"]
theorem sc_Walk_step : FnScope n_Walk_step p_Walk_step (defScope s_Walk_step) := ⟨rfl, rfl, rfl, by decide +kernel, rfl, by decide +kernel, by decide +kernel⟩
end FR
end
section
set_option Elab.async false
set_option linter.all false
set_option maxRecDepth 100000
set_option maxHeartbeats 4000000
/-! Defs by their compiled bodies (FunD); places in the text; a list that a loop extends. -/
namespace FR
open PySem PySem.Spec PyProof.Rows L2 DV

abbrev FnP (K : PySem.W.Frag) (x qual : Str) (st : Stmt) (f : Addr) (fd : FuncData) : Prop := FunD K x qual (defArgs st) (defBody st) (defScope st) [] [] f fd
section
variable {P : Program} {w : World} {K : PySem.W.Frag} {mg : Str → Option Value} {base : Heap} {x qual : Str} {st : Stmt} {f : Addr} {fd : FuncData} {N ps : List Str} {k : Nat} {T : Tab}
theorem FnP.binds1 (F : FnP K x qual st f fd) (h : ∀ (kV doc pm : Value) (an : Option Addr) (cdv ct : Value) (us : List Value), us.length = ps.length → bindArgs (PySem.W.fnOf x qual (defArgs st) (defBody st) (defScope st) .none kV doc pm an cdv ct) ⟨us, []⟩ = Pure.pure (ps.zip us)) : Binds K fd ps [] :=
  FunD.bindsN F h
/-- a def whose promise is told by a function of data; the body's reading is any that serves -/
theorem def_by {m : List D → Option D} (F : FnP K x qual st f fd) (S : FnScope N ps (defScope st)) (hm : ∀ ds d, m ds = some d → ds.length = ps.length)
    (hb : ∀ X : Cx, Fam ⟨P, w, K, mg, base, k, N⟩ (defScope st) true X → ∃ t, PSs X (defBody st) t ∧ ∀ σ H δ ds d (Dd : Ends), EnvD K H σ δ → m ds = some d → ds.length = ps.length → δ = ds.map some ++ List.replicate (N.length - ps.length) none → σ.length = N.length → Reach K Dd H (.rt d) → (∀ v σ' H', Same H H' → Den K H' d v → d = .non → Dd.nx σ' H') → t Dd σ H) :
    FnOk P w K mg base CX0 (k + 1) f fd ps (spD K ps.length m) := by
  refine F.ok S (fun vs H Q E h => ?_) (fun cdv A outer s H vs Q E hr h => ?_)
  · obtain ⟨ds, d, e, _⟩ := h
    exact e
  · obtain ⟨ds, d, e, hd, hdm, hQ⟩ := h
    obtain ⟨t, pt, qt⟩ := hb (cxOf CX0 P w K mg base N qual (defScope st) f cdv A outer s H E).nox (fam_def hr)
    refine ⟨t, PSs.nox pt, ?_⟩
    have hl : ds.length = ps.length := hm ds d hdm
    have hpl : ps.length ≤ N.length := by
      have q := congrArg List.length S.pre
      rw [List.length_take] at q
      omega
    have he := env_start (N := N) hd (by rw [hl]; exact hpl)
    rw [hl] at he
    refine qt _ _ _ ds d _ he hdm hl rfl (by rw [he.1]; simp [hl]; omega) (fun v H' s1 dv => hQ v H' s1 dv) fun v σ' H' s1 dv hn => ?_
    subst hn
    exact hQ .non H' s1 rfl
theorem defD_ok (F : FnP K x qual st f fd) (S : FnScope N ps (defScope st)) (ok : TabOk ⟨P, w, K, mg, base, k, N⟩ T) : FnOk P w K mg base CX0 (k + 1) f fd ps (spD K ps.length (defD T N ps.length st)) := by
  refine F.ok S (fun vs H Q E h => ?_) (fun cdv A outer s H vs Q E hr h => ?_)
  · obtain ⟨ds, d, e, _⟩ := h
    exact e
  · obtain ⟨ds, d, e, hd, hm, hQ⟩ := h
    obtain ⟨t, pt, qt⟩ := (soundS ok (defScope st) 60).ss (defBody st)
    refine ⟨t, PSs.nox (pt _ (fam_def hr)), ?_⟩
    have hl : ds.length = ps.length := by rw [← hd.length]; exact e
    have hpl : ps.length ≤ N.length := by
      have q := congrArg List.length S.pre
      rw [List.length_take] at q
      omega
    unfold defD runB at hm
    rw [if_pos hl, Option.bind_eq_some_iff] at hm
    obtain ⟨o, e1, e2⟩ := hm
    cases e2
    refine qt (L2.start N vs) H _ o _ (env_start hd (by rw [hl]; exact hpl)) (by rw [hl]; exact e1) ?_
    cases o with
    | nx δ => exact fun σ' H' s1 _ => hQ .non H' s1 rfl
    | rt z => exact fun v H' s1 dv => hQ v H' s1 dv
/-- a promise by another function that agrees where it answers -/
theorem spD_imp {n : Nat} {m m' : List D → Option D} (h : ∀ ds d, m' ds = some d → m ds = some d) (F : FnOk P w K mg base CX0 k f fd ps (spD K n m)) : FnOk P w K mg base CX0 k f fd ps (spD K n m') :=
  F.imp (fun vs H Q E q => by
    obtain ⟨ds, d, e1, e2, e3, e4⟩ := q
    exact ⟨ds, d, e1, e2, h ds d e3, e4⟩)
end
/-! ### places in the text -/
def stA (st : Stmt) (i : Nat) : Stmt := (defBody st).getD i (.Pass ⟨0, 0, 0, 0⟩)
def noE : Expr := .Constant .none 0 ⟨0, 0, 0, 0⟩
def asgV : Stmt → Expr
  | .Assign _ e _ => e
  | _ => noE
def tupA : Expr → Nat → Expr
  | .Tuple es _ _, i => es.getD i noE
  | .List es _, i => es.getD i noE
  | _, _ => noE
def retV : Stmt → Expr
  | .Return (some e) _ => e
  | _ => noE
def exprV : Stmt → Expr
  | .Expr e _ => e
  | _ => noE
def ifC : Stmt → Expr
  | .If c _ _ _ => c
  | _ => noE
def ifA : Stmt → Nat → Stmt
  | .If _ a _ _, i => a.getD i (.Pass ⟨0, 0, 0, 0⟩)
  | .While _ a _ _, i => a.getD i (.Pass ⟨0, 0, 0, 0⟩)
  | .For _ _ a _ _, i => a.getD i (.Pass ⟨0, 0, 0, 0⟩)
  | _, _ => .Pass ⟨0, 0, 0, 0⟩
def forI : Stmt → Expr
  | .For _ it _ _ _ => it
  | .While c _ _ _ => c
  | _ => noE
def forT : Stmt → Expr
  | .For t _ _ _ _ => t
  | _ => noE
def argA : Expr → Nat → Expr
  | .Call _ es _ _, i => es.getD i noE
  | .BinOp a _ b _, i => if i = 0 then a else b
  | .Compare a _ bs _, i => if i = 0 then a else bs.getD (i - 1) noE
  | .UnaryOp _ a _, _ => a
  | .BoolOp _ es _, i => es.getD i noE
  | .Subscript a b _, i => if i = 0 then a else b
  | .IfExp c a b _, i => if i = 0 then c else if i = 1 then a else b
  | _, _ => noE
def recA : Expr → Expr
  | .Call (.Attribute o _ _) _ _ _ => o
  | .Attribute o _ _ => o
  | _ => noE
/-- every known slot holds data without a list -/
def flatE (δ : DEnv) : Bool := δ.all fun o => match o with
  | some d => DV.flat d
  | none => true
theorem env_upd {K : PySem.W.Frag} {H : Hp} {σ : DV.St} {δ : DEnv} {b : Addr} {ws : List V} {o' : HO} (h : EnvD K H σ δ) (hf : flatE δ = true) (hb : H b = some (.lst ws)) : EnvD K (upd H b o') σ δ := ⟨h.1, fun i d q => by
  obtain ⟨v, e1, e2⟩ := h.2 i d q
  have fl := List.all_eq_true.mp hf (some d) (List.mem_of_getElem? q)
  exact ⟨v, e1, Den.upd hb d v fl e2⟩⟩
theorem flatL_append : ∀ {a b : List D}, flatL a = true → flatL b = true → flatL (a ++ b) = true
  | [], _, _, h => h
  | d :: ds, _, h, k => by
    have h' : DV.flat d = true ∧ flatL ds = true := by simpa [flatL] using h
    show (DV.flat d && flatL (ds ++ _)) = true
    rw [h'.1, flatL_append h'.2 k]
    rfl
end FR
end
section
set_option Elab.async false
set_option linter.all false
set_option maxRecDepth 100000
set_option maxHeartbeats 4000000
/-! _law_is_greatest: a list that a loop extends. -/
namespace FR
open PySem PySem.Spec PyProof.Rows L2 DV
/-- the turns of a loop that extends a list kept apart (its slot unknown in δ) -/
def extD (i : Nat) (fc : DEnv → Option D) : List D → DEnv → List D → Option (DEnv × List D)
  | [], δ, acc => some (δ, acc)
  | p :: r, δ, acc => (fc (δ.set i (some p))).bind fun x => match x with
    | .lst xs => if flatL xs = true ∧ acc.length + xs.length ≤ 1000 ∧ flatE (δ.set i (some p)) = true then extD i fc r (δ.set i (some p)) (acc ++ xs) else none
    | _ => none
/-- the body of an if that only leaves -/
def ifB : Stmt → List Stmt
  | .If _ a _ _ => a
  | _ => []
/-- an if without else whose body returns: the environment is as it was -/
def ifCut (t : DEnv → Option Bool) (b : FS) : FS := fun δ => (t δ).bind fun c => if c = true then (b δ).bind fun o => match o with
      | .rt d => some (.rt d)
      | .nx _ => none
    else some (.nx δ)
def tupIt : Option D → Option (List D)
  | some (.tup ds) => if flatL ds = true then some ds else none
  | _ => none
theorem same_upd {H0 H : Hp} {L : Addr} {o : HO} (s : Same H0 H) (hL : H0 L = none) : Same H0 (upd H L o) := fun b u e => by
  have n : b ≠ L := by intro q; subst q; rw [hL] at e; cases e
  rw [upd_ne n]
  exact s b u e
theorem set_own {α : Type} {l : List α} {i : Nat} {v : α} (h : l[i]? = some v) : l.set i v = l := by
  apply List.ext_getElem?
  intro j
  by_cases e : i = j
  · subst e
    have hlt : i < l.length := by
      apply Classical.byContradiction
      intro q
      rw [List.getElem?_eq_none (by omega)] at h
      cases h
    rw [List.getElem?_set_self hlt, h]
  · rw [List.getElem?_set_ne e]
/-- the turns, walked -/
theorem ext_walk {K : PySem.W.Frag} {te : TE} {fc : DEnv → Option D} {i : Nat} {a L : Addr} {ps : List D} {ws : List V}
    {H0 H1 : Hp} {σ1 : DV.St} {δ1 δ2 : DEnv} {acc : List D} {Dd : Ends} (hi : i ≠ 3)
    (qe : ∀ σ H δ d Q, EnvD K H σ δ → fc δ = some d → (∀ v H', Same H H' → Den K H' d v → Q v H') → te σ H Q) (hL : H0 L = none) (s1 : Same H0 H1) (he : EnvD K H1 σ1 δ1) (h3 : σ1[3]? = some (some (.ref L))) (hl : H1 L = some (.lst []))
    (hq : SqT K H1 a ws) (hd : DenL K H1 ps ws) (hf : flatL ps = true) (hx : extD i fc ps δ1 [] = some (δ2, acc))
    (hQ : ∀ σ H, Same H0 H → EnvD K H (σ) (δ2.set 3 (some (.lst acc))) → Dd.nx σ H) :
    ∃ W : Nat → Nat → DV.St → Hp → Prop, (∃ m, W 0 m σ1 H1) ∧ ∀ k m σ H, W k m σ H →
      ((Itt K a).stop k H ∧ Dd.nx σ H) ∨ ((Itt K a).go k H ∧ ∃ N : DV.St → Hp → Prop, (∀ σ' H', N σ' H' → ∃ m', m' < m ∧ W (k + 1) m' σ' H') ∧ ∀ x H', (Itt K a).yld k H x H' → gName i x σ H' fun σ2 H2 => tSeq (tDrop (tBM K "list" rExtend (tVar 3) (tCons te tNil))) tNext { Dd with nx := N, ct := N, bk := Dd.nx } σ2 H2) := by
  refine ⟨fun k m σ H => m = ps.length - k ∧ k ≤ ps.length ∧ Same H0 H ∧ SqT K H a ws ∧ DenL K H ps ws ∧ ∃ δ ac us, EnvD K H σ δ ∧ σ[3]? = some (some (.ref L)) ∧ H L = some (.lst us) ∧ DenL K H ac us ∧ flatL ac = true ∧ extD i fc (ps.drop k) δ ac = some (δ2, acc), ⟨ps.length, by simp, Nat.zero_le _, s1, hq, hd, δ1, [], [], he, h3, hl, DenL.nil, rfl, hx⟩, ?_⟩
  rintro k m σ H ⟨rfl, hk, s2, hq2, hd2, δ, ac, us, he2, h32, hl2, hac, hfa, hx2⟩
  by_cases hlt : k < ps.length
  · have hdrop : ps.drop k = ps[k] :: ps.drop (k + 1) := List.drop_eq_getElem_cons hlt
    rw [hdrop] at hx2
    unfold extD at hx2
    rw [Option.bind_eq_some_iff] at hx2
    obtain ⟨x, e1, hx2⟩ := hx2
    split at hx2
    · rename_i xs
      split at hx2
      · rename_i hc
        obtain ⟨c1, c2, c3⟩ := hc
        obtain ⟨v, ev, dv⟩ := hd2.get (show ps[k]? = some ps[k] by simp [hlt])
        refine .inr ⟨⟨ws, v, hq2, ev⟩, fun σ' H' => ps.length - (k + 1) < ps.length - k ∧ Same H0 H' ∧ SqT K H' a ws ∧ DenL K H' ps ws ∧ ∃ δ ac us, EnvD K H' σ' δ ∧ σ'[3]? = some (some (.ref L)) ∧ H' L = some (.lst us) ∧ DenL K H' ac us ∧ flatL ac = true ∧ extD i fc (ps.drop (k + 1)) δ ac = some (δ2, acc), fun σ' H' h => ⟨_, h.1, rfl, hlt, h.2⟩, fun x H' y => ?_⟩
        obtain ⟨rfl, y⟩ := y
        have ex := y ws hq2
        rw [ev] at ex
        cases ex
        have he3 := he2.set i dv
        show tSeq _ _ _ (σ.set i (some v)) H'
        refine ⟨.ref L, ?_, ?_⟩
        · rw [List.getElem?_set_ne hi]; exact h32
        refine ⟨.inl ⟨rfl, us, .inl (.inl hl2)⟩, ?_⟩
        refine qe _ _ _ _ _ he3 e1 fun w H3 s3 d3 => ?_
        obtain ⟨b, zs, rfl, hb, dz⟩ := d3
        have hL3 : H3 L = some (.lst us) := s3 _ _ hl2
        have hlen : us.length = ac.length := hac.length
        have hlen2 : zs.length = xs.length := dz.length
        refine ⟨L, b, us, zs, rfl, rfl, hL3, hb, by rw [hlen, hlen2]; exact Nat.le_trans c2 (by decide), ?_⟩
        have he4 := env_upd (o' := .lst (us ++ zs)) (he3.same s3) c3 hL3
        refine ⟨by omega, same_upd (s2.trans s3) hL, seqT_upd hL3 (fun _ q => nomatch q) (fun _ _ q => nomatch q) (seqT s3 hq2), DenL.upd hL3 _ _ hf (DenL.same s3 _ _ hd2), _, _, _, he4, ?_, upd_same, (DenL.upd hL3 _ _ hfa (DenL.same s3 _ _ hac)).append (DenL.upd hL3 _ _ c1 dz), flatL_append hfa c1, hx2⟩
        rw [List.getElem?_set_ne hi]; exact h32
      · cases hx2
    · cases hx2
  · have ek : k = ps.length := by omega
    subst ek
    rw [List.drop_length] at hx2
    cases hx2
    refine .inl ⟨⟨ws, hq2, by rw [hd2.length]; exact Nat.le_refl _⟩, hQ σ H s2 ?_⟩
    have e3 := he2.set 3 (d := .lst acc) (v := .ref L) ⟨L, us, rfl, hl2, hac⟩
    rw [set_own h32] at e3
    exact e3
abbrev gS1 : Stmt := stA s__law_is_greatest 0
abbrev gS2 : Stmt := stA s__law_is_greatest 1
abbrev gS3 : Stmt := stA s__law_is_greatest 2
abbrev gB : List Stmt := (defBody s__law_is_greatest).drop 3
abbrev gN : List Str := n__law_is_greatest
def gSc : Scope := defScope s__law_is_greatest
def m_greatest (T : Tab) : List D → Option D := fun ds => if ds.length = 1 then
  (cE T gN gSc 40 (tupA (asgV gS1) 0) (ds.map some ++ List.replicate 8 none)).bind fun due => (cE T gN gSc 40 (tupA (asgV gS1) 1) (ds.map some ++ List.replicate 8 none)).bind fun sizes =>
    (ifCut (cT T gN gSc 40 (ifC gS2)) (cSs T gN gSc 40 (ifB gS2)) (((ds.map some ++ List.replicate 8 none).set 1 (some due)).set 2 (some sizes))).bind fun o => match o with
      | .rt d => some d
      | .nx δ2 => if flatE δ2 = true then (tupIt (cE T gN gSc 40 (forI gS3) δ2)).bind fun ps => (extD 4 (cE T gN gSc 40 (argA (exprV (ifA gS3 0)) 0)) ps δ2 []).bind fun q => (cSs T gN gSc 40 gB (q.1.set 3 (some (.lst q.2)))).bind fun o => match o with
          | .rt d => some d
          | .nx _ => none
        else none
  else none
/-- the name at a slot may be stored -/
theorem place_of {c : DV.Ctx} {sc : Scope} {X : Cx} (hX : Fam c sc true X) (hN : c.N.Nodup) {i : Nat} {x : Str} (h1 : c.N[i]? = some x) (h2 : isStore true (sc.names.lookup x) = true) : Place X i x :=
  ⟨by rw [hX.N]; exact hN, by rw [hX.N]; exact h1, (fam_store hX h2).1, (fam_store hX h2).2⟩
section
variable {P : Program} {w : World} {K : PySem.W.Frag} {mg : Str → Option Value} {base : Heap} {k : Nat} {T : Tab} {f : Addr} {fd : FuncData}
theorem ok_greatest (F : FnP K "_law_is_greatest" "_law_is_greatest" s__law_is_greatest f fd) (ok : TabOk ⟨P, w, K, mg, base, k, gN⟩ T) : FnOk P w K mg base CX0 (k + 1) f fd ["_law_form"] (spD K 1 (m_greatest T)) := by
  refine def_by (ps := ["_law_form"]) F sc__law_is_greatest (fun ds d h => ?_) fun X hX => ?_
  · unfold m_greatest at h
    split at h
    · assumption
    · cases h
  have hXg : Fam ⟨P, w, K, mg, base, k, gN⟩ gSc true X := hX
  obtain ⟨ta, pa, qa⟩ := (sound ok 40).e gSc true (tupA (asgV gS1) 0)
  obtain ⟨tb, pb, qb⟩ := (sound ok 40).e gSc true (tupA (asgV gS1) 1)
  obtain ⟨t2, p2, q2⟩ := (sound ok 40).t gSc true (ifC gS2)
  obtain ⟨u2, r2, w2⟩ := (soundS ok gSc 40).ss (ifB gS2)
  obtain ⟨wi, pi, qi⟩ := (sound ok 40).e gSc true (forI gS3)
  obtain ⟨te, pe, qe⟩ := (sound ok 40).e gSc true (argA (exprV (ifA gS3 0)) 0)
  obtain ⟨t4, p4, q4⟩ := (soundS ok gSc 40).ss gB
  have eK : X.K = K := hX.K
  have pl1 : Place X 1 "_law_due" := place_of hXg ok.nd rfl (by decide +kernel)
  have pl2 : Place X 2 "_law_sizes" := place_of hXg ok.nd rfl (by decide +kernel)
  have pl3 : Place X 3 "_law_rows" := place_of hXg ok.nd rfl (by decide +kernel)
  have pl4 : Place X 4 "_law_p" := place_of hXg ok.nd rfl (by decide +kernel)
  have lk : ∀ x : Str, gSc.names.lookup x = some .local → X.env.scope.names.lookup x = some .local := fun x h => by rw [hXg.sc]; exact h
  have s1 : PS X gS1 (tPar3 1 2 3 (tCons ta (tCons tb (tCons (tLst tNil) tNil)))) :=
    ps_par3 hX.calm pl1.nd pl1.at_ pl2.at_ pl3.at_ (by decide) (by decide) (by decide) (lk _ (by decide +kernel)) (lk _ (by decide +kernel)) (lk _ (by decide +kernel)) (pa_cons (pa X hXg) (pa_cons (pb X hXg) (pa_cons (pe_lst pa_nil) pa_nil)))
      (swp_ok hXg.sc (by decide +kernel) (by decide +kernel)) (swaps_sole _ _ _)
  have s2 : PS X gS2 (tIfS t2 u2 tNext) := ps_if (p2 X hXg) (r2 X hXg) pss_nil
  have s3 : PS X gS3 (tFor (iTup X.K wi) (gName 4) (tSeq (tDrop (tBM X.K "list" rExtend (tVar 3) (tCons te tNil))) tNext)) :=
    ps_for hX.po hX.calm (pi_tup (pi X hXg)) (pg_name pl4.nd pl4.at_ pl4.loc pl4.ok)
      (pss_cons (ps_expr (pe_bm PySem.F.plainAttrs_list PySem.F.slot_list_extend PySem.F.type_list_extend mt_extend (pe_var pl3.at_ (fam_vis hXg (by decide +kernel))) (pa_cons (pe X hXg) pa_nil))) pss_nil)
  refine ⟨_, pss_cons s1 (pss_cons s2 (pss_cons s3 (p4 X hXg))), fun σ H δ ds d Dd he hm hl hδ hσ hR hN => ?_⟩
  unfold m_greatest at hm
  rw [if_pos (show ds.length = 1 from hl)] at hm
  rw [Option.bind_eq_some_iff] at hm
  obtain ⟨due, e1, hm⟩ := hm
  rw [Option.bind_eq_some_iff] at hm
  obtain ⟨sizes, e2, hm⟩ := hm
  rw [Option.bind_eq_some_iff] at hm
  obtain ⟨o, e3, hm⟩ := hm
  have hδ' : δ = ds.map some ++ List.replicate 8 none := hδ
  rw [← hδ'] at e1 e2 e3
  have hln : σ.length = 9 := hσ
  refine qa σ H δ due _ he e1 fun v1 H1 a1 d1 => ?_
  refine qb σ H1 δ sizes _ (he.same a1) e2 fun v2 H2 a2 d2 => ?_
  refine ⟨by decide, fun L hL => ?_⟩
  refine ⟨v1, v2, .ref L, rfl, ?_⟩
  have a12 := a1.trans a2
  have a3 : Same H2 (upd H2 L (.lst [])) := same_upd (Same.refl _) hL
  have he3 : EnvD K (upd H2 L (.lst [])) (((σ.set 1 (some v1)).set 2 (some v2)).set 3 (some (.ref L))) (((δ.set 1 (some due)).set 2 (some sizes)).set 3 none) :=
    ((((he.same a12).same a3).set 1 (Den.same (a2.trans a3) _ _ d1)).set 2 (Den.same a3 _ _ d2)).unset 3 (some (.ref L))
  have hn3 : ((δ.set 1 (some due)).set 2 (some sizes)).set 3 none = (δ.set 1 (some due)).set 2 (some sizes) := by
    apply set_own
    rw [List.getElem?_set_ne (by decide), List.getElem?_set_ne (by decide), hδ']
    have : ds.length = 1 := hl
    match ds, this with
    | [q], _ => rfl
  rw [hn3] at he3
  generalize hδ1 : (δ.set 1 (some due)).set 2 (some sizes) = δ1 at he3 e3
  generalize hH3 : upd H2 L (.lst []) = H3 at a3 he3
  generalize hσ1 : ((σ.set 1 (some v1)).set 2 (some v2)).set 3 (some (.ref L)) = σ1 at he3
  have hs3 : σ1[3]? = some (some (.ref L)) := by
    rw [← hσ1, List.getElem?_set_self]
    simp [hln]
  have hl3 : H3 L = some (.lst []) := by rw [← hH3]; exact upd_same
  have hL0 : H L = none := by
    cases q : H L with
    | none => rfl
    | some u => have := a12 _ _ q; rw [hL] at this; cases this
  have aH3 : Same H H3 := a12.trans a3
  show tSeq (tIfS t2 u2 tNext) _ Dd σ1 H3
  unfold ifCut at e3
  rw [Option.bind_eq_some_iff] at e3
  obtain ⟨cc, e4, e3⟩ := e3
  refine q2 σ1 H3 δ1 cc _ he3 e4 fun H4 a4 => ?_
  cases cc with
  | true =>
    rw [if_pos rfl] at e3 ⊢
    rw [Option.bind_eq_some_iff] at e3
    obtain ⟨o2, e5, e3⟩ := e3
    cases o2 with
    | nx _ => cases e3
    | rt z =>
      cases e3
      cases hm
      exact w2 σ1 H4 δ1 (.rt d) _ (he3.same a4) e5 (hR.same (aH3.trans a4))
  | false =>
    rw [if_neg (by decide)] at e3 ⊢
    cases e3
    dsimp only at hm
    split at hm
    · rename_i hfl
      rw [Option.bind_eq_some_iff] at hm
      obtain ⟨ps, e5, hm⟩ := hm
      rw [Option.bind_eq_some_iff] at hm
      obtain ⟨q, e6, hm⟩ := hm
      rw [Option.bind_eq_some_iff] at hm
      obtain ⟨o2, e7, hm⟩ := hm
      cases o2 with
      | nx _ => cases hm
      | rt z =>
        cases hm
        cases hc : cE T gN gSc 40 (forI gS3) δ1 with
        | none => rw [hc] at e5; cases e5
        | some dd =>
          rw [hc] at e5
          unfold tupIt at e5
          split at e5
          · rename_i ds2 hcc
            cases hcc
            split at e5
            · cases e5
              rename_i hfp
              have he5 := he3.same a4
              refine qi σ1 H4 δ1 _ _ he5 hc fun w H5 a5 d5 => ?_
              obtain ⟨a, ws, rfl, hq, hd5⟩ := d5
              refine ⟨a, rfl, ⟨ws, by rw [eK]; exact hq⟩, ?_⟩
              rw [eK]
              refine ext_walk (by decide) qe hL0 (aH3.trans (a4.trans a5)) (he5.same a5) hs3 (a5 _ _ (a4 _ _ hl3)) hq hd5 hfp (acc := q.2) (δ2 := q.1) e6 fun σ' H' s' he' => ?_
              exact q4 σ' H' _ (.rt d) _ he' e7 (hR.same s')
            · cases e5
          · cases e5
    · cases hm
end
end FR
end
section
set_option Elab.async false
set_option linter.all false
/-! The typed functions, and their promises over data. -/
namespace FR
open PySem PySem.Spec L2 DV
def Sm (i : Int) : Prop := i.natAbs < 18446744073709551616
instance (i : Int) : Decidable (Sm i) := inferInstanceAs (Decidable (i.natAbs < 18446744073709551616))
abbrev Q4 := Int × Int × Int × Int
def Sm4 (f : Q4) : Prop := Sm f.1 ∧ Sm f.2.1 ∧ Sm f.2.2.1 ∧ Sm f.2.2.2
instance (f : Q4) : Decidable (Sm4 f) := inferInstanceAs (Decidable (Sm f.1 ∧ Sm f.2.1 ∧ Sm f.2.2.1 ∧ Sm f.2.2.2))
def enc4 (f : Q4) : D := .tup [.int f.1, .int f.2.1, .int f.2.2.1, .int f.2.2.2]
def encC (f : Q4) : D := .tup [.tup [.int f.1, .int f.2.1], .tup [.int f.2.2.1, .int f.2.2.2]]
def enc3 (f : Int × Int × Int) : D := .tup [.int f.1, .int f.2.1, .int f.2.2]
def at4 (f : Q4) (x y : Int) : Int := ((f.1 * x + f.2.1 * y) * x + f.2.2.1 * y * y) * x + f.2.2.2 * y * y * y
def det4 (g : Q4) : Int := g.1 * g.2.2.2 - g.2.1 * g.2.2.1
def led4 (f g : Q4) : Q4 :=
  match f, g with
  | (a, b, c, d), (p, q, r, s) =>
  (( p * s - q * r) * at4 (a, b, c, d) p q, (p * s - q * r) * (3 * a * p * p * r + b * (p * p * s + 2 * p * q * r) + c * (2 * p * q * s + q * q * r) + 3 * d * q * q * s),
    (p * s - q * r) * (3 * a * p * r * r + b * (r * r * q + 2 * p * r * s) + c * (2 * q * r * s + p * s * s) + 3 * d * q * s * s), (p * s - q * r) * at4 (a, b, c, d) r s)
def join4 (f g : Q4) : Q4 :=
  match f, g with
  | (p, q, r, s), (i, j, k, l) => (i * p + j * r, i * q + j * s, k * p + l * r, k * q + l * s)
def disc4 (f : Q4) : Int :=
  match f with
  | (a, b, c, d) => b * b * c * c + 18 * a * b * c * d - 4 * a * c * c * c - 4 * b * b * b * d - 27 * a * a * d * d
def hess4 (f : Q4) : Int × Int × Int :=
  match f with
  | (a, b, c, d) => (b * b - 3 * a * c, b * c - 9 * a * d, c * c - 3 * b * d)
def monic3 (f : Int × Int × Int) (x : Int) : Int := ((x + f.1) * x + f.2.1) * x + f.2.2
def small4 (f : Q4) : Bool :=
  match f with
  | (a, b, c, d) => decide (0 < d * d - a * a + a * c - b * d)
def between4 (f : Q4) : Bool :=
  match f with
  | (a, b, c, d) => decide (-(a - b) * (a - b) - a * c < a * d - b * c) && decide (a * d - b * c < (a + b) * (a + b) + a * c)
def past4 (f : Q4) (shift : Int) : Bool := decide (0 < at4 f (f.1 - f.2.1 - 2 * shift * f.1) f.1)
def mathews4 (f : Q4) : Bool :=
  match f with
  | (a, b, c, d) => if a < 1 ∨ b < 0 ∨ (b = 0 ∧ d < 1) then false else if a * d - b * c ≤ 0 - (a - b) * (a - b) - a * c ∨ (a + b) * (a + b) + a * c ≤ a * d - b * c then false else small4 f
/-! ### over data -/
def dec4 : D → Option Q4
  | .tup [.int a, .int b, .int c, .int d] => some (a, b, c, d)
  | _ => none
def decC : D → Option Q4
  | .tup [.tup [.int a, .int b], .tup [.int c, .int d]] => some (a, b, c, d)
  | _ => none
def dec3 : D → Option (Int × Int × Int)
  | .tup [.int a, .int b, .int c] => some (a, b, c)
  | _ => none
def z_form_at : List D → Option D
  | [x, .int p, .int q] => (dec4 x).bind fun f => if Sm p ∧ Sm q then some (.int (at4 f p q)) else none
  | _ => none
def z_form_led : List D → Option D
  | [x, y] => (dec4 x).bind fun f => (decC y).bind fun g => if Sm4 f ∧ Sm4 g ∧ Sm (det4 g) then some (enc4 (led4 f g)) else none
  | _ => none
def z_joined_in : List D → Option D
  | [x, y] => (decC x).bind fun f => (decC y).bind fun g => if Sm4 f then some (encC (join4 f g)) else none
  | _ => none
def z_discriminant_of : List D → Option D
  | [x] => (dec4 x).bind fun f => if Sm4 f then some (.int (disc4 f)) else none
  | _ => none
def z_hessian_of : List D → Option D
  | [x] => (dec4 x).bind fun f => if Sm4 f then some (enc3 (hess4 f)) else none
  | _ => none
def z_monic_at : List D → Option D
  | [x, .int p] => (dec3 x).bind fun f => if Sm p then some (.int (monic3 f p)) else none
  | _ => none
def z_is_small : List D → Option D
  | [x] => (dec4 x).bind fun f => if Sm4 f then some (.bl (small4 f)) else none
  | _ => none
def z_is_between : List D → Option D
  | [x] => (dec4 x).bind fun f => if Sm4 f ∧ Sm (f.1 - f.2.1) ∧ Sm (f.1 + f.2.1) then some (.bl (between4 f)) else none
  | _ => none
def z_is_not_past : List D → Option D
  | [x, .int s] => (dec4 x).bind fun f => if Sm4 f ∧ Sm (f.1 - f.2.1 - 2 * s * f.1) then some (.bl (past4 f s)) else none
  | _ => none
def z__law_is_mathews : List D → Option D
  | [x] => (dec4 x).bind fun f => if Sm4 f ∧ Sm (f.1 - f.2.1) ∧ Sm (f.1 + f.2.1) then some (.bl (mathews4 f)) else none
  | _ => none
def z__law_at : List D → Option D
  | [x, .int p, .int q] => (dec4 x).bind fun f => if Sm4 f ∧ Sm p ∧ Sm q then some (.int (at4 f p q)) else none
  | _ => none
end FR
end
section
set_option Elab.async false
set_option linter.all false
set_option maxRecDepth 100000
set_option maxHeartbeats 4000000
/-! Each pure def as its resolved reading. Printed by wip/res.py. -/
namespace FR
open PySem PySem.Spec PyProof.Rows L2 DV
abbrev fT (f : DEnv → Option D) : DEnv → Option Bool := fun δ => (f δ).bind asB
abbrev gTupL (n : Nat) (g : List D → DEnv → Option DEnv) : D → DEnv → Option DEnv := gTupD fun ds δ => if ds.length = n then g ds δ else none
def t_is_whole : Tab := { consts := consts0, fns := [] }
def r_is_whole : FS := (sSeq (sRet (fAnd (fIsi isInt (fVar 0)) (fNot (fIsi isBool (fVar 0))))) sNil)
def f_is_whole : List D → Option D := runB n_is_whole 1 r_is_whole
theorem q_is_whole : defD t_is_whole n_is_whole 1 s_is_whole = f_is_whole := by kernel_rfl
def t_is_integer : Tab := { consts := consts0, fns := [("is_whole", 1, f_is_whole)] }
def r_is_integer : FS := (sSeq (sRet (fAnd (fCall (aCons (fVar 0) aNil) f_is_whole) (f2 (cmpD .Lt) (fCall (aCons (fVar 0) aNil) absF) (fConst (.int (10 ^ 60)))))) sNil)
def f_is_integer : List D → Option D := runB n_is_integer 1 r_is_integer
theorem q_is_integer : defD t_is_integer n_is_integer 1 s_is_integer = f_is_integer := by kernel_rfl
def t_common_of : Tab := { consts := consts0, fns := [] }
def r_common_of : FS := (sSeq (sRet (fCall (aCons (fVar 0) (aCons (fVar 1) aNil)) gcdF)) sNil)
def f_common_of : List D → Option D := runB n_common_of 2 r_common_of
theorem q_common_of : defD t_common_of n_common_of 2 s_common_of = f_common_of := by kernel_rfl
def t_joined_in : Tab := { consts := consts0, fns := [] }
def r_joined_in : FS := (sSeq (sAsg (fVar 0) (gTupL 2 (gMore (gTupL 2 (gMore (gVar 2) (gMore (gVar 3) gNone))) (gMore (gTupL 2 (gMore (gVar 4) (gMore (gVar 5) gNone))) gNone)))) (sSeq (sAsg (fVar 1) (gTupL 2 (gMore (gTupL 2 (gMore (gVar 6) (gMore (gVar 7) gNone))) (gMore (gTupL 2 (gMore (gVar 8) (gMore (gVar 9) gNone))) gNone)))) (sSeq (sRet (fTup (aCons (fTup (aCons (f2 (binD .Add) (f2 (binD .Mult) (fVar 6) (fVar 2)) (f2 (binD .Mult) (fVar 7) (fVar 4))) (aCons (f2 (binD .Add) (f2 (binD .Mult) (fVar 6) (fVar 3)) (f2 (binD .Mult) (fVar 7) (fVar 5))) aNil))) (aCons (fTup (aCons (f2 (binD .Add) (f2 (binD .Mult) (fVar 8) (fVar 2)) (f2 (binD .Mult) (fVar 9) (fVar 4))) (aCons (f2 (binD .Add) (f2 (binD .Mult) (fVar 8) (fVar 3)) (f2 (binD .Mult) (fVar 9) (fVar 5))) aNil))) aNil)))) sNil)))
def f_joined_in : List D → Option D := runB n_joined_in 2 r_joined_in
theorem q_joined_in : defD t_joined_in n_joined_in 2 s_joined_in = f_joined_in := by kernel_rfl
def t_are_integers : Tab := { consts := consts0, fns := [("is_integer", 1, f_is_integer)] }
def r_are_integers : FS := (sSeq (sRet (fAnd (fIsi isTup (fVar 0)) (fAnd (f2 (cmpD .Eq) (fCall (aCons (fVar 0) aNil) lenF) (fVar 1)) (fCall (aCons (fComp (iSeq (fVar 0)) [2] (gVar 2) tTrue (fCall (aCons (fVar 2) aNil) f_is_integer)) aNil) allF)))) sNil)
def f_are_integers : List D → Option D := runB n_are_integers 2 r_are_integers
theorem q_are_integers : defD t_are_integers n_are_integers 2 s_are_integers = f_are_integers := by kernel_rfl
def t_content_of : Tab := { consts := consts0, fns := [("common_of", 2, f_common_of)] }
def r_content_of : FS := (sSeq (sSet 1 (fConst (.int 0))) (sSeq (sFor (iSeq (fVar 0)) (gVar 2) (sSeq (sSet 1 (fCall (aCons (fVar 1) (aCons (fVar 2) aNil)) f_common_of)) sNil)) (sSeq (sRet (fVar 1)) sNil)))
def f_content_of : List D → Option D := runB n_content_of 1 r_content_of
theorem q_content_of : defD t_content_of n_content_of 1 s_content_of = f_content_of := by kernel_rfl
def t_lowest_place : Tab := { consts := consts0, fns := [("common_of", 2, f_common_of)] }
def r_lowest_place : FS := (sSeq (sSet 2 (fCall (aCons (fVar 0) (aCons (fVar 1) aNil)) f_common_of)) (sSeq (sIf (tOr2 (fT (f2 (cmpD .Lt) (fVar 1) (fConst (.int 0)))) (tAnd2 (fT (f2 (cmpD .Eq) (fVar 1) (fConst (.int 0)))) (fT (f2 (cmpD .Lt) (fVar 0) (fConst (.int 0)))))) (sSeq (sSet 2 (fNeg (fVar 2))) sNil) sNil) (sSeq (sRet (fTup (aCons (f2 (binD .FloorDiv) (fVar 0) (fVar 2)) (aCons (f2 (binD .FloorDiv) (fVar 1) (fVar 2)) aNil)))) sNil)))
def f_lowest_place : List D → Option D := runB n_lowest_place 2 r_lowest_place
theorem q_lowest_place : defD t_lowest_place n_lowest_place 2 s_lowest_place = f_lowest_place := by kernel_rfl
def t_places_of_double : Tab := { consts := consts0, fns := [("lowest_place", 2, f_lowest_place)] }
def r_places_of_double : FS := (sSeq (sAsg (fVar 0) (gTupL 3 (gMore (gVar 1) (gMore (gVar 2) (gMore (gVar 3) gNone))))) (sSeq (sIf (fT (f2 (cmpD .Eq) (fVar 1) (fConst (.int 0)))) (sSeq (sRet (fIf (fT (f2 (cmpD .NotEq) (fVar 2) (fConst (.int 0)))) (fLst (aCons (fConst (tI [1, 0])) (aCons (fCall (aCons (fNeg (fVar 3)) (aCons (fVar 2) aNil)) f_lowest_place) aNil))) (fLst (aCons (fConst (tI [1, 0])) aNil)))) sNil) sNil) (sSeq (sSet 4 (f2 (binD .Sub) (f2 (binD .Mult) (fVar 2) (fVar 2)) (f2 (binD .Mult) (f2 (binD .Mult) (fConst (.int 4)) (fVar 1)) (fVar 3)))) (sSeq (sIf (tOr2 (fT (f2 (cmpD .Lt) (fVar 4) (fConst (.int 0)))) (fT (f2 (cmpD .NotEq) (f2 (binD .Mult) (fCall (aCons (fVar 4) aNil) sqrtF) (fCall (aCons (fVar 4) aNil) sqrtF)) (fVar 4)))) (sSeq (sRet (fLst aNil)) sNil) sNil) (sSeq (sSet 5 (fCall (aCons (fVar 4) aNil) sqrtF)) (sSeq (sRet (fLst (aCons (fCall (aCons (f2 (binD .Sub) (fNeg (fVar 2)) (fVar 5)) (aCons (f2 (binD .Mult) (fConst (.int 2)) (fVar 1)) aNil)) f_lowest_place) (aCons (fCall (aCons (f2 (binD .Add) (fNeg (fVar 2)) (fVar 5)) (aCons (f2 (binD .Mult) (fConst (.int 2)) (fVar 1)) aNil)) f_lowest_place) aNil)))) sNil))))))
def f_places_of_double : List D → Option D := runB n_places_of_double 1 r_places_of_double
theorem q_places_of_double : defD t_places_of_double n_places_of_double 1 s_places_of_double = f_places_of_double := by kernel_rfl
def t_monic_at : Tab := { consts := consts0, fns := [] }
def r_monic_at : FS := (sSeq (sAsg (fVar 0) (gTupL 3 (gMore (gVar 2) (gMore (gVar 3) (gMore (gVar 4) gNone))))) (sSeq (sRet (f2 (binD .Add) (f2 (binD .Mult) (f2 (binD .Add) (f2 (binD .Mult) (f2 (binD .Add) (fVar 1) (fVar 2)) (fVar 1)) (fVar 3)) (fVar 1)) (fVar 4))) sNil))
def f_monic_at : List D → Option D := runB n_monic_at 2 r_monic_at
theorem q_monic_at : defD t_monic_at n_monic_at 2 s_monic_at = f_monic_at := by kernel_rfl
def t_bisected : Tab := { consts := consts0, fns := [("monic_at", 2, z_monic_at)] }
def r_bisected : FS := (sSeq (whileD (fT (f2 (cmpD .Lt) (fVar 1) (fVar 2))) (sSeq (sSet 4 (f2 (binD .FloorDiv) (f2 (binD .Add) (fVar 1) (fVar 2)) (fConst (.int 2)))) (sSeq (sIf (fT (f2 (cmpD .GtE) (f2 (binD .Mult) (fVar 3) (fCall (aCons (fVar 0) (aCons (fVar 4) aNil)) z_monic_at)) (fConst (.int 0)))) (sSeq (sSet 2 (fVar 4)) sNil) (sSeq (sSet 1 (f2 (binD .Add) (fVar 4) (fConst (.int 1)))) sNil)) sNil)) fuelW) (sSeq (sRet (fIf (tAnd2 (fT (f2 (cmpD .Eq) (fVar 1) (fVar 2))) (fT (f2 (cmpD .Eq) (fCall (aCons (fVar 0) (aCons (fVar 1) aNil)) z_monic_at) (fConst (.int 0))))) (fLst (aCons (fVar 1) aNil)) (fLst aNil))) sNil))
def f_bisected : List D → Option D := runB n_bisected 4 r_bisected
theorem q_bisected : defD t_bisected n_bisected 4 s_bisected = f_bisected := by kernel_rfl
def t_form_at : Tab := { consts := consts0, fns := [] }
def r_form_at : FS := (sSeq (sAsg (fVar 0) (gTupL 4 (gMore (gVar 3) (gMore (gVar 4) (gMore (gVar 5) (gMore (gVar 6) gNone)))))) (sSeq (sRet (f2 (binD .Add) (f2 (binD .Mult) (f2 (binD .Add) (f2 (binD .Mult) (f2 (binD .Add) (f2 (binD .Mult) (fVar 3) (fVar 1)) (f2 (binD .Mult) (fVar 4) (fVar 2))) (fVar 1)) (f2 (binD .Mult) (f2 (binD .Mult) (fVar 5) (fVar 2)) (fVar 2))) (fVar 1)) (f2 (binD .Mult) (f2 (binD .Mult) (f2 (binD .Mult) (fVar 6) (fVar 2)) (fVar 2)) (fVar 2)))) sNil))
def f_form_at : List D → Option D := runB n_form_at 3 r_form_at
theorem q_form_at : defD t_form_at n_form_at 3 s_form_at = f_form_at := by kernel_rfl
def t_form_led : Tab := { consts := consts0, fns := [("form_at", 3, z_form_at)] }
def r_form_led : FS := (sSeq (sAsg (fVar 0) (gTupL 4 (gMore (gVar 2) (gMore (gVar 3) (gMore (gVar 4) (gMore (gVar 5) gNone)))))) (sSeq (sAsg (fVar 1) (gTupL 2 (gMore (gTupL 2 (gMore (gVar 6) (gMore (gVar 7) gNone))) (gMore (gTupL 2 (gMore (gVar 8) (gMore (gVar 9) gNone))) gNone)))) (sSeq (sSet 10 (f2 (binD .Sub) (f2 (binD .Mult) (fVar 6) (fVar 9)) (f2 (binD .Mult) (fVar 7) (fVar 8)))) (sSeq (sSet 11 (f2 (binD .Add) (f2 (binD .Add) (f2 (binD .Add) (f2 (binD .Mult) (f2 (binD .Mult) (f2 (binD .Mult) (f2 (binD .Mult) (fConst (.int 3)) (fVar 2)) (fVar 6)) (fVar 6)) (fVar 8)) (f2 (binD .Mult) (fVar 3) (f2 (binD .Add) (f2 (binD .Mult) (f2 (binD .Mult) (fVar 6) (fVar 6)) (fVar 9)) (f2 (binD .Mult) (f2 (binD .Mult) (f2 (binD .Mult) (fConst (.int 2)) (fVar 6)) (fVar 7)) (fVar 8))))) (f2 (binD .Mult) (fVar 4) (f2 (binD .Add) (f2 (binD .Mult) (f2 (binD .Mult) (f2 (binD .Mult) (fConst (.int 2)) (fVar 6)) (fVar 7)) (fVar 9)) (f2 (binD .Mult) (f2 (binD .Mult) (fVar 7) (fVar 7)) (fVar 8))))) (f2 (binD .Mult) (f2 (binD .Mult) (f2 (binD .Mult) (f2 (binD .Mult) (fConst (.int 3)) (fVar 5)) (fVar 7)) (fVar 7)) (fVar 9)))) (sSeq (sSet 12 (f2 (binD .Add) (f2 (binD .Add) (f2 (binD .Add) (f2 (binD .Mult) (f2 (binD .Mult) (f2 (binD .Mult) (f2 (binD .Mult) (fConst (.int 3)) (fVar 2)) (fVar 6)) (fVar 8)) (fVar 8)) (f2 (binD .Mult) (fVar 3) (f2 (binD .Add) (f2 (binD .Mult) (f2 (binD .Mult) (fVar 8) (fVar 8)) (fVar 7)) (f2 (binD .Mult) (f2 (binD .Mult) (f2 (binD .Mult) (fConst (.int 2)) (fVar 6)) (fVar 8)) (fVar 9))))) (f2 (binD .Mult) (fVar 4) (f2 (binD .Add) (f2 (binD .Mult) (f2 (binD .Mult) (f2 (binD .Mult) (fConst (.int 2)) (fVar 7)) (fVar 8)) (fVar 9)) (f2 (binD .Mult) (f2 (binD .Mult) (fVar 6) (fVar 9)) (fVar 9))))) (f2 (binD .Mult) (f2 (binD .Mult) (f2 (binD .Mult) (f2 (binD .Mult) (fConst (.int 3)) (fVar 5)) (fVar 7)) (fVar 9)) (fVar 9)))) (sSeq (sRet (fTup (aCons (f2 (binD .Mult) (fVar 10) (fCall (aCons (fVar 0) (aCons (fVar 6) (aCons (fVar 7) aNil))) z_form_at)) (aCons (f2 (binD .Mult) (fVar 10) (fVar 11)) (aCons (f2 (binD .Mult) (fVar 10) (fVar 12)) (aCons (f2 (binD .Mult) (fVar 10) (fCall (aCons (fVar 0) (aCons (fVar 8) (aCons (fVar 9) aNil))) z_form_at)) aNil)))))) sNil))))))
def f_form_led : List D → Option D := runB n_form_led 2 r_form_led
theorem q_form_led : defD t_form_led n_form_led 2 s_form_led = f_form_led := by kernel_rfl
def t_discriminant_of : Tab := { consts := consts0, fns := [] }
def r_discriminant_of : FS := (sSeq (sAsg (fVar 0) (gTupL 4 (gMore (gVar 1) (gMore (gVar 2) (gMore (gVar 3) (gMore (gVar 4) gNone)))))) (sSeq (sSet 5 (f2 (binD .Add) (f2 (binD .Mult) (f2 (binD .Mult) (f2 (binD .Mult) (fVar 2) (fVar 2)) (fVar 3)) (fVar 3)) (f2 (binD .Mult) (f2 (binD .Mult) (f2 (binD .Mult) (f2 (binD .Mult) (fConst (.int 18)) (fVar 1)) (fVar 2)) (fVar 3)) (fVar 4)))) (sSeq (sRet (f2 (binD .Sub) (f2 (binD .Sub) (f2 (binD .Sub) (fVar 5) (f2 (binD .Mult) (f2 (binD .Mult) (f2 (binD .Mult) (f2 (binD .Mult) (fConst (.int 4)) (fVar 1)) (fVar 3)) (fVar 3)) (fVar 3))) (f2 (binD .Mult) (f2 (binD .Mult) (f2 (binD .Mult) (f2 (binD .Mult) (fConst (.int 4)) (fVar 2)) (fVar 2)) (fVar 2)) (fVar 4))) (f2 (binD .Mult) (f2 (binD .Mult) (f2 (binD .Mult) (f2 (binD .Mult) (fConst (.int 27)) (fVar 1)) (fVar 1)) (fVar 4)) (fVar 4)))) sNil)))
def f_discriminant_of : List D → Option D := runB n_discriminant_of 1 r_discriminant_of
theorem q_discriminant_of : defD t_discriminant_of n_discriminant_of 1 s_discriminant_of = f_discriminant_of := by kernel_rfl
def t_hessian_of : Tab := { consts := consts0, fns := [] }
def r_hessian_of : FS := (sSeq (sAsg (fVar 0) (gTupL 4 (gMore (gVar 1) (gMore (gVar 2) (gMore (gVar 3) (gMore (gVar 4) gNone)))))) (sSeq (sRet (fTup (aCons (f2 (binD .Sub) (f2 (binD .Mult) (fVar 2) (fVar 2)) (f2 (binD .Mult) (f2 (binD .Mult) (fConst (.int 3)) (fVar 1)) (fVar 3))) (aCons (f2 (binD .Sub) (f2 (binD .Mult) (fVar 2) (fVar 3)) (f2 (binD .Mult) (f2 (binD .Mult) (fConst (.int 9)) (fVar 1)) (fVar 4))) (aCons (f2 (binD .Sub) (f2 (binD .Mult) (fVar 3) (fVar 3)) (f2 (binD .Mult) (f2 (binD .Mult) (fConst (.int 3)) (fVar 2)) (fVar 4))) aNil))))) sNil))
def f_hessian_of : List D → Option D := runB n_hessian_of 1 r_hessian_of
theorem q_hessian_of : defD t_hessian_of n_hessian_of 1 s_hessian_of = f_hessian_of := by kernel_rfl
def t_small_changes : Tab := { consts := consts0, fns := [] }
def r_small_changes : FS := (sSeq (sSet 0 (fComp2 [1] (iSeq (fConst (tI [-1, 0, 1]))) [1, 2] [2] (gVar 1) tTrue (fConst (tI [-1, 0, 1])) (gVar 2) tTrue (fTup (aCons (fVar 1) (aCons (fVar 2) aNil))))) (sSeq (sRet (fComp2 [3] (iSeq (fVar 0)) [3, 4] [4] (gVar 3) tTrue (fVar 0) (gVar 4) (fT (f2 (cmpD .In) (f2 (binD .Sub) (f2 (binD .Mult) (f2 ixD (fVar 3) (fConst (.int 0))) (f2 ixD (fVar 4) (fConst (.int 1)))) (f2 (binD .Mult) (f2 ixD (fVar 3) (fConst (.int 1))) (f2 ixD (fVar 4) (fConst (.int 0))))) (fTup (aCons (fNeg (fConst (.int 1))) (aCons (fConst (.int 1)) aNil))))) (fTup (aCons (fVar 3) (aCons (fVar 4) aNil))))) sNil))
def f_small_changes : List D → Option D := runB n_small_changes 0 r_small_changes
theorem q_small_changes : defD t_small_changes n_small_changes 0 s_small_changes = f_small_changes := by kernel_rfl
def t_way_to_small : Tab := { consts := consts0, fns := [("joined_in", 2, z_joined_in), ("hessian_of", 1, z_hessian_of)] }
def r_way_to_small : FS := (sSeq (sAsg (fTup (aCons (fConst (ch 1 0 0 1)) (aCons (fCall (aCons (fVar 0) aNil) z_hessian_of) aNil))) (gTupL 2 (gMore (gVar 1) (gMore (gTupL 3 (gMore (gVar 2) (gMore (gVar 3) (gMore (gVar 4) gNone)))) gNone)))) (sSeq (whileD (tOr2 (fT (f2 (cmpD .Gt) (fCall (aCons (fVar 3) aNil) absF) (fVar 2))) (fT (f2 (cmpD .Gt) (fVar 2) (fVar 4)))) (sSeq (sIf (fT (f2 (cmpD .Gt) (fCall (aCons (fVar 3) aNil) absF) (fVar 2))) (sSeq (sSet 5 (fNeg (f2 (binD .FloorDiv) (f2 (binD .Add) (fVar 3) (fVar 2)) (f2 (binD .Mult) (fConst (.int 2)) (fVar 2))))) (sSeq (sSet 1 (fCall (aCons (fVar 1) (aCons (fTup (aCons (fTup (aCons (fConst (.int 1)) (aCons (fConst (.int 0)) aNil))) (aCons (fTup (aCons (fVar 5) (aCons (fConst (.int 1)) aNil))) aNil))) aNil)) z_joined_in)) (sSeq (sPar2 3 4 (aCons (f2 (binD .Add) (fVar 3) (f2 (binD .Mult) (f2 (binD .Mult) (fConst (.int 2)) (fVar 5)) (fVar 2))) (aCons (f2 (binD .Add) (f2 (binD .Add) (fVar 4) (f2 (binD .Mult) (fVar 5) (fVar 3))) (f2 (binD .Mult) (f2 (binD .Mult) (fVar 5) (fVar 5)) (fVar 2))) aNil))) sNil))) (sSeq (sSet 1 (fCall (aCons (fVar 1) (aCons (fConst (ch 0 1 (-1) 0)) aNil)) z_joined_in)) (sSeq (sPar3 2 3 4 (aCons (fVar 4) (aCons (fNeg (fVar 3)) (aCons (fVar 2) aNil)))) sNil))) sNil) fuelW) (sSeq (sRet (fIf (fT (f2 (cmpD .Lt) (fVar 3) (fConst (.int 0)))) (fCall (aCons (fVar 1) (aCons (fConst (ch 1 0 0 (-1))) aNil)) z_joined_in) (fVar 1))) sNil)))
def f_way_to_small : List D → Option D := runB n_way_to_small 1 r_way_to_small
theorem q_way_to_small : defD t_way_to_small n_way_to_small 1 s_way_to_small = f_way_to_small := by kernel_rfl
def t_led_above : Tab := { consts := consts0, fns := [("joined_in", 2, z_joined_in), ("small_changes", 0, f_small_changes), ("hessian_of", 1, z_hessian_of), ("form_led", 2, z_form_led), ("way_to_small", 1, f_way_to_small)] }
def r_led_above : FS := (sSeq (sSet 1 (fCall (aCons (fVar 0) aNil) f_way_to_small)) (sSeq (sSet 2 (fCall (aCons (fVar 0) (aCons (fVar 1) aNil)) z_form_led)) (sSeq (sSet 3 (fCall (aCons (fVar 2) aNil) z_hessian_of)) (sSeq (sPar2 4 5 (aCons (fVar 2) (aCons (fConst (ch 1 0 0 1)) aNil))) (sSeq (sFor (iSeq (fCall aNil f_small_changes)) (gVar 6) (sSeq (sSet 7 (fCall (aCons (fVar 2) (aCons (fVar 6) aNil)) z_form_led)) (sSeq (sIf (tAnd2 (fT (f2 (cmpD .Gt) (fVar 7) (fVar 4))) (fT (f2 (cmpD .Eq) (fCall (aCons (fVar 7) aNil) z_hessian_of) (fVar 3)))) (sSeq (sPar2 4 5 (aCons (fVar 7) (aCons (fVar 6) aNil))) sNil) sNil) sNil))) (sSeq (sRet (fTup (aCons (fVar 4) (aCons (fCall (aCons (fVar 1) (aCons (fVar 5) aNil)) z_joined_in) aNil)))) sNil))))))
def f_led_above : List D → Option D := runB n_led_above 1 r_led_above
theorem q_led_above : defD t_led_above n_led_above 1 s_led_above = f_led_above := by kernel_rfl
def t_bezout : Tab := { consts := consts0, fns := [] }
def r_bezout : FS := (sSeq (sPar2 2 3 (aCons (fTup (aCons (fVar 0) (aCons (fConst (.int 1)) (aCons (fConst (.int 0)) aNil)))) (aCons (fTup (aCons (fVar 1) (aCons (fConst (.int 0)) (aCons (fConst (.int 1)) aNil)))) aNil))) (sSeq (whileD (fT (f2 (cmpD .NotEq) (f2 ixD (fVar 3) (fConst (.int 0))) (fConst (.int 0)))) (sSeq (sSet 4 (f2 (binD .FloorDiv) (f2 ixD (fVar 2) (fConst (.int 0))) (f2 ixD (fVar 3) (fConst (.int 0))))) (sSeq (sPar2 2 3 (aCons (fVar 3) (aCons (fCall (aCons (fComp (iBind (aCons (fVar 2) (aCons (fVar 3) aNil)) iZipF) [5, 6] (gTupL 2 (gMore (gVar 5) (gMore (gVar 6) gNone))) tTrue (f2 (binD .Sub) (fVar 5) (f2 (binD .Mult) (fVar 4) (fVar 6)))) aNil) tupF) aNil))) sNil)) fuelW) (sSeq (sRet (fIf (fT (f2 (cmpD .Gt) (f2 ixD (fVar 2) (fConst (.int 0))) (fConst (.int 0)))) (fTup (aCons (fNeg (f2 ixD (fVar 2) (fConst (.int 2)))) (aCons (f2 ixD (fVar 2) (fConst (.int 1))) aNil))) (fTup (aCons (f2 ixD (fVar 2) (fConst (.int 2))) (aCons (fNeg (f2 ixD (fVar 2) (fConst (.int 1)))) aNil))))) sNil)))
def f_bezout : List D → Option D := runB n_bezout 2 r_bezout
theorem q_bezout : defD t_bezout n_bezout 2 s_bezout = f_bezout := by kernel_rfl
def t_end_change : Tab := { consts := consts0, fns := [("bezout", 2, f_bezout)] }
def r_end_change : FS := (sSeq (sRet (fTup (aCons (fVar 0) (aCons (fCall (aCons (f2 ixD (fVar 0) (fConst (.int 0))) (aCons (f2 ixD (fVar 0) (fConst (.int 1))) aNil)) f_bezout) aNil)))) sNil)
def f_end_change : List D → Option D := runB n_end_change 1 r_end_change
theorem q_end_change : defD t_end_change n_end_change 1 s_end_change = f_end_change := by kernel_rfl
def t_is_small : Tab := { consts := consts0, fns := [] }
def r_is_small : FS := (sSeq (sAsg (fVar 0) (gTupL 4 (gMore (gVar 1) (gMore (gVar 2) (gMore (gVar 3) (gMore (gVar 4) gNone)))))) (sSeq (sRet (f2 (cmpD .Gt) (f2 (binD .Sub) (f2 (binD .Add) (f2 (binD .Sub) (f2 (binD .Mult) (fVar 4) (fVar 4)) (f2 (binD .Mult) (fVar 1) (fVar 1))) (f2 (binD .Mult) (fVar 1) (fVar 3))) (f2 (binD .Mult) (fVar 2) (fVar 4))) (fConst (.int 0)))) sNil))
def f_is_small : List D → Option D := runB n_is_small 1 r_is_small
theorem q_is_small : defD t_is_small n_is_small 1 s_is_small = f_is_small := by kernel_rfl
def t_is_between : Tab := { consts := consts0, fns := [] }
def r_is_between : FS := (sSeq (sAsg (fVar 0) (gTupL 4 (gMore (gVar 1) (gMore (gVar 2) (gMore (gVar 3) (gMore (gVar 4) gNone)))))) (sSeq (sSet 5 (f2 (binD .Sub) (f2 (binD .Mult) (fVar 1) (fVar 4)) (f2 (binD .Mult) (fVar 2) (fVar 3)))) (sSeq (sRet (fChain (cmpD .Lt) (cmpD .Lt) (f2 (binD .Sub) (f2 (binD .Mult) (fNeg (f2 (binD .Sub) (fVar 1) (fVar 2))) (f2 (binD .Sub) (fVar 1) (fVar 2))) (f2 (binD .Mult) (fVar 1) (fVar 3))) (fVar 5) (f2 (binD .Add) (f2 (binD .Mult) (f2 (binD .Add) (fVar 1) (fVar 2)) (f2 (binD .Add) (fVar 1) (fVar 2))) (f2 (binD .Mult) (fVar 1) (fVar 3))))) sNil)))
def f_is_between : List D → Option D := runB n_is_between 1 r_is_between
theorem q_is_between : defD t_is_between n_is_between 1 s_is_between = f_is_between := by kernel_rfl
def t_is_not_past : Tab := { consts := consts0, fns := [("form_at", 3, z_form_at)] }
def r_is_not_past : FS := (sSeq (sPar2 2 3 (aCons (f2 ixD (fVar 0) (fConst (.int 0))) (aCons (f2 ixD (fVar 0) (fConst (.int 1))) aNil))) (sSeq (sRet (f2 (cmpD .Gt) (fCall (aCons (fVar 0) (aCons (f2 (binD .Sub) (f2 (binD .Sub) (fVar 2) (fVar 3)) (f2 (binD .Mult) (f2 (binD .Mult) (fConst (.int 2)) (fVar 1)) (fVar 2))) (aCons (fVar 2) aNil))) z_form_at) (fConst (.int 0)))) sNil))
def f_is_not_past : List D → Option D := runB n_is_not_past 2 r_is_not_past
theorem q_is_not_past : defD t_is_not_past n_is_not_past 2 s_is_not_past = f_is_not_past := by kernel_rfl
def t_best_shift : Tab := { consts := consts0, fns := [("is_not_past", 2, z_is_not_past)] }
def r_best_shift : FS := (sSeq (sPar2 1 2 (aCons (fNeg (fConst (.int 1))) (aCons (fConst (.int 1)) aNil))) (sSeq (whileD (tNot1 (fT (fCall (aCons (fVar 0) (aCons (fVar 1) aNil)) z_is_not_past))) (sSeq (sMul 1 (fConst (.int 2))) sNil) fuelW) (sSeq (whileD (fT (fCall (aCons (fVar 0) (aCons (fVar 2) aNil)) z_is_not_past)) (sSeq (sMul 2 (fConst (.int 2))) sNil) fuelW) (sSeq (whileD (fT (f2 (cmpD .Gt) (f2 (binD .Sub) (fVar 2) (fVar 1)) (fConst (.int 1)))) (sSeq (sSet 3 (f2 (binD .FloorDiv) (f2 (binD .Add) (fVar 1) (fVar 2)) (fConst (.int 2)))) (sSeq (sIf (fT (fCall (aCons (fVar 0) (aCons (fVar 3) aNil)) z_is_not_past)) (sSeq (sSet 1 (fVar 3)) sNil) (sSeq (sSet 2 (fVar 3)) sNil)) sNil)) fuelW) (sSeq (sRet (fVar 1)) sNil)))))
def f_best_shift : List D → Option D := runB n_best_shift 1 r_best_shift
theorem q_best_shift : defD t_best_shift n_best_shift 1 s_best_shift = f_best_shift := by kernel_rfl
def t_double_place : Tab := { consts := consts0, fns := [("content_of", 1, f_content_of), ("hessian_of", 1, z_hessian_of)] }
def r_double_place : FS := (sSeq (sAsg (fCall (aCons (fVar 0) aNil) z_hessian_of) (gTupL 3 (gMore (gVar 1) (gMore (gVar 2) (gMore (gVar 3) gNone))))) (sSeq (sSet 4 (fIf (fT (f2 (cmpD .NotEq) (fVar 1) (fConst (.int 0)))) (fTup (aCons (fNeg (fVar 2)) (aCons (f2 (binD .Mult) (fConst (.int 2)) (fVar 1)) aNil))) (fTup (aCons (fConst (.int 1)) (aCons (fConst (.int 0)) aNil))))) (sSeq (sIf (tAnd2 (fT (f2 (cmpD .Eq) (fTup (aCons (fVar 1) (aCons (fVar 2) (aCons (fVar 3) aNil)))) (fTup (aCons (fConst (.int 0)) (aCons (fConst (.int 0)) (aCons (fConst (.int 0)) aNil)))))) (fT (f2 (cmpD .NotEq) (f2 ixD (fVar 0) (fConst (.int 0))) (fConst (.int 0))))) (sSeq (sSet 4 (fTup (aCons (fNeg (f2 ixD (fVar 0) (fConst (.int 1)))) (aCons (f2 (binD .Mult) (fConst (.int 3)) (f2 ixD (fVar 0) (fConst (.int 0)))) aNil)))) sNil) sNil) (sSeq (sSet 5 (fCall (aCons (fVar 4) aNil) f_content_of)) (sSeq (sRet (fTup (aCons (f2 (binD .FloorDiv) (f2 ixD (fVar 4) (fConst (.int 0))) (fVar 5)) (aCons (f2 (binD .FloorDiv) (f2 ixD (fVar 4) (fConst (.int 1))) (fVar 5)) aNil)))) sNil)))))
def f_double_place : List D → Option D := runB n_double_place 1 r_double_place
theorem q_double_place : defD t_double_place n_double_place 1 s_double_place = f_double_place := by kernel_rfl
def t_with_first : Tab := { consts := consts0, fns := [] }
def r_with_first : FS := (sSeq (sPar2 1 2 (aCons (fTup (aCons (f2 ixD (fVar 0) (fConst (.int 0))) (aCons (fConst (.int 1)) (aCons (fConst (.int 0)) aNil)))) (aCons (fTup (aCons (f2 ixD (fVar 0) (fConst (.int 1))) (aCons (fConst (.int 0)) (aCons (fConst (.int 1)) aNil)))) aNil))) (sSeq (whileD (fT (f2 (cmpD .NotEq) (f2 ixD (fVar 2) (fConst (.int 0))) (fConst (.int 0)))) (sSeq (sSet 4 (f2 (binD .FloorDiv) (f2 ixD (fVar 1) (fConst (.int 0))) (f2 ixD (fVar 2) (fConst (.int 0))))) (sSeq (sPar2 1 2 (aCons (fVar 2) (aCons (fCall (aCons (fComp (iBind (aCons (fVar 1) (aCons (fVar 2) aNil)) iZipF) [5, 6] (gTupL 2 (gMore (gVar 5) (gMore (gVar 6) gNone))) tTrue (f2 (binD .Sub) (fVar 5) (f2 (binD .Mult) (fVar 4) (fVar 6)))) aNil) tupF) aNil))) sNil)) fuelW) (sSeq (sSet 3 (f2 ixD (fVar 1) (fConst (.int 0)))) (sSeq (sRet (fTup (aCons (fVar 0) (aCons (fTup (aCons (f2 (binD .Mult) (fNeg (fVar 3)) (f2 ixD (fVar 1) (fConst (.int 2)))) (aCons (f2 (binD .Mult) (fVar 3) (f2 ixD (fVar 1) (fConst (.int 1)))) aNil))) aNil)))) sNil))))
def f_with_first : List D → Option D := runB n_with_first 1 r_with_first
theorem q_with_first : defD t_with_first n_with_first 1 s_with_first = f_with_first := by kernel_rfl
def t_last_way : Tab := { consts := consts0, fns := [("joined_in", 2, z_joined_in)] }
def r_last_way : FS := (sSeq (sPar2 1 2 (aCons (f2 ixD (fVar 0) (fConst (.int 2))) (aCons (f2 ixD (fVar 0) (fConst (.int 3))) aNil))) (sSeq (sIf (fT (f2 (cmpD .Eq) (fVar 1) (fConst (.int 0)))) (sSeq (sRet (fIf (fT (f2 (cmpD .Lt) (fVar 2) (fConst (.int 0)))) (fConst (ch (-1) 0 0 (-1))) (fConst (ch 1 0 0 1)))) sNil) sNil) (sSeq (sSet 3 (fConst (ch 1 0 0 1))) (sSeq (sIf (fT (f2 (cmpD .Lt) (fVar 1) (fConst (.int 0)))) (sSeq (sPar3 3 1 2 (aCons (fConst (ch (-1) 0 0 (-1))) (aCons (fNeg (fVar 1)) (aCons (fNeg (fVar 2)) aNil)))) sNil) sNil) (sSeq (sSet 4 (fNeg (f2 (binD .FloorDiv) (f2 (binD .Add) (f2 (binD .Mult) (fConst (.int 2)) (fVar 2)) (fVar 1)) (f2 (binD .Mult) (fConst (.int 2)) (fVar 1))))) (sSeq (sPar2 3 2 (aCons (fCall (aCons (fVar 3) (aCons (fTup (aCons (fTup (aCons (fConst (.int 1)) (aCons (fConst (.int 0)) aNil))) (aCons (fTup (aCons (fVar 4) (aCons (fConst (.int 1)) aNil))) aNil))) aNil)) z_joined_in) (aCons (f2 (binD .Add) (fVar 2) (f2 (binD .Mult) (fVar 4) (fVar 1))) aNil))) (sSeq (sRet (fIf (fT (f2 (cmpD .Lt) (fVar 2) (fConst (.int 0)))) (fCall (aCons (fVar 3) (aCons (fConst (ch (-1) 0 0 1)) aNil)) z_joined_in) (fVar 3))) sNil)))))))
def f_last_way : List D → Option D := runB n_last_way 1 r_last_way
theorem q_last_way : defD t_last_way n_last_way 1 s_last_way = f_last_way := by kernel_rfl
def t_led_zero : Tab := { consts := consts0, fns := [("form_led", 2, z_form_led), ("joined_in", 2, z_joined_in), ("last_way", 1, f_last_way), ("with_first", 1, f_with_first), ("double_place", 1, f_double_place)] }
def r_led_zero : FS := (sSeq (sIf (fT (f2 (cmpD .Eq) (fVar 0) (fTup (aCons (fConst (.int 0)) (aCons (fConst (.int 0)) (aCons (fConst (.int 0)) (aCons (fConst (.int 0)) aNil))))))) (sSeq (sRet (fTup (aCons (fVar 0) (aCons (fConst (ch 1 0 0 1)) aNil)))) sNil) sNil) (sSeq (sSet 1 (fCall (aCons (fCall (aCons (fVar 0) aNil) f_double_place) aNil) f_with_first)) (sSeq (sSet 1 (fCall (aCons (fVar 1) (aCons (fCall (aCons (fCall (aCons (fVar 0) (aCons (fVar 1) aNil)) z_form_led) aNil) f_last_way) aNil)) z_joined_in)) (sSeq (sRet (fTup (aCons (fCall (aCons (fVar 0) (aCons (fVar 1) aNil)) z_form_led) (aCons (fVar 1) aNil)))) sNil))))
def f_led_zero : List D → Option D := runB n_led_zero 1 r_led_zero
theorem q_led_zero : defD t_led_zero n_led_zero 1 s_led_zero = f_led_zero := by kernel_rfl
def t_require_short : Tab := { consts := consts0, fns := [] }
def r_require_short : FS := (sSeq (sIf (fT (fCall (aCons (fComp (iSeq (fVar 0)) [1] (gVar 1) tTrue (f2 (cmpD .GtE) (fCall (aCons (fVar 1) aNil) absF) (f2 (binD .Pow) (fConst (.int 10)) (fConst (.int 20))))) aNil) anyF)) (sSeq bad sNil) sNil) sNil)
def f_require_short : List D → Option D := runB n_require_short 1 r_require_short
theorem q_require_short : defD t_require_short n_require_short 1 s_require_short = f_require_short := by kernel_rfl
def t__law_lines : Tab := { consts := consts0, fns := [] }
def r__law_lines : FS := (sSeq (sSet 1 (fLst (aCons (fConst (.int 1)) aNil))) (sSeq (sFor (iSeq (fVar 0)) (gTupL 2 (gMore (gVar 2) (gMore (gVar 3) gNone))) (sSeq (sSet 1 (fComp (iBind (aCons (f2 (binD .Add) (fVar 1) (fLst (aCons (fConst (.int 0)) aNil))) (aCons (f2 (binD .Add) (fLst (aCons (fConst (.int 0)) aNil)) (fVar 1)) aNil)) iZipF) [4, 5] (gTupL 2 (gMore (gVar 4) (gMore (gVar 5) gNone))) tTrue (f2 (binD .Add) (f2 (binD .Mult) (fVar 2) (fVar 4)) (f2 (binD .Mult) (fVar 3) (fVar 5))))) sNil)) (sSeq (sRet (fVar 1)) sNil)))
def f__law_lines : List D → Option D := runB n__law_lines 1 r__law_lines
theorem q__law_lines : defD t__law_lines n__law_lines 1 s__law_lines = f__law_lines := by kernel_rfl
def t__law_led : Tab := { consts := consts0, fns := [("_law_lines", 1, f__law_lines)] }
def r__law_led : FS := (sSeq (sAsg (fVar 1) (gTupL 2 (gMore (gTupL 2 (gMore (gVar 2) (gMore (gVar 3) gNone))) (gMore (gTupL 2 (gMore (gVar 4) (gMore (gVar 5) gNone))) gNone)))) (sSeq (sPar3 6 7 8 (aCons (fTup (aCons (fVar 2) (aCons (fVar 4) aNil))) (aCons (fTup (aCons (fVar 3) (aCons (fVar 5) aNil))) (aCons (fLst (aCons (fConst (.int 0)) (aCons (fConst (.int 0)) (aCons (fConst (.int 0)) (aCons (fConst (.int 0)) aNil))))) aNil)))) (sSeq (sFor (iBind (aCons (fVar 0) aNil) iEnumF) (gTupL 2 (gMore (gVar 9) (gMore (gVar 10) gNone))) (sSeq (sSet 12 (fCall (aCons (f2 (binD .Add) (f2 (binD .Mult) (fLst (aCons (fVar 6) aNil)) (f2 (binD .Sub) (fConst (.int 3)) (fVar 9))) (f2 (binD .Mult) (fLst (aCons (fVar 7) aNil)) (fVar 9))) aNil) f__law_lines)) (sSeq (sSet 8 (fComp (iBind (aCons (fVar 8) (aCons (fVar 12) aNil)) iZipF) [13, 14] (gTupL 2 (gMore (gVar 13) (gMore (gVar 14) gNone))) tTrue (f2 (binD .Add) (fVar 13) (f2 (binD .Mult) (fVar 10) (fVar 14))))) sNil))) (sSeq (sSet 11 (f2 (binD .Sub) (f2 (binD .Mult) (fVar 2) (fVar 5)) (f2 (binD .Mult) (fVar 3) (fVar 4)))) (sSeq (sRet (fCall (aCons (fComp (iSeq (fVar 8)) [13] (gVar 13) tTrue (f2 (binD .Mult) (fVar 11) (fVar 13))) aNil) tupF)) sNil)))))
def f__law_led : List D → Option D := runB n__law_led 2 r__law_led
theorem q__law_led : defD t__law_led n__law_led 2 s__law_led = f__law_led := by kernel_rfl
def t__law_discriminant : Tab := { consts := consts0, fns := [] }
def r__law_discriminant : FS := (sSeq (sAsg (fVar 0) (gTupL 4 (gMore (gVar 1) (gMore (gVar 2) (gMore (gVar 3) (gMore (gVar 4) gNone)))))) (sSeq (sSet 5 (f2 (binD .Sub) (f2 (binD .Sub) (f2 (binD .Mult) (f2 (binD .Mult) (f2 (binD .Mult) (fVar 2) (fVar 2)) (fVar 3)) (fVar 3)) (f2 (binD .Mult) (f2 (binD .Mult) (f2 (binD .Mult) (f2 (binD .Mult) (fConst (.int 4)) (fVar 1)) (fVar 3)) (fVar 3)) (fVar 3))) (f2 (binD .Mult) (f2 (binD .Mult) (f2 (binD .Mult) (f2 (binD .Mult) (fConst (.int 4)) (fVar 2)) (fVar 2)) (fVar 2)) (fVar 4)))) (sSeq (sRet (f2 (binD .Add) (f2 (binD .Sub) (fVar 5) (f2 (binD .Mult) (f2 (binD .Mult) (f2 (binD .Mult) (f2 (binD .Mult) (fConst (.int 27)) (fVar 1)) (fVar 1)) (fVar 4)) (fVar 4))) (f2 (binD .Mult) (f2 (binD .Mult) (f2 (binD .Mult) (f2 (binD .Mult) (fConst (.int 18)) (fVar 1)) (fVar 2)) (fVar 3)) (fVar 4)))) sNil)))
def f__law_discriminant : List D → Option D := runB n__law_discriminant 1 r__law_discriminant
theorem q__law_discriminant : defD t__law_discriminant n__law_discriminant 1 s__law_discriminant = f__law_discriminant := by kernel_rfl
def t__law_at : Tab := { consts := consts0, fns := [] }
def r__law_at : FS := (sSeq (sAsg (fVar 0) (gTupL 4 (gMore (gVar 3) (gMore (gVar 4) (gMore (gVar 5) (gMore (gVar 6) gNone)))))) (sSeq (sRet (f2 (binD .Add) (f2 (binD .Add) (f2 (binD .Add) (f2 (binD .Mult) (f2 (binD .Mult) (f2 (binD .Mult) (fVar 3) (fVar 1)) (fVar 1)) (fVar 1)) (f2 (binD .Mult) (f2 (binD .Mult) (f2 (binD .Mult) (fVar 4) (fVar 1)) (fVar 1)) (fVar 2))) (f2 (binD .Mult) (f2 (binD .Mult) (f2 (binD .Mult) (fVar 5) (fVar 1)) (fVar 2)) (fVar 2))) (f2 (binD .Mult) (f2 (binD .Mult) (f2 (binD .Mult) (fVar 6) (fVar 2)) (fVar 2)) (fVar 2)))) sNil))
def f__law_at : List D → Option D := runB n__law_at 3 r__law_at
theorem q__law_at : defD t__law_at n__law_at 3 s__law_at = f__law_at := by kernel_rfl
def t__law_has_root : Tab := { consts := consts0, fns := [("_law_at", 3, z__law_at)] }
def r__law_has_root : FS := (sSeq (sIf (tOr2 (fT (f2 (cmpD .Eq) (f2 ixD (fVar 0) (fConst (.int 0))) (fConst (.int 0)))) (fT (f2 (cmpD .Eq) (f2 ixD (fVar 0) (fConst (.int 3))) (fConst (.int 0))))) (sSeq (sRet (fConst (.bl true))) sNil) sNil) (sSeq (sFor (iSeq (fLst (aCons (fConst (.int 2)) (aCons (fConst (.int 3)) (aCons (fConst (.int 5)) (aCons (fConst (.int 7)) (aCons (fConst (.int 11)) (aCons (fConst (.int 13)) (aCons (fConst (.int 17)) (aCons (fConst (.int 19)) (aCons (fConst (.int 23)) (aCons (fConst (.int 29)) (aCons (fConst (.int 31)) (aCons (fConst (.int 37)) (aCons (fConst (.int 41)) (aCons (fConst (.int 43)) aNil)))))))))))))))) (gVar 1) (sSeq (sIf (tAnd2 (fT (f2 (cmpD .NotEq) (f2 (binD .Mod) (f2 ixD (fVar 0) (fConst (.int 0))) (fVar 1)) (fConst (.int 0)))) (fT (f2 (cmpD .Eq) (fComp (iBind (aCons (fVar 1) aNil) iRange1) [3] (gVar 3) (fT (f2 (cmpD .Eq) (f2 (binD .Mod) (fCall (aCons (fCall (aCons (fVar 0) (aCons (fVar 3) (aCons (fConst (.int 1)) aNil))) z__law_at) aNil) intF) (fVar 1)) (fConst (.int 0)))) (fVar 3)) (fLst aNil)))) (sSeq (sRet (fConst (.bl false))) sNil) sNil) sNil)) (sSeq (sFor (iBind (aCons (fConst (.int 1)) (aCons (f2 (binD .Add) (fCall (aCons (f2 ixD (fVar 0) (fConst (.int 0))) aNil) absF) (fConst (.int 1))) aNil)) iRange2) (gVar 2) (sSeq (sFor (iBind (aCons (fConst (.int 1)) (aCons (f2 (binD .Add) (fCall (aCons (f2 ixD (fVar 0) (fConst (.int 3))) aNil) absF) (fConst (.int 1))) aNil)) iRange2) (gVar 3) (sSeq (sIf (tOr2 (fT (f2 (cmpD .Eq) (fCall (aCons (fVar 0) (aCons (fVar 3) (aCons (fVar 2) aNil))) z__law_at) (fConst (.int 0)))) (fT (f2 (cmpD .Eq) (fCall (aCons (fVar 0) (aCons (f2 (binD .Sub) (fConst (.int 0)) (fVar 3)) (aCons (fVar 2) aNil))) z__law_at) (fConst (.int 0))))) (sSeq (sRet (fConst (.bl true))) sNil) sNil) sNil)) sNil)) (sSeq (sRet (fConst (.bl false))) sNil))))
def f__law_has_root : List D → Option D := runB n__law_has_root 1 r__law_has_root
theorem q__law_has_root : defD t__law_has_root n__law_has_root 1 s__law_has_root = f__law_has_root := by kernel_rfl
def t__law_is_mathews : Tab := { consts := consts0, fns := [] }
def r__law_is_mathews : FS := (sSeq (sAsg (fVar 0) (gTupL 4 (gMore (gVar 1) (gMore (gVar 2) (gMore (gVar 3) (gMore (gVar 4) gNone)))))) (sSeq (sIf (tOr2 (fT (f2 (cmpD .Lt) (fVar 1) (fConst (.int 1)))) (tOr2 (fT (f2 (cmpD .Lt) (fVar 2) (fConst (.int 0)))) (tAnd2 (fT (f2 (cmpD .Eq) (fVar 2) (fConst (.int 0)))) (fT (f2 (cmpD .Lt) (fVar 4) (fConst (.int 1))))))) (sSeq (sRet (fConst (.bl false))) sNil) sNil) (sSeq (sSet 5 (f2 (binD .Sub) (f2 (binD .Mult) (fVar 1) (fVar 4)) (f2 (binD .Mult) (fVar 2) (fVar 3)))) (sSeq (sIf (tOr2 (fT (f2 (cmpD .LtE) (fVar 5) (f2 (binD .Sub) (f2 (binD .Sub) (fConst (.int 0)) (f2 (binD .Mult) (f2 (binD .Sub) (fVar 1) (fVar 2)) (f2 (binD .Sub) (fVar 1) (fVar 2)))) (f2 (binD .Mult) (fVar 1) (fVar 3))))) (fT (f2 (cmpD .GtE) (fVar 5) (f2 (binD .Add) (f2 (binD .Mult) (f2 (binD .Add) (fVar 1) (fVar 2)) (f2 (binD .Add) (fVar 1) (fVar 2))) (f2 (binD .Mult) (fVar 1) (fVar 3)))))) (sSeq (sRet (fConst (.bl false))) sNil) sNil) (sSeq (sRet (f2 (cmpD .Gt) (f2 (binD .Sub) (f2 (binD .Add) (f2 (binD .Sub) (f2 (binD .Mult) (fVar 4) (fVar 4)) (f2 (binD .Mult) (fVar 1) (fVar 1))) (f2 (binD .Mult) (fVar 1) (fVar 3))) (f2 (binD .Mult) (fVar 2) (fVar 4))) (fConst (.int 0)))) sNil)))))
def f__law_is_mathews : List D → Option D := runB n__law_is_mathews 1 r__law_is_mathews
theorem q__law_is_mathews : defD t__law_is_mathews n__law_is_mathews 1 s__law_is_mathews = f__law_is_mathews := by kernel_rfl
def t__law_hessian : Tab := { consts := consts0, fns := [] }
def r__law_hessian : FS := (sSeq (sAsg (fVar 0) (gTupL 4 (gMore (gVar 1) (gMore (gVar 2) (gMore (gVar 3) (gMore (gVar 4) gNone)))))) (sSeq (sRet (fTup (aCons (f2 (binD .Sub) (f2 (binD .Mult) (fVar 2) (fVar 2)) (f2 (binD .Mult) (f2 (binD .Mult) (fConst (.int 3)) (fVar 1)) (fVar 3))) (aCons (f2 (binD .Sub) (f2 (binD .Mult) (fVar 2) (fVar 3)) (f2 (binD .Mult) (f2 (binD .Mult) (fConst (.int 9)) (fVar 1)) (fVar 4))) (aCons (f2 (binD .Sub) (f2 (binD .Mult) (fVar 3) (fVar 3)) (f2 (binD .Mult) (f2 (binD .Mult) (fConst (.int 3)) (fVar 2)) (fVar 4))) aNil))))) sNil))
def f__law_hessian : List D → Option D := runB n__law_hessian 1 r__law_hessian
theorem q__law_hessian : defD t__law_hessian n__law_hessian 1 s__law_hessian = f__law_hessian := by kernel_rfl
end FR
end
section
set_option Elab.async false
set_option linter.all false
set_option maxRecDepth 100000
set_option maxHeartbeats 4000000
/-! The straight-line defs are their typed functions. -/
namespace FR
open PySem PySem.Spec PyProof.Rows L2 DV
theorem mul_r {i j : Int} (h : Sm j) : mulD (.int i) (.int j) = some (.int (i * j)) := by
  have : mulOk i j = true := by unfold mulOk; simp [show j.natAbs < 18446744073709551616 from h]
  simp [mulD, intC, this]
theorem mul_l {i j : Int} (h : Sm i) : mulD (.int i) (.int j) = some (.int (i * j)) := by
  have : mulOk i j = true := by unfold mulOk; simp [show i.natAbs < 18446744073709551616 from h]
  simp [mulD, intC, this]
theorem add_ii {i j : Int} : addD (.int i) (.int j) = some (.int (i + j)) := rfl
theorem sub_ii {i j : Int} : subD (.int i) (.int j) = some (.int (i - j)) := rfl
theorem f_form_at_typed (f : Q4) (x y : Int) (h : Sm x ∧ Sm y) : f_form_at [enc4 f, .int x, .int y] = some (.int (at4 f x y)) := by
  obtain ⟨a, b, c, d⟩ := f
  obtain ⟨h1, h2⟩ := h
  simp [f_form_at, runB, r_form_at, sSeq, sAsg, sRet, fVar, f2, fConst, gTupL, gTupD, gMore, gNone, gVar, binD, mul_r, add_ii, sub_ii, enc4, at4, h1, h2, sNil, outD, List.replicate]
theorem sm2 : Sm 2 := by decide
theorem sm3 : Sm 3 := by decide
theorem sm4 : Sm 4 := by decide
theorem sm9 : Sm 9 := by decide
theorem sm18 : Sm 18 := by decide
theorem sm27 : Sm 27 := by decide
theorem f_form_led_typed (f g : Q4) (h : Sm4 f) (k : Sm4 g) (hd : Sm (det4 g)) : f_form_led [enc4 f, encC g] = some (enc4 (led4 f g)) := by
  obtain ⟨a, b, c, d⟩ := f
  obtain ⟨p, q, r, s⟩ := g
  obtain ⟨h1, h2, h3, h4⟩ := h
  obtain ⟨k1, k2, k3, k4⟩ := k
  dsimp only at h1 h2 h3 h4 k1 k2 k3 k4
  have hd : Sm (p * s - q * r) := hd
  simp [f_form_led, runB, r_form_led, sSeq, sAsg, sRet, sSet, fVar, f2, fConst, gTupL, gTupD, gMore, gNone, gVar, binD, mul_r, mul_l, add_ii, sub_ii, enc4, encC, led4, h1, h2, h3, h4, k1, k2, k3, k4, hd, sm2, sm3, sNil, outD, List.replicate, fTup, aCons, aNil, fCall, z_form_at, dec4]
theorem f_joined_in_typed (f g : Q4) (h : Sm4 f) : f_joined_in [encC f, encC g] = some (encC (join4 f g)) := by
  obtain ⟨a, b, c, d⟩ := f
  obtain ⟨p, q, r, s⟩ := g
  obtain ⟨h1, h2, h3, h4⟩ := h
  dsimp only at h1 h2 h3 h4
  simp [f_joined_in, runB, r_joined_in, sSeq, sAsg, sRet, sSet, fVar, f2, fConst, gTupL, gTupD, gMore, gNone, gVar, binD, mul_r, mul_l, add_ii, sub_ii, encC, join4, h1, h2, h3, h4, sNil, outD, List.replicate, fTup, aCons, aNil]
theorem f_discriminant_of_typed (f : Q4) (h : Sm4 f) : f_discriminant_of [enc4 f] = some (.int (disc4 f)) := by
  obtain ⟨a, b, c, d⟩ := f
  obtain ⟨h1, h2, h3, h4⟩ := h
  dsimp only at h1 h2 h3 h4
  simp [f_discriminant_of, runB, r_discriminant_of, sSeq, sAsg, sRet, sSet, fVar, f2, fConst, gTupL, gTupD, gMore, gNone, gVar, binD, mul_r, mul_l, add_ii, sub_ii, enc4, disc4, h1, h2, h3, h4, sm4, sm18, sm27, sNil, outD, List.replicate]
theorem f_hessian_of_typed (f : Q4) (h : Sm4 f) : f_hessian_of [enc4 f] = some (enc3 (hess4 f)) := by
  obtain ⟨a, b, c, d⟩ := f
  obtain ⟨h1, h2, h3, h4⟩ := h
  dsimp only at h1 h2 h3 h4
  simp [f_hessian_of, runB, r_hessian_of, sSeq, sAsg, sRet, sSet, fVar, f2, fConst, gTupL, gTupD, gMore, gNone, gVar, binD, mul_r, mul_l, add_ii, sub_ii, enc4, enc3, hess4, h1, h2, h3, h4, sm3, sm9, sNil, outD, List.replicate, fTup, aCons, aNil]
def lin3 (a b c d e f : Int) : D := .lst [.int (e * (c * a)), .int (e * (d * a + c * b) + f * (c * a)), .int (e * (d * b) + f * (d * a + c * b)), .int (f * (d * b))]
theorem f__law_lines3 (a b c d e f : Int) (h : Sm a ∧ Sm b ∧ Sm c ∧ Sm d ∧ Sm e ∧ Sm f) : f__law_lines [.lst [.tup [.int a, .int b], .tup [.int c, .int d], .tup [.int e, .int f]]] = some (lin3 a b c d e f) := by
  obtain ⟨h1, h2, h3, h4, h5, h6⟩ := h
  simp [f__law_lines, runB, r__law_lines, sSeq, sFor, forD, iSeq, seqOf, iBind, iZipF, zipL, fComp, compD, wipeD, flat, flatL, tTrue, sAsg, sRet, sSet, fVar, f2, fConst, gTupL, gTupD, gMore, gNone, gVar, binD, mul_r, mul_l, add_ii, sub_ii, addD, intI, catD, h1, h2, h3, h4, h5, h6, sNil, outD, List.replicate, fTup, fLst, aCons, aNil, lin3]
  all_goals grind
theorem mul_li {xs : List D} {n : Int} : mulD (.lst xs) (.int n) = repD (.lst xs) (.int n) := rfl
theorem add_ll {xs ys : List D} : addD (.lst xs) (.lst ys) = catD (.lst xs) (.lst ys) := rfl
theorem f__law_led_typed (f g : Q4) (h : Sm4 f) (k : Sm4 g) (hd : Sm (det4 g)) : f__law_led [enc4 f, encC g] = some (enc4 (led4 f g)) := by
  obtain ⟨a, b, c, d⟩ := f
  obtain ⟨p, q, r, s⟩ := g
  obtain ⟨h1, h2, h3, h4⟩ := h
  obtain ⟨k1, k2, k3, k4⟩ := k
  dsimp only at h1 h2 h3 h4 k1 k2 k3 k4
  have hd : Sm (p * s - q * r) := hd
  have e0 := f__law_lines3 p r p r p r ⟨k1, k3, k1, k3, k1, k3⟩
  have e1 := f__law_lines3 p r p r q s ⟨k1, k3, k1, k3, k2, k4⟩
  have e2 := f__law_lines3 p r q s q s ⟨k1, k3, k2, k4, k2, k4⟩
  have e3 := f__law_lines3 q s q s q s ⟨k2, k4, k2, k4, k2, k4⟩
  simp [f__law_led, runB, r__law_led, sSeq, sFor, forD, iSeq, seqOf, iBind, iZipF, iEnumF, numL, zipL, fComp, compD, wipeD, flat, flatL, tTrue, sAsg, sPar3, sRet, sSet, fVar, f2, fConst, gTupL, gTupD, gMore, gNone, gVar, binD, mul_r, mul_l, add_ii, sub_ii, mul_li, add_ll, catD, repD, h1, h2, h3, h4, k1, k2, k3, k4, hd, sNil, outD, List.replicate, fTup, fLst, aCons, aNil, fCall, tupF, e0, e1, e2, e3, lin3, enc4, encC, led4, at4]
  all_goals grind
theorem neg_i {i : Int} : negD (.int i) = some (.int (-i)) := rfl
theorem cmp_gt {i j : Int} : cmpD .Gt (.int i) (.int j) = some (.bl (decide (j < i))) := rfl
theorem cmp_lt {i j : Int} : cmpD .Lt (.int i) (.int j) = some (.bl (decide (i < j))) := rfl
theorem cmp_le {i j : Int} : cmpD .LtE (.int i) (.int j) = some (.bl (decide (i ≤ j))) := rfl
theorem cmp_ge {i j : Int} : cmpD .GtE (.int i) (.int j) = some (.bl (decide (j ≤ i))) := rfl
theorem cmp_eq {i j : Int} : cmpD .Eq (.int i) (.int j) = some (.bl (decide (i = j))) := rfl
theorem cmp_ne {i j : Int} : cmpD .NotEq (.int i) (.int j) = some (.bl (!decide (i = j))) := rfl
theorem f_monic_at_typed (f : Int × Int × Int) (x : Int) (h : Sm x) : f_monic_at [enc3 f, .int x] = some (.int (monic3 f x)) := by
  obtain ⟨a, b, c⟩ := f
  simp [f_monic_at, runB, r_monic_at, sSeq, sAsg, sRet, fVar, f2, fConst, gTupL, gTupD, gMore, gNone, gVar, binD, mul_r, add_ii, sub_ii, enc3, monic3, h, sNil, outD, List.replicate]
theorem f_is_small_typed (f : Q4) (h : Sm4 f) : f_is_small [enc4 f] = some (.bl (small4 f)) := by
  obtain ⟨a, b, c, d⟩ := f
  obtain ⟨h1, h2, h3, h4⟩ := h
  dsimp only at h1 h2 h3 h4
  simp [f_is_small, runB, r_is_small, sSeq, sAsg, sRet, fVar, f2, fConst, gTupL, gTupD, gMore, gNone, gVar, binD, mul_r, mul_l, add_ii, sub_ii, enc4, small4, h1, h2, h3, h4, sNil, outD, List.replicate, cmp_gt]
theorem f_is_between_typed (f : Q4) (h : Sm4 f) (k1 : Sm (f.1 - f.2.1)) (k2 : Sm (f.1 + f.2.1)) : f_is_between [enc4 f] = some (.bl (between4 f)) := by
  obtain ⟨a, b, c, d⟩ := f
  obtain ⟨h1, h2, h3, h4⟩ := h
  dsimp only at h1 h2 h3 h4 k1 k2
  simp [f_is_between, runB, r_is_between, sSeq, sAsg, sSet, sRet, fVar, f2, fConst, gTupL, gTupD, gMore, gNone, gVar, binD, mul_r, mul_l, add_ii, sub_ii, enc4, between4, h1, h2, h3, h4, k1, k2, sNil, outD, List.replicate, cmp_lt, fChain, fNeg, neg_i, asB]
  split <;> simp_all
  all_goals (intros; omega)
theorem f_is_not_past_typed (f : Q4) (t : Int) (h : Sm4 f) (k : Sm (f.1 - f.2.1 - 2 * t * f.1)) : f_is_not_past [enc4 f, .int t] = some (.bl (past4 f t)) := by
  obtain ⟨a, b, c, d⟩ := f
  obtain ⟨h1, h2, h3, h4⟩ := h
  dsimp only at h1 h2 h3 h4 k
  simp [f_is_not_past, runB, r_is_not_past, sSeq, sPar2, sRet, fVar, f2, fConst, binD, mul_r, mul_l, add_ii, sub_ii, enc4, past4, h1, h2, h3, h4, k, sNil, outD, List.replicate, cmp_gt, ixD, seqOf, fCall, aCons, aNil, z_form_at, dec4, sm2, atI, ixN]
theorem or_i {p : Prop} [Decidable p] {t : Bool} : (if p then some true else some t) = some (decide p || t) := by
  by_cases h : p <;> simp [h]
theorem and_i {p : Prop} [Decidable p] {t : Bool} : (if p then some t else some false) = some (decide p && t) := by
  by_cases h : p <;> simp [h]
theorem f__law_is_mathews_typed (f : Q4) (h : Sm4 f) (k1 : Sm (f.1 - f.2.1)) (k2 : Sm (f.1 + f.2.1)) : f__law_is_mathews [enc4 f] = some (.bl (mathews4 f)) := by
  obtain ⟨a, b, c, d⟩ := f
  obtain ⟨h1, h2, h3, h4⟩ := h
  dsimp only at h1 h2 h3 h4 k1 k2
  simp [f__law_is_mathews, runB, r__law_is_mathews, sSeq, sAsg, sSet, sRet, sIf, fVar, f2, fConst, gTupL, gTupD, gMore, gNone, gVar, binD, mul_r, mul_l, add_ii, sub_ii, enc4, h1, h2, h3, h4, k1, k2, sNil, outD, List.replicate, cmp_lt, cmp_gt, cmp_le, cmp_ge, cmp_eq, asB, tOr2, tAnd2, fT, or_i, and_i]
  unfold mathews4 small4
  by_cases c1 : a < 1 ∨ b < 0 ∨ (b = 0 ∧ d < 1)
  · rw [if_pos c1]
    simp [c1]
  · rw [if_neg c1]
    simp [c1, mul_r, mul_l, add_ii, sub_ii, h1, h2, h3, h4, k1, k2, cmp_le, cmp_ge, asB, or_i]
    by_cases c2 : a * d - b * c ≤ 0 - (a - b) * (a - b) - a * c ∨ (a + b) * (a + b) + a * c ≤ a * d - b * c
    · rw [if_pos (by simpa using c2)]
      simp [show (a * d - b * c ≤ -((a - b) * (a - b)) - a * c ∨ (a + b) * (a + b) + a * c ≤ a * d - b * c) by simpa using c2]
      intro u v
      rcases c2 with c2 | c2 <;> omega
    · rw [if_neg (by simpa using c2)]
      simp [show ¬ (a * d - b * c ≤ -((a - b) * (a - b)) - a * c ∨ (a + b) * (a + b) + a * c ≤ a * d - b * c) by simpa using c2, mul_r, mul_l, add_ii, sub_ii, h1, h2, h3, h4, cmp_gt]
      intro u
      constructor <;> omega
theorem f__law_at_typed (f : Q4) (x y : Int) (h : Sm4 f) (k1 : Sm x) (k2 : Sm y) : f__law_at [enc4 f, .int x, .int y] = some (.int (at4 f x y)) := by
  obtain ⟨a, b, c, d⟩ := f
  obtain ⟨h1, h2, h3, h4⟩ := h
  dsimp only at h1 h2 h3 h4
  simp [f__law_at, runB, r__law_at, sSeq, sAsg, sRet, fVar, f2, fConst, gTupL, gTupD, gMore, gNone, gVar, binD, mul_r, mul_l, add_ii, sub_ii, enc4, at4, h1, h2, h3, h4, k1, k2, sNil, outD, List.replicate]
  grind
theorem f__law_discriminant_typed (f : Q4) (h : Sm4 f) : f__law_discriminant [enc4 f] = some (.int (disc4 f)) := by
  obtain ⟨a, b, c, d⟩ := f
  obtain ⟨h1, h2, h3, h4⟩ := h
  dsimp only at h1 h2 h3 h4
  simp [f__law_discriminant, runB, r__law_discriminant, sSeq, sAsg, sSet, sRet, fVar, f2, fConst, gTupL, gTupD, gMore, gNone, gVar, binD, mul_r, mul_l, add_ii, sub_ii, enc4, disc4, h1, h2, h3, h4, sm4, sm18, sm27, sNil, outD, List.replicate]
  grind
theorem f__law_hessian_typed (f : Q4) (h : Sm4 f) : f__law_hessian [enc4 f] = some (enc3 (hess4 f)) := by
  obtain ⟨a, b, c, d⟩ := f
  obtain ⟨h1, h2, h3, h4⟩ := h
  dsimp only at h1 h2 h3 h4
  simp [f__law_hessian, runB, r__law_hessian, sSeq, sAsg, sRet, fVar, f2, fConst, gTupL, gTupD, gMore, gNone, gVar, binD, mul_r, mul_l, add_ii, sub_ii, enc4, enc3, hess4, h1, h2, h3, h4, sm3, sm9, sNil, outD, List.replicate, fTup, aCons, aNil]
end FR
end
section
set_option Elab.async false
set_option linter.all false
set_option maxRecDepth 100000
set_option maxHeartbeats 4000000
/-! The typed promises follow from the resolved readings. -/
namespace FR
open PySem PySem.Spec PyProof.Rows L2 DV
theorem dec4_ok {x : D} {f : Q4} (h : dec4 x = some f) : x = enc4 f := by
  unfold dec4 at h
  split at h <;> cases h
  rfl
theorem decC_ok {x : D} {f : Q4} (h : decC x = some f) : x = encC f := by
  unfold decC at h
  split at h <;> cases h
  rfl
theorem dec3_ok {x : D} {f : Int × Int × Int} (h : dec3 x = some f) : x = enc3 f := by
  unfold dec3 at h
  split at h <;> cases h
  rfl
theorem dec4_enc (f : Q4) : dec4 (enc4 f) = some f := rfl
theorem decC_enc (f : Q4) : decC (encC f) = some f := rfl
theorem dec3_enc (f : Int × Int × Int) : dec3 (enc3 f) = some f := rfl
theorem if_some {α : Type} {p : Prop} [Decidable p] {a b : α} (h : (if p then some a else none) = some b) : p ∧ a = b := by
  split at h
  · cases h; exact ⟨by assumption, rfl⟩
  · cases h
theorem k_form_at : ∀ ds d, z_form_at ds = some d → f_form_at ds = some d := fun ds d h => by
  unfold z_form_at at h
  split at h <;> try (cases h; done)
  rw [Option.bind_eq_some_iff] at h
  obtain ⟨f, e1, h⟩ := h
  obtain ⟨h1, rfl⟩ := if_some h
  rw [dec4_ok e1]
  exact f_form_at_typed f _ _ h1
theorem k__law_at : ∀ ds d, z__law_at ds = some d → f__law_at ds = some d := fun ds d h => by
  unfold z__law_at at h
  split at h <;> try (cases h; done)
  rw [Option.bind_eq_some_iff] at h
  obtain ⟨f, e1, h⟩ := h
  obtain ⟨h1, rfl⟩ := if_some h
  rw [dec4_ok e1]
  exact f__law_at_typed f _ _ h1.1 h1.2.1 h1.2.2
theorem k_form_led : ∀ ds d, z_form_led ds = some d → f_form_led ds = some d := fun ds d h => by
  unfold z_form_led at h
  split at h <;> try (cases h; done)
  rw [Option.bind_eq_some_iff] at h
  obtain ⟨f, e1, h⟩ := h
  rw [Option.bind_eq_some_iff] at h
  obtain ⟨g, e2, h⟩ := h
  obtain ⟨h1, rfl⟩ := if_some h
  rw [dec4_ok e1, decC_ok e2]
  exact f_form_led_typed f g h1.1 h1.2.1 h1.2.2
theorem k__law_led : ∀ ds d, z_form_led ds = some d → f__law_led ds = some d := fun ds d h => by
  unfold z_form_led at h
  split at h <;> try (cases h; done)
  rw [Option.bind_eq_some_iff] at h
  obtain ⟨f, e1, h⟩ := h
  rw [Option.bind_eq_some_iff] at h
  obtain ⟨g, e2, h⟩ := h
  obtain ⟨h1, rfl⟩ := if_some h
  rw [dec4_ok e1, decC_ok e2]
  exact f__law_led_typed f g h1.1 h1.2.1 h1.2.2
theorem k_joined_in : ∀ ds d, z_joined_in ds = some d → f_joined_in ds = some d := fun ds d h => by
  unfold z_joined_in at h
  split at h <;> try (cases h; done)
  rw [Option.bind_eq_some_iff] at h
  obtain ⟨f, e1, h⟩ := h
  rw [Option.bind_eq_some_iff] at h
  obtain ⟨g, e2, h⟩ := h
  obtain ⟨h1, rfl⟩ := if_some h
  rw [decC_ok e1, decC_ok e2]
  exact f_joined_in_typed f g h1
theorem k_monic_at : ∀ ds d, z_monic_at ds = some d → f_monic_at ds = some d := fun ds d h => by
  unfold z_monic_at at h
  split at h <;> try (cases h; done)
  rw [Option.bind_eq_some_iff] at h
  obtain ⟨f, e1, h⟩ := h
  obtain ⟨h1, rfl⟩ := if_some h
  rw [dec3_ok e1]
  exact f_monic_at_typed f _ h1
theorem k_is_not_past : ∀ ds d, z_is_not_past ds = some d → f_is_not_past ds = some d := fun ds d h => by
  unfold z_is_not_past at h
  split at h <;> try (cases h; done)
  rw [Option.bind_eq_some_iff] at h
  obtain ⟨f, e1, h⟩ := h
  obtain ⟨h1, rfl⟩ := if_some h
  rw [dec4_ok e1]
  exact f_is_not_past_typed f _ h1.1 h1.2
theorem k_discriminant_of : ∀ ds d, z_discriminant_of ds = some d → f_discriminant_of ds = some d := fun ds d h => by
  unfold z_discriminant_of at h
  split at h <;> try (cases h; done)
  rw [Option.bind_eq_some_iff] at h
  obtain ⟨f, e1, h⟩ := h
  obtain ⟨h1, rfl⟩ := if_some h
  rw [dec4_ok e1]
  exact f_discriminant_of_typed f h1
theorem k__law_discriminant : ∀ ds d, z_discriminant_of ds = some d → f__law_discriminant ds = some d := fun ds d h => by
  unfold z_discriminant_of at h
  split at h <;> try (cases h; done)
  rw [Option.bind_eq_some_iff] at h
  obtain ⟨f, e1, h⟩ := h
  obtain ⟨h1, rfl⟩ := if_some h
  rw [dec4_ok e1]
  exact f__law_discriminant_typed f h1
theorem k_hessian_of : ∀ ds d, z_hessian_of ds = some d → f_hessian_of ds = some d := fun ds d h => by
  unfold z_hessian_of at h
  split at h <;> try (cases h; done)
  rw [Option.bind_eq_some_iff] at h
  obtain ⟨f, e1, h⟩ := h
  obtain ⟨h1, rfl⟩ := if_some h
  rw [dec4_ok e1]
  exact f_hessian_of_typed f h1
theorem k__law_hessian : ∀ ds d, z_hessian_of ds = some d → f__law_hessian ds = some d := fun ds d h => by
  unfold z_hessian_of at h
  split at h <;> try (cases h; done)
  rw [Option.bind_eq_some_iff] at h
  obtain ⟨f, e1, h⟩ := h
  obtain ⟨h1, rfl⟩ := if_some h
  rw [dec4_ok e1]
  exact f__law_hessian_typed f h1
theorem k_is_small : ∀ ds d, z_is_small ds = some d → f_is_small ds = some d := fun ds d h => by
  unfold z_is_small at h
  split at h <;> try (cases h; done)
  rw [Option.bind_eq_some_iff] at h
  obtain ⟨f, e1, h⟩ := h
  obtain ⟨h1, rfl⟩ := if_some h
  rw [dec4_ok e1]
  exact f_is_small_typed f h1
theorem k_is_between : ∀ ds d, z_is_between ds = some d → f_is_between ds = some d := fun ds d h => by
  unfold z_is_between at h
  split at h <;> try (cases h; done)
  rw [Option.bind_eq_some_iff] at h
  obtain ⟨f, e1, h⟩ := h
  obtain ⟨h1, rfl⟩ := if_some h
  rw [dec4_ok e1]
  exact f_is_between_typed f h1.1 h1.2.1 h1.2.2
theorem k__law_is_mathews : ∀ ds d, z__law_is_mathews ds = some d → f__law_is_mathews ds = some d := fun ds d h => by
  unfold z__law_is_mathews at h
  split at h <;> try (cases h; done)
  rw [Option.bind_eq_some_iff] at h
  obtain ⟨f, e1, h⟩ := h
  obtain ⟨h1, rfl⟩ := if_some h
  rw [dec4_ok e1]
  exact f__law_is_mathews_typed f h1.1 h1.2.1 h1.2.2
end FR
end
section
set_option Elab.async false
set_option linter.all false
set_option maxRecDepth 100000
set_option maxHeartbeats 4000000
/-! Typed loops: led_above. -/
namespace FR
open PySem PySem.Spec PyProof.Rows L2 DV
def chg40 : List Q4 := [(-1, -1, -1, 0), (-1, -1, 0, -1), (-1, -1, 0, 1), (-1, -1, 1, 0), (-1, 0, -1, -1), (-1, 0, -1, 1), (-1, 0, 0, -1), (-1, 0, 0, 1), (-1, 0, 1, -1), (-1, 0, 1, 1), (-1, 1, -1, 0), (-1, 1, 0, -1), (-1, 1, 0, 1), (-1, 1, 1, 0), (0, -1, -1, -1), (0, -1, -1, 0), (0, -1, -1, 1), (0, -1, 1, -1), (0, -1, 1, 0), (0, -1, 1, 1), (0, 1, -1, -1), (0, 1, -1, 0), (0, 1, -1, 1), (0, 1, 1, -1), (0, 1, 1, 0), (0, 1, 1, 1), (1, -1, -1, 0), (1, -1, 0, -1), (1, -1, 0, 1), (1, -1, 1, 0), (1, 0, -1, -1), (1, 0, -1, 1), (1, 0, 0, -1), (1, 0, 0, 1), (1, 0, 1, -1), (1, 0, 1, 1), (1, 1, -1, 0), (1, 1, 0, -1), (1, 1, 0, 1), (1, 1, 1, 0)]
theorem f_small_changes_typed : f_small_changes [] = some (.lst (chg40.map encC)) := by kernel_rfl
def l4 (f : Q4) : List Int := [f.1, f.2.1, f.2.2.1, f.2.2.2]
def aboveL (here : Q4) (h : Int × Int × Int) : List Q4 → Q4 × Q4 → Option (Q4 × Q4)
  | [], s => some s
  | c :: cs, s => if Sm4 here ∧ Sm4 c ∧ Sm (det4 c) then (if lexGt (l4 (led4 here c)) (l4 s.1) = true then (if Sm4 (led4 here c) then (if hess4 (led4 here c) = h then aboveL here h cs (led4 here c, c) else aboveL here h cs s) else none) else aboveL here h cs s) else none
def z_led_above : List D → Option D
  | [x] => (dec4 x).bind fun f => ((f_way_to_small [x]).bind decC).bind fun way => if Sm4 f ∧ Sm4 way ∧ Sm (det4 way) ∧ Sm4 (led4 f way) then
      (aboveL (led4 f way) (hess4 (led4 f way)) chg40 (led4 f way, (1, 0, 0, 1))).bind fun s => some (.tup [enc4 s.1, encC (join4 way s.2)])
    else none
  | _ => none
theorem gt4 (o f : Q4) : cmpD .Gt (enc4 o) (enc4 f) = some (.bl (lexGt (l4 o) (l4 f))) := rfl
theorem eq3 (o f : Int × Int × Int) : cmpD .Eq (enc3 o) (enc3 f) = some (.bl (decide (o = f))) := by
  obtain ⟨a, b, c⟩ := o
  obtain ⟨p, q, r⟩ := f
  have sh : SeqAt.shaped (py (enc3 (a, b, c))) = true := rfl
  have sh2 : SeqAt.shaped (py (enc3 (p, q, r))) = true := rfl
  show (eqD false (enc3 (a, b, c)) (enc3 (p, q, r))) = _
  unfold eqD
  rw [sh, sh2]
  simp [enc3, py, pyL, PyData.eqv]
  show ((a == p) && ((b == q) && ((c == r) && true))) = _
  rw [Bool.and_true]
  rfl
def abBody : FS := (sSeq (sSet 7 (fCall (aCons (fVar 2) (aCons (fVar 6) aNil)) z_form_led)) (sSeq (sIf (tAnd2 (fT (f2 (cmpD .Gt) (fVar 7) (fVar 4))) (fT (f2 (cmpD .Eq) (fCall (aCons (fVar 7) aNil) z_hessian_of) (fVar 3)))) (sSeq (sPar2 4 5 (aCons (fVar 7) (aCons (fVar 6) aNil))) sNil) sNil) sNil))
theorem abBody_ok {here c fo la : Q4} {h : Int × Int × Int} {x y w : Option D} {s : Q4 × Q4} (h1 : Sm4 here ∧ Sm4 c ∧ Sm (det4 c)) (hs : (if lexGt (l4 (led4 here c)) (l4 fo) = true then (if Sm4 (led4 here c) then (if hess4 (led4 here c) = h then some (led4 here c, c) else some (fo, la)) else none) else some (fo, la)) = some s) :
    abBody [x, y, some (enc4 here), some (enc3 h), some (enc4 fo), some (encC la), some (encC c), w] = some (.nx [x, y, some (enc4 here), some (enc3 h), some (enc4 s.1), some (encC s.2), some (encC c), some (enc4 (led4 here c))]) := by
  have e1 : z_form_led [enc4 here, encC c] = some (enc4 (led4 here c)) := by
    show (if Sm4 here ∧ Sm4 c ∧ Sm (det4 c) then some (enc4 (led4 here c)) else none) = _
    rw [if_pos h1]
  generalize led4 here c = o at hs e1
  by_cases g : lexGt (l4 o) (l4 fo) = true
  · rw [if_pos g] at hs
    split at hs
    · rename_i so
      have e2 : z_hessian_of [enc4 o] = some (enc3 (hess4 o)) := by
        show (if Sm4 o then some (enc3 (hess4 o)) else none) = _
        rw [if_pos so]
      by_cases q : hess4 o = h
      · rw [if_pos q] at hs
        cases hs
        simp [abBody, sSeq, sSet, sIf, sPar2, fCall, aCons, aNil, fVar, f2, e1, e2, gt4, eq3, g, q, tAnd2, fT, asB, sNil]
      · rw [if_neg q] at hs
        cases hs
        simp [abBody, sSeq, sSet, sIf, sPar2, fCall, aCons, aNil, fVar, f2, e1, e2, gt4, eq3, g, q, tAnd2, fT, asB, sNil]
    · cases hs
  · rw [if_neg g] at hs
    cases hs
    have g' : lexGt (l4 o) (l4 fo) = false := by simpa using g
    simp [abBody, sSeq, sSet, sIf, sPar2, fCall, aCons, aNil, fVar, f2, e1, gt4, eq3, g', tAnd2, fT, asB, sNil]
theorem aboveL_ok {here : Q4} {h : Int × Int × Int} {x y : Option D} : ∀ (cs : List Q4) (s s' : Q4 × Q4) (z w : Option D), aboveL here h cs s = some s' →
    ∃ z' w', forD (gVar 6) abBody (cs.map encC) [x, y, some (enc4 here), some (enc3 h), some (enc4 s.1), some (encC s.2), z, w] = some (.nx [x, y, some (enc4 here), some (enc3 h), some (enc4 s'.1), some (encC s'.2), z', w'])
  | [], s, s', z, w, e => by
    cases e
    exact ⟨z, w, rfl⟩
  | c :: cs, s, s', z, w, e => by
    unfold aboveL at e
    split at e <;> try (cases e; done)
    rename_i h1
    have key : ∃ s1, (if lexGt (l4 (led4 here c)) (l4 s.1) = true then (if Sm4 (led4 here c) then (if hess4 (led4 here c) = h then some (led4 here c, c) else some (s.1, s.2)) else none) else some (s.1, s.2)) = some s1 ∧ aboveL here h cs s1 = some s' := by
      split at e
      · rename_i g
        rw [if_pos g]
        split at e
        · rename_i so
          rw [if_pos so]
          split at e
          · rename_i q
            rw [if_pos q]
            exact ⟨_, rfl, e⟩
          · rename_i q
            rw [if_neg q]
            exact ⟨_, rfl, e⟩
        · cases e
      · rename_i g
        rw [if_neg g]
        exact ⟨_, rfl, e⟩
    obtain ⟨s1, e1, e2⟩ := key
    obtain ⟨z', w', e3⟩ := aboveL_ok (x := x) (y := y) cs s1 s' (some (encC c)) (some (enc4 (led4 here c))) e2
    refine ⟨z', w', ?_⟩
    have e4 := abBody_ok (x := x) (y := y) (w := w) (fo := s.1) (la := s.2) h1 e1
    show ((gVar 6 (encC c) [x, y, some (enc4 here), some (enc3 h), some (enc4 s.1), some (encC s.2), z, w]).bind fun δ1 => (abBody δ1).bind fun o => match o with
      | .nx δ2 => forD (gVar 6) abBody (cs.map encC) δ2
      | .rt z => some (.rt z)) = _
    rw [show gVar 6 (encC c) [x, y, some (enc4 here), some (enc3 h), some (enc4 s.1), some (encC s.2), z, w] = some [x, y, some (enc4 here), some (enc3 h), some (enc4 s.1), some (encC s.2), some (encC c), w] from rfl]
    show ((abBody _).bind _) = _
    rw [e4]
    exact e3
theorem k_led_above : ∀ ds d, z_led_above ds = some d → f_led_above ds = some d := fun ds d hz => by
  unfold z_led_above at hz
  split at hz <;> try (cases hz; done)
  rename_i x
  rw [Option.bind_eq_some_iff] at hz
  obtain ⟨f, e1, hz⟩ := hz
  rw [Option.bind_eq_some_iff] at hz
  obtain ⟨way, e2, hz⟩ := hz
  split at hz <;> try (cases hz; done)
  rename_i hc
  rw [Option.bind_eq_some_iff] at hz
  obtain ⟨s, e3, hz⟩ := hz
  cases hz
  rw [Option.bind_eq_some_iff] at e2
  obtain ⟨dw, e2, e2'⟩ := e2
  rw [decC_ok e2'] at e2
  rw [dec4_ok e1] at e2 ⊢
  obtain ⟨c1, c2, c3, c4⟩ := hc
  have l1 : z_form_led [enc4 f, encC way] = some (enc4 (led4 f way)) := by
    show (if Sm4 f ∧ Sm4 way ∧ Sm (det4 way) then some (enc4 (led4 f way)) else none) = _
    rw [if_pos ⟨c1, c2, c3⟩]
  have l2 : z_hessian_of [enc4 (led4 f way)] = some (enc3 (hess4 (led4 f way))) := by
    show (if Sm4 (led4 f way) then some (enc3 (hess4 (led4 f way))) else none) = _
    rw [if_pos c4]
  have l3 : z_joined_in [encC way, encC s.2] = some (encC (join4 way s.2)) := by
    show (if Sm4 way then some (encC (join4 way s.2)) else none) = _
    rw [if_pos c2]
  obtain ⟨z', w', e5⟩ := aboveL_ok (x := some (enc4 f)) (y := some (encC way)) chg40 _ s none none e3
  have id0 : ch 1 0 0 1 = encC (1, 0, 0, 1) := rfl
  unfold abBody at e5
  simp [f_led_above, runB, r_led_above, sSeq, sSet, sPar2, sRet, sFor, iSeq, seqOf, fCall, aCons, aNil, fVar, fConst, e2, l1, l2, f_small_changes_typed, List.replicate, id0]
  rw [e5]
  simp [fTup, aCons, aNil, fVar, fCall, l3, sNil, outD]
end FR
end
section
set_option Elab.async false
set_option linter.all false
set_option maxRecDepth 100000
set_option maxHeartbeats 4000000
/-! What holds of each def, by the facts of the module behind its top. -/
namespace FR
open PySem PySem.Spec PyProof.Rows L2 DV
structure G where
  P : Program
  w : World
  K : PySem.W.Frag
  mg : Str → Option Value
  base : Heap
def G.ctx (g : G) (k : Nat) (N : List Str) : DV.Ctx := ⟨g.P, g.w, g.K, g.mg, g.base, k, N⟩
def Bnd (st : Stmt) (x qual : Str) (ps : List Str) : Prop := ∀ (kV doc pm : Value) (an : Option Addr) (cdv ct : Value) (us : List Value), us.length = ps.length →
  bindArgs (PySem.W.fnOf x qual (defArgs st) (defBody st) (defScope st) .none kV doc pm an cdv ct) ⟨us, []⟩ = Pure.pure (ps.zip us)
structure Has (g : G) (x : Str) (st : Stmt) (f : Addr) (fd : FuncData) : Prop where
  mg : g.mg x = some (.ref f)
  kp : PySem.W.keepIn g.K (.ref f) = true
  fn : FnP g.K x x st f fd
def SpO (g : G) (k : Nat) (x : Str) (n : Nat) (sp : Sp) : Prop := ∃ (f : Addr) (fd : FuncData) (ps : List Str), ps.length = n ∧ g.mg x = some (.ref f) ∧ PySem.W.keepIn g.K (.ref f) = true ∧ Binds g.K fd ps [] ∧ FnOk g.P g.w g.K g.mg g.base CX0 k f fd ps sp
def Got (g : G) (k : Nat) (x : Str) (n : Nat) (m : List D → Option D) : Prop := (∀ ds d, m ds = some d → ds.length = n) ∧ SpO g k x n (spD g.K n m)
theorem SpO.mono {g : G} {j k n : Nat} {x : Str} {sp : Sp} (h : SpO g j x n sp) (hj : j ≤ k) : SpO g k x n sp := by
  obtain ⟨f, fd, ps, h1, h2, h3, h4, h5⟩ := h
  exact ⟨f, fd, ps, h1, h2, h3, h4, h5.mono hj⟩
theorem Got.mono {g : G} {j k n : Nat} {x : Str} {m : List D → Option D} (h : Got g j x n m) (hj : j ≤ k) : Got g k x n m := ⟨h.1, h.2.mono hj⟩
theorem Got.imp {g : G} {k n : Nat} {x : Str} {m m' : List D → Option D} (h : Got g k x n m) (hm : ∀ ds d, m' ds = some d → m ds = some d) : Got g k x n m' := by
  obtain ⟨h0, f, fd, ps, h1, h2, h3, h4, h5⟩ := h
  exact ⟨fun ds d q => h0 ds d (hm ds d q), f, fd, ps, h1, h2, h3, h4, spD_imp hm h5⟩
/-- the functions of a table -/
inductive AllG (g : G) (k : Nat) : List (Str × Nat × (List D → Option D)) → Prop
  | nil : AllG g k []
  | cons {x : Str} {n : Nat} {m : List D → Option D} {l} : Got g k x n m → AllG g k l → AllG g k ((x, n, m) :: l)
theorem AllG.get {g : G} {k : Nat} : ∀ {l : List (Str × Nat × (List D → Option D))}, AllG g k l → ∀ x n m, l.lookup x = some (n, m) → Got g k x n m
  | _, .nil, _, _, _, h => nomatch h
  | _, .cons (x := y) (n := n') (m := m') h t, x, n, m, e => by
    rw [List.lookup_cons] at e
    split at e
    · rename_i q
      cases e
      rw [beq_iff_eq.mp q]
      exact h
    · exact t.get x n m e
/-- what the defs stand on -/
structure Base (g : G) : Prop where
  blt : ∀ x, x ∈ bltNames → g.mg x = none
  gcd : g.mg "gcd" = some (.builtin "math.gcd")
  sqrt : g.mg "isqrt" = some (.builtin "math.isqrt")
  const : ∀ x d, consts0.lookup x = some d → ∃ v u, g.mg x = some u ∧ RelV v u ∧ ∀ H, Den g.K H d v
theorem tab_ok {g : G} {k : Nat} {N : List Str} {fns : List (Str × Nat × (List D → Option D))} (B : Base g) (nd : N.Nodup) (h : AllG g k fns) : TabOk (g.ctx k N) { consts := consts0, fns := fns } where
  nd := nd
  const := B.const
  fn := fun x n m e => by
    obtain ⟨h0, f, fd, ps, h1, h2, h3, h4, h5⟩ := h.get x n m e
    exact ⟨h0, k, f, fd, ps, h1, Nat.le_refl _, h2, h3, h4, h5⟩
  blt := B.blt
  gcd := B.gcd
  sqrt := B.sqrt
  cls := fun _ _ h => nomatch h
  slot := fun _ h => nomatch h
  prop := fun _ _ _ h => nomatch h
  make := fun _ _ _ _ h => nomatch h
  eq := fun _ _ h => nomatch h
/-- a def by its resolved reading -/
theorem got_of {g : G} {k : Nat} {x : Str} {st : Stmt} {N ps : List Str} {T : Tab} {m : List D → Option D} (h : ∃ f fd, Has g x st f fd) (S : FnScope N ps (defScope st)) (hb : Bnd st x x ps) (ok : TabOk (g.ctx k N) T) (hm : defD T N ps.length st = m) : Got g (k + 1) x ps.length m := by
  obtain ⟨f, fd, h⟩ := h
  subst hm
  exact ⟨fun ds d q => runB_len ds d q, f, fd, ps, rfl, h.mg, h.kp, h.fn.binds1 hb, defD_ok h.fn S ok⟩
end FR
end
section
set_option Elab.async false
set_option linter.all false
set_option maxRecDepth 100000
set_option maxHeartbeats 4000000
/-! Each pure def keeps its resolved promise. Printed by wip/gen3.py. -/
namespace FR
open PySem PySem.Spec PyProof.Rows L2 DV

theorem b_is_whole : Bnd s_is_whole "is_whole" "is_whole" p_is_whole := fun kV doc pm an cdv ct us h => match us, h with | [_], _ => rfl
theorem got_is_whole {g : G} (B : Base g) (h : ∃ f fd, Has g "is_whole" s_is_whole f fd) : Got g 1 "is_whole" 1 f_is_whole := got_of (k := 0) h sc_is_whole b_is_whole (tab_ok B (by decide) .nil) q_is_whole
theorem b_is_integer : Bnd s_is_integer "is_integer" "is_integer" p_is_integer := fun kV doc pm an cdv ct us h => match us, h with | [_], _ => rfl
theorem got_is_integer {g : G} (B : Base g) (h : ∃ f fd, Has g "is_integer" s_is_integer f fd) (g_is_whole : Got g 1 "is_whole" 1 f_is_whole) : Got g 2 "is_integer" 1 f_is_integer := got_of (k := 1) h sc_is_integer b_is_integer (tab_ok B (by decide) (.cons (g_is_whole.mono (by decide)) .nil)) q_is_integer
theorem b_common_of : Bnd s_common_of "common_of" "common_of" p_common_of := fun kV doc pm an cdv ct us h => match us, h with | [_, _], _ => rfl
theorem got_common_of {g : G} (B : Base g) (h : ∃ f fd, Has g "common_of" s_common_of f fd) : Got g 1 "common_of" 2 f_common_of := got_of (k := 0) h sc_common_of b_common_of (tab_ok B (by decide) .nil) q_common_of
theorem b_joined_in : Bnd s_joined_in "joined_in" "joined_in" p_joined_in := fun kV doc pm an cdv ct us h => match us, h with | [_, _], _ => rfl
theorem got_joined_in {g : G} (B : Base g) (h : ∃ f fd, Has g "joined_in" s_joined_in f fd) : Got g 1 "joined_in" 2 f_joined_in := got_of (k := 0) h sc_joined_in b_joined_in (tab_ok B (by decide) .nil) q_joined_in
theorem zot_joined_in {g : G} (B : Base g) (h : ∃ f fd, Has g "joined_in" s_joined_in f fd) : Got g 1 "joined_in" 2 z_joined_in := (got_joined_in B h).imp k_joined_in
theorem b_are_integers : Bnd s_are_integers "are_integers" "are_integers" p_are_integers := fun kV doc pm an cdv ct us h => match us, h with | [_, _], _ => rfl
theorem got_are_integers {g : G} (B : Base g) (h : ∃ f fd, Has g "are_integers" s_are_integers f fd) (g_is_integer : Got g 2 "is_integer" 1 f_is_integer) : Got g 3 "are_integers" 2 f_are_integers := got_of (k := 2) h sc_are_integers b_are_integers (tab_ok B (by decide) (.cons (g_is_integer.mono (by decide)) .nil)) q_are_integers
theorem b_content_of : Bnd s_content_of "content_of" "content_of" p_content_of := fun kV doc pm an cdv ct us h => match us, h with | [_], _ => rfl
theorem got_content_of {g : G} (B : Base g) (h : ∃ f fd, Has g "content_of" s_content_of f fd) (g_common_of : Got g 1 "common_of" 2 f_common_of) : Got g 2 "content_of" 1 f_content_of := got_of (k := 1) h sc_content_of b_content_of (tab_ok B (by decide) (.cons (g_common_of.mono (by decide)) .nil)) q_content_of
theorem b_lowest_place : Bnd s_lowest_place "lowest_place" "lowest_place" p_lowest_place := fun kV doc pm an cdv ct us h => match us, h with | [_, _], _ => rfl
theorem got_lowest_place {g : G} (B : Base g) (h : ∃ f fd, Has g "lowest_place" s_lowest_place f fd) (g_common_of : Got g 1 "common_of" 2 f_common_of) : Got g 2 "lowest_place" 2 f_lowest_place := got_of (k := 1) h sc_lowest_place b_lowest_place (tab_ok B (by decide) (.cons (g_common_of.mono (by decide)) .nil)) q_lowest_place
theorem b_places_of_double : Bnd s_places_of_double "places_of_double" "places_of_double" p_places_of_double := fun kV doc pm an cdv ct us h => match us, h with | [_], _ => rfl
theorem got_places_of_double {g : G} (B : Base g) (h : ∃ f fd, Has g "places_of_double" s_places_of_double f fd) (g_lowest_place : Got g 2 "lowest_place" 2 f_lowest_place) : Got g 3 "places_of_double" 1 f_places_of_double := got_of (k := 2) h sc_places_of_double b_places_of_double (tab_ok B (by decide) (.cons (g_lowest_place.mono (by decide)) .nil)) q_places_of_double
theorem b_monic_at : Bnd s_monic_at "monic_at" "monic_at" p_monic_at := fun kV doc pm an cdv ct us h => match us, h with | [_, _], _ => rfl
theorem got_monic_at {g : G} (B : Base g) (h : ∃ f fd, Has g "monic_at" s_monic_at f fd) : Got g 1 "monic_at" 2 f_monic_at := got_of (k := 0) h sc_monic_at b_monic_at (tab_ok B (by decide) .nil) q_monic_at
theorem zot_monic_at {g : G} (B : Base g) (h : ∃ f fd, Has g "monic_at" s_monic_at f fd) : Got g 1 "monic_at" 2 z_monic_at := (got_monic_at B h).imp k_monic_at
theorem b_bisected : Bnd s_bisected "bisected" "bisected" p_bisected := fun kV doc pm an cdv ct us h => match us, h with | [_, _, _, _], _ => rfl
theorem got_bisected {g : G} (B : Base g) (h : ∃ f fd, Has g "bisected" s_bisected f fd) (g_monic_at : Got g 1 "monic_at" 2 z_monic_at) : Got g 2 "bisected" 4 f_bisected := got_of (k := 1) h sc_bisected b_bisected (tab_ok B (by decide) (.cons (g_monic_at.mono (by decide)) .nil)) q_bisected
theorem b_form_at : Bnd s_form_at "form_at" "form_at" p_form_at := fun kV doc pm an cdv ct us h => match us, h with | [_, _, _], _ => rfl
theorem got_form_at {g : G} (B : Base g) (h : ∃ f fd, Has g "form_at" s_form_at f fd) : Got g 1 "form_at" 3 f_form_at := got_of (k := 0) h sc_form_at b_form_at (tab_ok B (by decide) .nil) q_form_at
theorem zot_form_at {g : G} (B : Base g) (h : ∃ f fd, Has g "form_at" s_form_at f fd) : Got g 1 "form_at" 3 z_form_at := (got_form_at B h).imp k_form_at
theorem b_form_led : Bnd s_form_led "form_led" "form_led" p_form_led := fun kV doc pm an cdv ct us h => match us, h with | [_, _], _ => rfl
theorem got_form_led {g : G} (B : Base g) (h : ∃ f fd, Has g "form_led" s_form_led f fd) (g_form_at : Got g 1 "form_at" 3 z_form_at) : Got g 2 "form_led" 2 f_form_led := got_of (k := 1) h sc_form_led b_form_led (tab_ok B (by decide) (.cons (g_form_at.mono (by decide)) .nil)) q_form_led
theorem zot_form_led {g : G} (B : Base g) (h : ∃ f fd, Has g "form_led" s_form_led f fd) (g_form_at : Got g 1 "form_at" 3 z_form_at) : Got g 2 "form_led" 2 z_form_led := (got_form_led B h g_form_at).imp k_form_led
theorem b_discriminant_of : Bnd s_discriminant_of "discriminant_of" "discriminant_of" p_discriminant_of := fun kV doc pm an cdv ct us h => match us, h with | [_], _ => rfl
theorem got_discriminant_of {g : G} (B : Base g) (h : ∃ f fd, Has g "discriminant_of" s_discriminant_of f fd) : Got g 1 "discriminant_of" 1 f_discriminant_of := got_of (k := 0) h sc_discriminant_of b_discriminant_of (tab_ok B (by decide) .nil) q_discriminant_of
theorem zot_discriminant_of {g : G} (B : Base g) (h : ∃ f fd, Has g "discriminant_of" s_discriminant_of f fd) : Got g 1 "discriminant_of" 1 z_discriminant_of := (got_discriminant_of B h).imp k_discriminant_of
theorem b_hessian_of : Bnd s_hessian_of "hessian_of" "hessian_of" p_hessian_of := fun kV doc pm an cdv ct us h => match us, h with | [_], _ => rfl
theorem got_hessian_of {g : G} (B : Base g) (h : ∃ f fd, Has g "hessian_of" s_hessian_of f fd) : Got g 1 "hessian_of" 1 f_hessian_of := got_of (k := 0) h sc_hessian_of b_hessian_of (tab_ok B (by decide) .nil) q_hessian_of
theorem zot_hessian_of {g : G} (B : Base g) (h : ∃ f fd, Has g "hessian_of" s_hessian_of f fd) : Got g 1 "hessian_of" 1 z_hessian_of := (got_hessian_of B h).imp k_hessian_of
theorem b_small_changes : Bnd s_small_changes "small_changes" "small_changes" p_small_changes := fun kV doc pm an cdv ct us h => match us, h with | [], _ => rfl
theorem got_small_changes {g : G} (B : Base g) (h : ∃ f fd, Has g "small_changes" s_small_changes f fd) : Got g 1 "small_changes" 0 f_small_changes := got_of (k := 0) h sc_small_changes b_small_changes (tab_ok B (by decide) .nil) q_small_changes
theorem b_way_to_small : Bnd s_way_to_small "way_to_small" "way_to_small" p_way_to_small := fun kV doc pm an cdv ct us h => match us, h with | [_], _ => rfl
theorem got_way_to_small {g : G} (B : Base g) (h : ∃ f fd, Has g "way_to_small" s_way_to_small f fd) (g_joined_in : Got g 1 "joined_in" 2 z_joined_in) (g_hessian_of : Got g 1 "hessian_of" 1 z_hessian_of) : Got g 2 "way_to_small" 1 f_way_to_small := got_of (k := 1) h sc_way_to_small b_way_to_small (tab_ok B (by decide) (.cons (g_joined_in.mono (by decide)) (.cons (g_hessian_of.mono (by decide)) .nil))) q_way_to_small
theorem b_led_above : Bnd s_led_above "led_above" "led_above" p_led_above := fun kV doc pm an cdv ct us h => match us, h with | [_], _ => rfl
theorem got_led_above {g : G} (B : Base g) (h : ∃ f fd, Has g "led_above" s_led_above f fd) (g_joined_in : Got g 1 "joined_in" 2 z_joined_in) (g_small_changes : Got g 1 "small_changes" 0 f_small_changes) (g_hessian_of : Got g 1 "hessian_of" 1 z_hessian_of) (g_form_led : Got g 2 "form_led" 2 z_form_led) (g_way_to_small : Got g 2 "way_to_small" 1 f_way_to_small) : Got g 3 "led_above" 1 f_led_above := got_of (k := 2) h sc_led_above b_led_above (tab_ok B (by decide) (.cons (g_joined_in.mono (by decide)) (.cons (g_small_changes.mono (by decide)) (.cons (g_hessian_of.mono (by decide)) (.cons (g_form_led.mono (by decide)) (.cons (g_way_to_small.mono (by decide)) .nil)))))) q_led_above
theorem b_bezout : Bnd s_bezout "bezout" "bezout" p_bezout := fun kV doc pm an cdv ct us h => match us, h with | [_, _], _ => rfl
theorem got_bezout {g : G} (B : Base g) (h : ∃ f fd, Has g "bezout" s_bezout f fd) : Got g 1 "bezout" 2 f_bezout := got_of (k := 0) h sc_bezout b_bezout (tab_ok B (by decide) .nil) q_bezout
theorem b_end_change : Bnd s_end_change "end_change" "end_change" p_end_change := fun kV doc pm an cdv ct us h => match us, h with | [_], _ => rfl
theorem got_end_change {g : G} (B : Base g) (h : ∃ f fd, Has g "end_change" s_end_change f fd) (g_bezout : Got g 1 "bezout" 2 f_bezout) : Got g 2 "end_change" 1 f_end_change := got_of (k := 1) h sc_end_change b_end_change (tab_ok B (by decide) (.cons (g_bezout.mono (by decide)) .nil)) q_end_change
theorem b_is_small : Bnd s_is_small "is_small" "is_small" p_is_small := fun kV doc pm an cdv ct us h => match us, h with | [_], _ => rfl
theorem got_is_small {g : G} (B : Base g) (h : ∃ f fd, Has g "is_small" s_is_small f fd) : Got g 1 "is_small" 1 f_is_small := got_of (k := 0) h sc_is_small b_is_small (tab_ok B (by decide) .nil) q_is_small
theorem zot_is_small {g : G} (B : Base g) (h : ∃ f fd, Has g "is_small" s_is_small f fd) : Got g 1 "is_small" 1 z_is_small := (got_is_small B h).imp k_is_small
theorem b_is_between : Bnd s_is_between "is_between" "is_between" p_is_between := fun kV doc pm an cdv ct us h => match us, h with | [_], _ => rfl
theorem got_is_between {g : G} (B : Base g) (h : ∃ f fd, Has g "is_between" s_is_between f fd) : Got g 1 "is_between" 1 f_is_between := got_of (k := 0) h sc_is_between b_is_between (tab_ok B (by decide) .nil) q_is_between
theorem zot_is_between {g : G} (B : Base g) (h : ∃ f fd, Has g "is_between" s_is_between f fd) : Got g 1 "is_between" 1 z_is_between := (got_is_between B h).imp k_is_between
theorem b_is_not_past : Bnd s_is_not_past "is_not_past" "is_not_past" p_is_not_past := fun kV doc pm an cdv ct us h => match us, h with | [_, _], _ => rfl
theorem got_is_not_past {g : G} (B : Base g) (h : ∃ f fd, Has g "is_not_past" s_is_not_past f fd) (g_form_at : Got g 1 "form_at" 3 z_form_at) : Got g 2 "is_not_past" 2 f_is_not_past := got_of (k := 1) h sc_is_not_past b_is_not_past (tab_ok B (by decide) (.cons (g_form_at.mono (by decide)) .nil)) q_is_not_past
theorem zot_is_not_past {g : G} (B : Base g) (h : ∃ f fd, Has g "is_not_past" s_is_not_past f fd) (g_form_at : Got g 1 "form_at" 3 z_form_at) : Got g 2 "is_not_past" 2 z_is_not_past := (got_is_not_past B h g_form_at).imp k_is_not_past
theorem b_best_shift : Bnd s_best_shift "best_shift" "best_shift" p_best_shift := fun kV doc pm an cdv ct us h => match us, h with | [_], _ => rfl
theorem got_best_shift {g : G} (B : Base g) (h : ∃ f fd, Has g "best_shift" s_best_shift f fd) (g_is_not_past : Got g 2 "is_not_past" 2 z_is_not_past) : Got g 3 "best_shift" 1 f_best_shift := got_of (k := 2) h sc_best_shift b_best_shift (tab_ok B (by decide) (.cons (g_is_not_past.mono (by decide)) .nil)) q_best_shift
theorem b_double_place : Bnd s_double_place "double_place" "double_place" p_double_place := fun kV doc pm an cdv ct us h => match us, h with | [_], _ => rfl
theorem got_double_place {g : G} (B : Base g) (h : ∃ f fd, Has g "double_place" s_double_place f fd) (g_content_of : Got g 2 "content_of" 1 f_content_of) (g_hessian_of : Got g 1 "hessian_of" 1 z_hessian_of) : Got g 3 "double_place" 1 f_double_place := got_of (k := 2) h sc_double_place b_double_place (tab_ok B (by decide) (.cons (g_content_of.mono (by decide)) (.cons (g_hessian_of.mono (by decide)) .nil))) q_double_place
theorem b_with_first : Bnd s_with_first "with_first" "with_first" p_with_first := fun kV doc pm an cdv ct us h => match us, h with | [_], _ => rfl
theorem got_with_first {g : G} (B : Base g) (h : ∃ f fd, Has g "with_first" s_with_first f fd) : Got g 1 "with_first" 1 f_with_first := got_of (k := 0) h sc_with_first b_with_first (tab_ok B (by decide) .nil) q_with_first
theorem b_last_way : Bnd s_last_way "last_way" "last_way" p_last_way := fun kV doc pm an cdv ct us h => match us, h with | [_], _ => rfl
theorem got_last_way {g : G} (B : Base g) (h : ∃ f fd, Has g "last_way" s_last_way f fd) (g_joined_in : Got g 1 "joined_in" 2 z_joined_in) : Got g 2 "last_way" 1 f_last_way := got_of (k := 1) h sc_last_way b_last_way (tab_ok B (by decide) (.cons (g_joined_in.mono (by decide)) .nil)) q_last_way
theorem b_led_zero : Bnd s_led_zero "led_zero" "led_zero" p_led_zero := fun kV doc pm an cdv ct us h => match us, h with | [_], _ => rfl
theorem got_led_zero {g : G} (B : Base g) (h : ∃ f fd, Has g "led_zero" s_led_zero f fd) (g_form_led : Got g 2 "form_led" 2 z_form_led) (g_joined_in : Got g 1 "joined_in" 2 z_joined_in) (g_last_way : Got g 2 "last_way" 1 f_last_way) (g_with_first : Got g 1 "with_first" 1 f_with_first) (g_double_place : Got g 3 "double_place" 1 f_double_place) : Got g 4 "led_zero" 1 f_led_zero := got_of (k := 3) h sc_led_zero b_led_zero (tab_ok B (by decide) (.cons (g_form_led.mono (by decide)) (.cons (g_joined_in.mono (by decide)) (.cons (g_last_way.mono (by decide)) (.cons (g_with_first.mono (by decide)) (.cons (g_double_place.mono (by decide)) .nil)))))) q_led_zero
theorem b_require_short : Bnd s_require_short "require_short" "require_short" p_require_short := fun kV doc pm an cdv ct us h => match us, h with | [_], _ => rfl
theorem got_require_short {g : G} (B : Base g) (h : ∃ f fd, Has g "require_short" s_require_short f fd) : Got g 1 "require_short" 1 f_require_short := got_of (k := 0) h sc_require_short b_require_short (tab_ok B (by decide) .nil) q_require_short
theorem b__law_lines : Bnd s__law_lines "_law_lines" "_law_lines" p__law_lines := fun kV doc pm an cdv ct us h => match us, h with | [_], _ => rfl
theorem got__law_lines {g : G} (B : Base g) (h : ∃ f fd, Has g "_law_lines" s__law_lines f fd) : Got g 1 "_law_lines" 1 f__law_lines := got_of (k := 0) h sc__law_lines b__law_lines (tab_ok B (by decide) .nil) q__law_lines
theorem b__law_led : Bnd s__law_led "_law_led" "_law_led" p__law_led := fun kV doc pm an cdv ct us h => match us, h with | [_, _], _ => rfl
theorem got__law_led {g : G} (B : Base g) (h : ∃ f fd, Has g "_law_led" s__law_led f fd) (g__law_lines : Got g 1 "_law_lines" 1 f__law_lines) : Got g 2 "_law_led" 2 f__law_led := got_of (k := 1) h sc__law_led b__law_led (tab_ok B (by decide) (.cons (g__law_lines.mono (by decide)) .nil)) q__law_led
theorem zot__law_led {g : G} (B : Base g) (h : ∃ f fd, Has g "_law_led" s__law_led f fd) (g__law_lines : Got g 1 "_law_lines" 1 f__law_lines) : Got g 2 "_law_led" 2 z_form_led := (got__law_led B h g__law_lines).imp k__law_led
theorem b__law_discriminant : Bnd s__law_discriminant "_law_discriminant" "_law_discriminant" p__law_discriminant := fun kV doc pm an cdv ct us h => match us, h with | [_], _ => rfl
theorem got__law_discriminant {g : G} (B : Base g) (h : ∃ f fd, Has g "_law_discriminant" s__law_discriminant f fd) : Got g 1 "_law_discriminant" 1 f__law_discriminant := got_of (k := 0) h sc__law_discriminant b__law_discriminant (tab_ok B (by decide) .nil) q__law_discriminant
theorem zot__law_discriminant {g : G} (B : Base g) (h : ∃ f fd, Has g "_law_discriminant" s__law_discriminant f fd) : Got g 1 "_law_discriminant" 1 z_discriminant_of := (got__law_discriminant B h).imp k__law_discriminant
theorem b__law_at : Bnd s__law_at "_law_at" "_law_at" p__law_at := fun kV doc pm an cdv ct us h => match us, h with | [_, _, _], _ => rfl
theorem got__law_at {g : G} (B : Base g) (h : ∃ f fd, Has g "_law_at" s__law_at f fd) : Got g 1 "_law_at" 3 f__law_at := got_of (k := 0) h sc__law_at b__law_at (tab_ok B (by decide) .nil) q__law_at
theorem zot__law_at {g : G} (B : Base g) (h : ∃ f fd, Has g "_law_at" s__law_at f fd) : Got g 1 "_law_at" 3 z__law_at := (got__law_at B h).imp k__law_at
theorem b__law_has_root : Bnd s__law_has_root "_law_has_root" "_law_has_root" p__law_has_root := fun kV doc pm an cdv ct us h => match us, h with | [_], _ => rfl
theorem got__law_has_root {g : G} (B : Base g) (h : ∃ f fd, Has g "_law_has_root" s__law_has_root f fd) (g__law_at : Got g 1 "_law_at" 3 z__law_at) : Got g 2 "_law_has_root" 1 f__law_has_root := got_of (k := 1) h sc__law_has_root b__law_has_root (tab_ok B (by decide) (.cons (g__law_at.mono (by decide)) .nil)) q__law_has_root
theorem b__law_is_mathews : Bnd s__law_is_mathews "_law_is_mathews" "_law_is_mathews" p__law_is_mathews := fun kV doc pm an cdv ct us h => match us, h with | [_], _ => rfl
theorem got__law_is_mathews {g : G} (B : Base g) (h : ∃ f fd, Has g "_law_is_mathews" s__law_is_mathews f fd) : Got g 1 "_law_is_mathews" 1 f__law_is_mathews := got_of (k := 0) h sc__law_is_mathews b__law_is_mathews (tab_ok B (by decide) .nil) q__law_is_mathews
theorem zot__law_is_mathews {g : G} (B : Base g) (h : ∃ f fd, Has g "_law_is_mathews" s__law_is_mathews f fd) : Got g 1 "_law_is_mathews" 1 z__law_is_mathews := (got__law_is_mathews B h).imp k__law_is_mathews
theorem b__law_hessian : Bnd s__law_hessian "_law_hessian" "_law_hessian" p__law_hessian := fun kV doc pm an cdv ct us h => match us, h with | [_], _ => rfl
theorem got__law_hessian {g : G} (B : Base g) (h : ∃ f fd, Has g "_law_hessian" s__law_hessian f fd) : Got g 1 "_law_hessian" 1 f__law_hessian := got_of (k := 0) h sc__law_hessian b__law_hessian (tab_ok B (by decide) .nil) q__law_hessian
theorem zot__law_hessian {g : G} (B : Base g) (h : ∃ f fd, Has g "_law_hessian" s__law_hessian f fd) : Got g 1 "_law_hessian" 1 z_hessian_of := (got__law_hessian B h).imp k__law_hessian
end FR
end
section
set_option Elab.async false
set_option linter.all false
set_option maxRecDepth 100000
set_option maxHeartbeats 4000000
/-! A def whose answer is a new list; monic_roots, which extends it. -/
namespace FR
open PySem PySem.Spec PyProof.Rows L2 DV
/-- the answer is a list that did not stand before -/
def spF (K : PySem.W.Frag) (n : Nat) (m : List D → Option D) : Sp := fun vs H Q _ => ∃ ds d, vs.length = n ∧ DenL K H ds vs ∧ m ds = some d ∧ ∀ a H', Same H H' → H a = none → Den K H' d (.ref a) → Q (.ref a) H'
/-- a def by any promise -/
theorem def_sp {g : G} {k : Nat} {x qual : Str} {st : Stmt} {f : Addr} {fd : FuncData} {N ps : List Str} {sp : Sp} (F : FnP g.K x qual st f fd) (S : FnScope N ps (defScope st)) (hl : ∀ vs H Q E, sp vs H Q E → vs.length = ps.length)
    (hb : ∀ X : Cx, Fam (g.ctx k N) (defScope st) true X → ∃ t, PSs X (defBody st) t ∧ ∀ vs H Q E, sp vs H Q E → t { nx := fun _ H' => Q .non H', rt := Q } (L2.start N vs) H) :
    FnOk g.P g.w g.K g.mg g.base CX0 (k + 1) f fd ps sp := by
  refine F.ok S hl (fun cdv A outer s H vs Q E hr h => ?_)
  obtain ⟨t, pt, qt⟩ := hb (cxOf CX0 g.P g.w g.K g.mg g.base N qual (defScope st) f cdv A outer s H E).nox (fam_def hr)
  exact ⟨t, PSs.nox pt, qt vs H Q E h⟩
abbrev bT : Tab := t_bisected
abbrev bN : List Str := n_bisected
def bSc : Scope := defScope s_bisected
abbrev bS1 : Stmt := stA s_bisected 0
abbrev bR : Expr := retV (stA s_bisected 1)
def w_bis : FS := whileD (fT (f2 (cmpD .Lt) (fVar 1) (fVar 2))) (sSeq (sSet 4 (f2 (binD .FloorDiv) (f2 (binD .Add) (fVar 1) (fVar 2)) (fConst (.int 2)))) (sSeq (sIf (fT (f2 (cmpD .GtE) (f2 (binD .Mult) (fVar 3) (fCall (aCons (fVar 0) (aCons (fVar 4) aNil)) z_monic_at)) (fConst (.int 0)))) (sSeq (sSet 2 (fVar 4)) sNil) (sSeq (sSet 1 (f2 (binD .Add) (fVar 4) (fConst (.int 1)))) sNil)) sNil)) fuelW
def c_bis : DEnv → Option Bool := tAnd2 (fT (f2 (cmpD .Eq) (fVar 1) (fVar 2))) (fT (f2 (cmpD .Eq) (fCall (aCons (fVar 0) (aCons (fVar 1) aNil)) z_monic_at) (fConst (.int 0))))
def f_bisF : List D → Option D := runB bN 4 fun δ => (w_bis δ).bind fun o => match o with
  | .nx δ1 => (fIf c_bis (fLst (aCons (fVar 1) aNil)) (fLst aNil) δ1).bind fun d => some (.rt d)
  | .rt _ => none
theorem q_bis1 : cS bT bN bSc 59 bS1 = w_bis := by kernel_rfl
theorem q_bis2 : cT bT bN bSc 40 (argA bR 0) = c_bis := by kernel_rfl
theorem q_bis3 : cE bT bN bSc 40 (tupA (argA bR 1) 0) = fVar 1 := by kernel_rfl
theorem fresh_lst {K : PySem.W.Frag} {H H1 : Hp} {ds : List D} {xs : List V} {Q : VK} (s1 : Same H H1) (hd : DenL K H1 ds xs) (hQ : ∀ a H', Same H H' → H a = none → Den K H' (.lst ds) (.ref a) → Q (.ref a) H') {p : Addr} (hp : H1 p = none) : Q (.ref p) (upd H1 p (.lst xs)) := by
  refine hQ p _ (s1.trans (same_new hp)) ?_ (den_lst hp hd)
  cases e : H p with
  | none => rfl
  | some o => rw [s1 _ _ e] at hp; cases hp
theorem fresh_bisected {g : G} (B : Base g) (h : ∃ f fd, Has g "bisected" s_bisected f fd) (g1 : Got g 1 "monic_at" 2 z_monic_at) : SpO g 2 "bisected" 4 (spF g.K 4 f_bisF) := by
  obtain ⟨f, fd, h⟩ := h
  refine ⟨f, fd, p_bisected, rfl, h.mg, h.kp, h.fn.binds1 b_bisected, ?_⟩
  refine def_sp (k := 1) h.fn sc_bisected (fun vs H Q E q => by obtain ⟨ds, d, e, _⟩ := q; exact e) fun X hX => ?_
  have ok : TabOk (g.ctx 1 bN) bT := tab_ok B (by decide) (.cons g1 .nil)
  obtain ⟨t1, p1, q1⟩ := (soundS ok bSc 59).s bS1
  obtain ⟨t2, p2, q2⟩ := (sound ok 40).t bSc true (argA bR 0)
  obtain ⟨t3, p3, q3⟩ := (sound ok 40).e bSc true (tupA (argA bR 1) 0)
  refine ⟨tSeq t1 (tSeq (tRet (tIf t2 (tLst (tCons t3 tNil)) (tLst tNil))) tNext), pss_cons (p1 X hX) (pss_cons (ps_ret (pe_ifExp (p2 X hX) (pe_lst (pa_cons (p3 X hX) pa_nil)) (pe_lst pa_nil))) pss_nil), ?_⟩
  rintro vs H Q E ⟨ds, d, hl, hd, hm, hQ⟩
  unfold f_bisF runB at hm
  have hl2 : ds.length = 4 := by rw [← hd.length]; exact hl
  rw [if_pos hl2, Option.bind_eq_some_iff] at hm
  obtain ⟨o, e1, e2⟩ := hm
  cases e2
  have he := env_start (N := bN) hd (by rw [hl2]; decide)
  rw [hl2] at he
  rw [Option.bind_eq_some_iff] at e1
  obtain ⟨o1, ea, eb⟩ := e1
  rw [show cS bT (g.ctx 1 bN).N bSc 59 bS1 = w_bis from q_bis1] at q1
  rw [show cT bT (g.ctx 1 bN).N bSc 40 (argA bR 0) = c_bis from q_bis2] at q2
  rw [show cE bT (g.ctx 1 bN).N bSc 40 (tupA (argA bR 1) 0) = fVar 1 from q_bis3] at q3
  refine q1 _ H _ o1 _ he ea ?_
  cases o1 with
  | rt z => cases eb
  | nx δ1 =>
    intro σ1 H1 s1 he1
    dsimp only at eb
    rw [Option.bind_eq_some_iff] at eb
    obtain ⟨d3, ec, ed⟩ := eb
    cases ed
    unfold fIf at ec
    rw [Option.bind_eq_some_iff] at ec
    obtain ⟨b, ee, ef⟩ := ec
    refine q2 σ1 H1 δ1 b _ he1 ee fun H2 s2 => ?_
    cases b with
    | true =>
      rw [if_pos rfl] at ef ⊢
      unfold fLst aCons at ef
      rw [Option.bind_eq_some_iff] at ef
      obtain ⟨xs, eg, eh⟩ := ef
      rw [Option.bind_eq_some_iff] at eg
      obtain ⟨z, ei, ej⟩ := eg
      cases ej
      cases eh
      exact q3 σ1 H2 δ1 z _ (he1.same s2) ei fun v H3 s3 d3 => ⟨le1000 (by simp), fun p hp => fresh_lst (s1.trans (s2.trans s3)) (DenL.cons d3 DenL.nil) hQ hp⟩
    | false =>
      rw [if_neg (by decide)] at ef ⊢
      cases ef
      exact ⟨by decide, fun p hp => fresh_lst (s1.trans s2) DenL.nil hQ hp⟩
theorem SpO.imp {g : G} {k n : Nat} {x : Str} {sp sp' : Sp} (h : SpO g k x n sp) (hi : ∀ vs H Q E, sp' vs H Q E → sp vs H Q E) : SpO g k x n sp' := by
  obtain ⟨f, fd, ps, h1, h2, h3, h4, h5⟩ := h
  exact ⟨f, fd, ps, h1, h2, h3, h4, h5.imp hi⟩
theorem got_bisF {g : G} (h : SpO g 2 "bisected" 4 (spF g.K 4 f_bisF)) : Got g 2 "bisected" 4 f_bisF :=
  ⟨fun ds d q => runB_len ds d q, h.imp fun vs H Q E q => by
    obtain ⟨ds, d, h1, h2, h3, h4⟩ := q
    exact ⟨ds, d, h1, h2, h3, fun a H' s _ dd => h4 _ _ s dd⟩⟩
/-! ### monic_roots -/
abbrev mN : List Str := n_monic_roots
def mSc : Scope := defScope s_monic_roots
def t_monic_roots : Tab := { consts := consts0, fns := [("bisected", 4, f_bisF)] }
def callAs : Expr → List Expr
  | .Call _ es _ _ => es
  | _ => []
abbrev mPre : List Stmt := (defBody s_monic_roots).take 5
abbrev mS5 : Stmt := stA s_monic_roots 5
abbrev mS6 : Stmt := stA s_monic_roots 6
abbrev mS7 : List Stmt := (defBody s_monic_roots).drop 7
def lstOf : Option D → Option (List D)
  | some (.lst ds) => if flatL ds = true then some ds else none
  | _ => none
def mK (T : Tab) (δ : DEnv) : Option D := if (flatE δ && (δ[9]?).join.isNone && δ.length == 10) = true then
    (cA T mN mSc 40 (callAs (asgV mS5)) δ).bind fun as => (lstOf (f_bisF as)).bind fun xs =>
      (cE T mN mSc 40 (argA (exprV mS6) 0) δ).bind fun l2 => (lstOf (some l2)).bind fun ys => if xs.length + ys.length ≤ 1000 then
        (cSs T mN mSc 40 mS7 (δ.set 9 (some (.lst (xs ++ ys))))).bind fun o => match o with
          | .rt d => some d
          | .nx _ => none
      else none
  else none
def m_monic : List D → Option D := fun ds => if ds.length = 1 then
    (cSs t_monic_roots mN mSc 60 mPre (ds.map some ++ List.replicate 9 none)).bind fun o => match o with
      | .rt d => some d
      | .nx δ => mK t_monic_roots δ
  else none
/-- statements of the evaluator ahead of others -/
def SPre (F : Cx → Prop) (K : PySem.W.Frag) (sts : List Stmt) (f : FS) : Prop := ∃ tf : TS → TS, (∀ X, F X → ∀ b u, PSs X b u → PSs X (sts ++ b) (tf u)) ∧
  ∀ u σ H δ o Dd, EnvD K H σ δ → f δ = some o → (∀ d, o = .rt d → DV.Reach K Dd H (.rt d)) → (∀ δ' σ' H', o = .nx δ' → Same H H' → EnvD K H' σ' δ' → u Dd σ' H') → tf u Dd σ H
theorem spre {c : DV.Ctx} {T : Tab} (ok : TabOk c T) (sc : Scope) : ∀ (n : Nat) (sts : List Stmt), SPre (Fam c sc true) c.K sts (cSs T c.N sc n sts)
  | 0, sts => ⟨fun _ _ _ _ => False, fun _ _ _ _ _ => ⟨fun _ _ _ _ _ _ h => h.elim⟩, fun _ _ _ _ _ _ _ h => by unfold cSs at h; cases h⟩
  | n + 1, [] => ⟨fun u => u, fun _ _ _ _ h => h, fun u σ H δ o Dd he h _ hn => by
      unfold cSs at h
      cases h
      exact hn δ σ H rfl (Same.refl H) he⟩
  | n + 1, st :: sts => by
    obtain ⟨tf, p1, q1⟩ := spre ok sc n sts
    obtain ⟨t, p2, q2⟩ := (soundS ok sc n).s st
    refine ⟨fun u => tSeq t (tf u), fun X hX b u h => pss_cons (p2 X hX) (p1 X hX b u h), fun u σ H δ o Dd he h hr hn => ?_⟩
    unfold cSs sSeq at h
    rw [Option.bind_eq_some_iff] at h
    obtain ⟨o1, e1, e2⟩ := h
    refine q2 σ H δ o1 _ he e1 ?_
    cases o1 with
    | rt d =>
      cases e2
      exact hr d rfl
    | nx δ1 =>
      intro σ1 H1 s1 he1
      exact q1 u σ1 H1 δ1 o Dd he1 e2 (fun d e => (hr d e).same s1) fun δ' σ' H' e s2 he2 => hn δ' σ' H' e (s1.trans s2) he2
theorem got_monic_roots {g : G} (B : Base g) (h : ∃ f fd, Has g "monic_roots" s_monic_roots f fd) (g1 : SpO g 2 "bisected" 4 (spF g.K 4 f_bisF)) : Got g 3 "monic_roots" 1 m_monic := by
  have b0 : Bnd s_monic_roots "monic_roots" "monic_roots" p_monic_roots := fun kV doc pm an cdv ct us h => match us, h with | [_], _ => rfl
  have hlen : ∀ ds d, m_monic ds = some d → ds.length = 1 := fun ds d q => by
    unfold m_monic at q
    split at q
    · assumption
    · cases q
  obtain ⟨f, fd, h⟩ := h
  refine ⟨hlen, f, fd, p_monic_roots, rfl, h.mg, h.kp, h.fn.binds1 b0, ?_⟩
  refine def_sp (k := 2) h.fn sc_monic_roots (fun vs H Q E q => by obtain ⟨ds, d, e, _⟩ := q; exact e) fun X hX => ?_
  have hXg : Fam (g.ctx 2 mN) mSc true X := hX
  have ok : TabOk (g.ctx 2 mN) t_monic_roots := tab_ok B (by decide) (.cons (got_bisF g1) .nil)
  obtain ⟨tf, p1, q1⟩ := spre ok mSc 60 mPre
  obtain ⟨t5, p5, q5⟩ := (sound ok 40).a mSc true (callAs (asgV mS5))
  obtain ⟨t6, p6, q6⟩ := (sound ok 40).e mSc true (argA (exprV mS6) 0)
  obtain ⟨t7, p7, q7⟩ := (soundS ok mSc 40).ss mS7
  have pl : Place X 9 "found" := place_of hXg ok.nd rfl (by decide +kernel)
  obtain ⟨fb, fdb, psb, hb1, hb2, hb3, hb4, hb5⟩ := g1
  have s5 : PS X mS5 (tAsg (tCall (spF g.K 4 f_bisF) [] E0 t5) (gName 9)) :=
    ps_set pl.nd pl.at_ pl.loc (pe_call (by rw [hX.P, hX.w, hX.K, hX.mg, hX.base]; exact hb5) hX.room (fam_gl hXg (by decide +kernel)) (by rw [hX.mg]; exact hb2) (by rw [hX.K]; exact hb3) (by rw [hX.K]; exact hb4) .nil pass0 (p5 X hXg)) (by rfl) pl.ok
  have s6 : PS X mS6 (tDrop (tBM X.K "list" rExtend (tVar 9) (tCons t6 tNil))) :=
    ps_expr (pe_bm PySem.F.plainAttrs_list PySem.F.slot_list_extend PySem.F.type_list_extend mt_extend (pe_var pl.at_ (fam_vis hXg (by decide +kernel))) (pa_cons (p6 X hXg) pa_nil))
  refine ⟨_, p1 X hXg _ _ (pss_cons s5 (pss_cons s6 (p7 X hXg))), ?_⟩
  rintro vs H Q E ⟨ds, d, hl, hd, hm, hQ⟩
  have hl1 : ds.length = 1 := hlen ds d hm
  have he := env_start (N := mN) hd (by rw [hl1]; decide)
  rw [hl1] at he
  unfold m_monic at hm
  rw [if_pos hl1, Option.bind_eq_some_iff] at hm
  obtain ⟨o, e1, hm⟩ := hm
  refine q1 _ _ H _ o _ he e1 (fun d' e => ?_) fun δ' σ' H' e s1 he1 => ?_
  · subst e
    cases hm
    exact fun v H' s1 dd => hQ v H' s1 dd
  · subst e
    have hm : mK t_monic_roots δ' = some d := hm
    unfold mK at hm
    split at hm
    · rename_i hc
      simp only [Bool.and_eq_true, beq_iff_eq] at hc
      obtain ⟨⟨c1, c2⟩, c3⟩ := hc
      rw [Option.bind_eq_some_iff] at hm
      obtain ⟨as, e2, hm⟩ := hm
      rw [Option.bind_eq_some_iff] at hm
      obtain ⟨xs, e3, hm⟩ := hm
      rw [Option.bind_eq_some_iff] at hm
      obtain ⟨l2, e4, hm⟩ := hm
      rw [Option.bind_eq_some_iff] at hm
      obtain ⟨ys, e5, hm⟩ := hm
      split at hm
      · rename_i hlen2
        rw [Option.bind_eq_some_iff] at hm
        obtain ⟨o2, e6, hm⟩ := hm
        cases o2 with
        | nx _ => cases hm
        | rt z =>
          cases hm
          refine q5 σ' H' δ' as _ he1 e2 fun ws H2 s2 d2 => ?_
          have hfb : ∃ dd, f_bisF as = some dd ∧ dd = .lst xs ∧ flatL xs = true := by
            cases q : f_bisF as with
            | none => rw [q] at e3; cases e3
            | some dd =>
              rw [q] at e3
              unfold lstOf at e3
              split at e3
              · rename_i ds2 hq
                cases hq
                split at e3
                · cases e3
                  exact ⟨_, rfl, rfl, by assumption⟩
                · cases e3
              · cases e3
          obtain ⟨dd, hfb, rfl, hfx⟩ := hfb
          have hfy : l2 = .lst ys ∧ flatL ys = true := by
            unfold lstOf at e5
            split at e5
            · rename_i ds2 hq
              cases hq
              split at e5
              · cases e5
                exact ⟨rfl, by assumption⟩
              · cases e5
            · cases e5
          obtain ⟨rfl, hfy⟩ := hfy
          refine ⟨as, _, by rw [List.append_nil, d2.length, runB_len as _ hfb], by rw [List.append_nil]; exact d2, hfb, fun a H3 s3 hn d3 => ?_⟩
          obtain ⟨a', us, ea, hla, hda⟩ := d3
          cases ea
          have hs9 : δ'.set 9 none = δ' := by
            apply set_own
            cases q : δ'[9]? with
            | none =>
              rw [List.getElem?_eq_none_iff] at q
              omega
            | some o =>
              rw [q] at c2
              cases o with
              | none => rfl
              | some _ => cases c2
          have he3 := ((he1.same (s2.trans s3)).unset 9 (some (.ref a)))
          rw [hs9] at he3
          have hlen9 : 9 < σ'.length := by rw [he1.1]; omega
          unfold gName tSeq tDrop tBM
          have h9 : (σ'.set 9 (some (.ref a)))[9]? = some (some (.ref a)) := List.getElem?_set_self hlen9
          refine ⟨.ref a, h9, .inl ⟨rfl, us, .inl (.inl hla)⟩, ?_⟩
          refine q6 _ H3 δ' _ _ he3 e4 fun w H4 s4 d4 => ?_
          obtain ⟨b, zs, rfl, hb, dz⟩ := d4
          have hla4 := s4 _ _ hla
          refine ⟨a, b, us, zs, rfl, rfl, hla4, hb, le1000 (by rw [hda.length, dz.length]; exact hlen2), ?_⟩
          have he5 := env_upd (o' := .lst (us ++ zs)) (he3.same s4) c1 hla4
          have he6 := he5.set 9 (d := .lst (xs ++ ys)) (v := .ref a) ⟨a, us ++ zs, rfl, upd_same, (DenL.upd hla4 _ _ hfx (DenL.same s4 _ _ hda)).append (DenL.upd hla4 _ _ hfy dz)⟩
          rw [set_own h9] at he6
          have s04 : Same H (upd H4 a (.lst (us ++ zs))) := by
            have h2n : H a = none := by
              cases q : H a with
              | none => rfl
              | some u =>
                have := (s1.trans s2) _ _ q
                rw [hn] at this
                cases this
            exact same_upd (s1.trans (s2.trans (s3.trans s4))) h2n
          exact q7 _ _ _ (.rt d) _ he6 e6 fun v H6 s6 d6 => hQ v H6 (s04.trans s6) d6
      · cases hm
    · cases hm
end FR
end
section
set_option Elab.async false
set_option linter.all false
set_option maxRecDepth 100000
set_option maxHeartbeats 4000000
/-! A dict comprehension whose keys are tuples. -/
namespace DV
open PySem PySem.Spec PyProof.Rows L2 StX
section
variable {X : Cx}
/-- a dict of at most one key: the key object -/
def OneK (d b : Addr) : HO := .ext fun h => ∃ (o : Obj) (en : DictEntry) (ep : Nat), h.get? d = some o ∧ o.ExactDict ∧ o.data = .dict #[en] ep ∧ en.key = .ref b ∧ (d == sysModules) = false
theorem put_one {pins : List (Addr × Obj)} {σ : L2.St} {H : Hp} {s : Shared} {E : Value → Shared → Prop} {D b : Addr} {k : List L2.Key} {u r : Value} {Q : Unit → Shared → Prop} (hu : X.A.units < cLine) (I : Inv X pins σ H s) (hD : H D = some (.dT []))
    (hb : SqT X.K H b (k.map kV)) (ru : RelV (.ref b) u) (h : ∀ s', Inv X pins σ (upd H D (OneK D b)) s' → Q () s') : wpAny (model X.prog X.w) X.A (dictSet D u r) Q E s := by
  cases (show u = Value.ref b from ru)
  obtain ⟨n1, n2, xs, rel, dd⟩ := dt_of I.hok hD
  have e0 : xs = [] := by cases rel; rfl
  subst e0
  obtain ⟨its, rv, ⟨o, h1, h2, n, h3⟩, _⟩ := I.tuple hb
  have hk : (tupleKind (mixKind X.prog X.w)).is s.heap k b := ⟨o, its.toArray, n, h1, h2, h3, by simpa using items_are rv⟩
  refine wpAny_dictSet_heap (hsz := Nat.zero_le _) (knd := tupleKind (mixKind X.prog X.w)) hu hk dd fun h' dd' hs => h _ ?_
  obtain ⟨q, es, ep, hq, m2, m3, m4, _, _⟩ := dd'
  have es1 : es.toList = [entryOfKey (tupleKind (mixKind X.prog X.w)) (k, b, r)] := m4
  have es2 : es = #[entryOfKey (tupleKind (mixKind X.prog X.w)) (k, b, r)] := by rw [← Array.toArray_toList (xs := es), es1]
  rw [es2] at m3
  refine d_write I (by rw [hD]; exact True.intro) hs ⟨q, hq⟩ ⟨⟨q, _, ep, hq, m2, m3, rfl, n2⟩, ⟨q, hq⟩, fun g1 g2 hg kp => ?_⟩
  obtain ⟨o1, en, ep1, w1, w2⟩ := hg
  exact ⟨o1, en, ep1, kp _ w1, w2⟩
/-- {k: v for target in iter}, the keys tuples that stand: D the new dict -/
def tDcT (K : PySem.W.Frag) (wi : TI) (g : TG) (tk tv : TE) (vs : List Nat) : TE := fun σ H Q => wi σ H fun J H1 => ∀ D, H1 D = none → ∃ W : Nat → Nat → Hp → Prop, (∃ m, W 0 m (upd H1 D (.dT []))) ∧ ∀ i m H, W i m H →
  (J.stop i H ∧ Q (.ref D) H) ∨ (J.go i H ∧ ∃ N : Hp → Prop, (∀ H', N H' → ∃ m', m' < m ∧ W (i + 1) m' H') ∧ ∀ x H', J.yld i H x H' → g x (L2.wipe σ vs) H' fun σ2 H2 => L2.wipe σ2 vs = L2.wipe σ vs ∧ tk σ2 H2 fun y H4 => tv σ2 H4 fun z H5 =>
    ∃ (k : List L2.Key) (b : Addr), y = .ref b ∧ SqT K H5 b (k.map kV) ∧ H5 D = some (.dT []) ∧ N (upd H5 D (OneK D b)))
theorem pe_dcT {kx vx tg iter : Expr} {scope : Scope} {own : List (Str × Nat)} {pos : Pos} {wi : TI} {g : TG} {tk tv : TE} (hu : X.A.units < cLine) (hc : X.calm = true) (hN : X.N.Nodup) (hi : PI X tg iter wi) (bo : BlkOk X.N X.env.scope scope own)
    (hg : ∀ (s : Shared) (H : Hp) (C : Addr) (cl : List (Str × Addr)) (fp : List Addr), PG (X.blk s H scope (compEnvC scope cl C X.env) fp) tg g)
    (hk : ∀ (s : Shared) (H : Hp) (C : Addr) (cl : List (Str × Addr)) (fp : List Addr), PE (X.blk s H scope (compEnvC scope cl C X.env) fp) kx tk)
    (hv : ∀ (s : Shared) (H : Hp) (C : Addr) (cl : List (Str × Addr)) (fp : List Addr), PE (X.blk s H scope (compEnvC scope cl C X.env) fp) vx tv) (hs : ∀ x, foldedSetIterable iter X.env x = Pure.pure x) :
    PE X (.DictComp kx vx [⟨tg, iter, [], 0⟩] scope pos) (tDcT X.K wi g tk tv (own.map (·.2))) := by
  refine ⟨fun pins s σ H Q I h => ?_⟩
  rw [arm_eval_DictComp]
  have clo : ∀ y ∈ scope.names, y.2 = .free → ∃ c, X.env.cells.lookup y.1 = some c := fun y hy e => I.ok.has _ (bo.free y hy e)
  refine wpAny_comprehension_free (use := Option.none) rfl hs (closure_ok clo) bo.kind (fun y hy e => (bo.uniq y hy).trans (congrArg some e)) (thn (hi.run pins s σ H _ I h) fun xv t1 hx => thn hx fun itv t2 h2 => ?_)
  obtain ⟨it, fp, tn, J, H2, rfl, I2, T, st2, f2, q⟩ := h2
  refine wpAny_newObj_type (newEnv_comp ?_)
  have nD : H2 t2.heap.objs.size = Option.none := I2.hok.fresh (Nat.le_refl _)
  obtain ⟨W, ⟨m0, w0⟩, turn⟩ := q _ nD
  let D := t2.heap.objs.size
  let t3 : Shared := { t2 with heap := t2.heap.push { cls := .type "dict", data := .dict #[] } }
  let H3 := upd H2 D (.dT [])
  have I3 : Inv X pins σ H3 t3 := I2.laid (t' := t2.toks) (fun b o e => Heap.get?_push_of_some _ e) (Nat.le_refl _) (dt_empty t2.heap I2.big)
  have below : ∀ b ∈ fp, b < t2.heap.objs.size := fun b hb => let ⟨_, e, _⟩ := T.obj _ _ st2 b hb; Heap.lt_size e
  have f3 : ∀ b ∈ fp, FpOk X pins H3 b ∧ b < t3.heap.objs.size := fun b hb => by
    have lt := below b hb
    refine ⟨⟨?_, (f2 b hb).2⟩, ?_⟩
    · show upd H2 D _ b = _
      rw [upd_ne (Nat.ne_of_lt lt)]
      exact (f2 b hb).1
    · show b < (t2.heap.push _).objs.size
      rw [Heap.size_push]
      exact Nat.lt_succ_of_lt lt
  have st3 : tn 0 t3.heap := T.keep _ _ _ st2 fun b _ o e => Heap.get?_push_of_some _ e
  have I4 := block_start I3 bo hN f3
  have zfp : ∀ b ∈ fp, H3 b = Option.none := fun b hb => (f3 b hb).1.1
  let cs := cellsFrom (t3.heap.objs.size + 1) scope.names (cloFrom X.env.cells scope.names [])
  let ce := compEnvC scope cs t3.heap.objs.size X.env
  have pg := hg t3 H3 t3.heap.objs.size cs fp
  have pk := hk t3 H3 t3.heap.objs.size cs fp
  have pv := hv t3 H3 t3.heap.objs.size cs fp
  have pt : PTs (X.blk t3 H3 scope ce fp) [] tYes := pts_nil
  let t4 : Shared := { t3 with heap := pushCells (t3.heap.push { cls := .type "dict", data := .dict #[] }) scope.names }
  have st4 : tn 0 t4.heap := T.keep _ _ _ st3 fun b _ o e => pushCells_keeps _ _ _ _ (Heap.get?_push_of_some _ e)
  have stays : ∀ {τ : L2.St} {H' : Hp} {s' : Shared}, Inv (X.blk t3 H3 scope ce fp) [] τ H' s' → (∀ b ∈ fp, H' b = Option.none) → ∀ b ∈ fp, FpOk (X.blk t3 H3 scope ce fp) [] H' b := fun {τ H' s'} I' z b hb =>
    ⟨z b hb, (I'.ok.exf b hb).1, I'.ok.exfs b hb, .inl hb, fun x c e => (I'.ok.exf b hb).2 x c e, fun p hp => by cases hp⟩
  have loop : codeAny (model X.prog X.w) X.A (.compLoop (.DictComp kx vx [⟨tg, iter, [], 0⟩] scope pos) 0 (.ref it) (.ref D) ce) (compPost (model X.prog X.w) X.A X.xe Option.none (EP X pins σ Q) (.ref D) t3.heap.objs.size) t4 := by
    refine compLoop_anyD (fun n s' => ∃ i H', Inv (X.blk t3 H3 scope ce fp) [] (L2.wipe σ (own.map (·.2))) H' s' ∧ tn i s'.heap ∧ (∀ b ∈ fp, H' b = Option.none) ∧ W i n H') ?_ m0 ⟨0, H3, I4, st4, zfp, w0⟩
    rintro n s5 ⟨i, H5, I5, st5, z5, w5⟩
    rcases turn i n H5 w5 with ⟨stop, qq⟩ | ⟨go, N, hN', step⟩
    · refine thnF (T.done (X.blk t3 H3 scope ce fp) rfl rfl rfl hc i [] s5 _ H5 (fun _ _ => False) I5 (stays I5 z5) st5 stop) fun r s6 ⟨hr, I6⟩ => ?_
      subst hr
      have I7 : Inv X pins σ H5 s6 := I3.call' (ch := fp) I6.os I6.base I6.hok I6.bare fun b hb => ⟨(f3 b hb).1.2.2.2.1, (f3 b hb).1.2.1, (f3 b hb).1.2.2.2.2.1, (f3 b hb).1.2.2.2.2.2⟩
      have nC : H5 t3.heap.objs.size = Option.none := I6.free
      obtain ⟨m, hn, _⟩ := I6.loc
      obtain ⟨f0, f1, _, f3', f4, f5⟩ := I3.fpOk (Nat.le_refl _) nC
      exact ⟨m, hn, fun h'' sb => ⟨.ref D, H5, I7.turned (t' := s6.toks) (fun b o hb e => (sb.2 b hb).trans e) nC f1 f3' f4 f5, rfl, qq⟩⟩
    · refine thnF (T.item (X.blk t3 H3 scope ce fp) rfl rfl rfl hc i [] s5 _ H5 (fun _ _ => False) I5 (stays I5 z5) st5 go) fun r s6 ⟨u, hr, h6⟩ => ?_
      subst hr
      refine thnF h6 fun _ s7 ⟨x, H7, I7, r7, y7, st7, z7⟩ => ?_
      refine thnF (pg.run _ s7 _ H7 x u _ (I7.pinned (stays I7 z7) (T.obj _ _ st7)) r7 (step x H7 y7)) fun _ s8 ⟨σ8, H8, I8, wσ, q8⟩ => ?_
      refine thnF (pt.run _ s8 σ8 H8 (fun b H' => b = true ∧ H' = H8) I8 ⟨rfl, rfl⟩) fun b s9 ⟨H9, I9, eb, eH⟩ => ?_
      subst eb eH
      rw [if_pos rfl]
      refine thnF (pk.run _ s9 σ8 H9 _ I9 q8) fun yv s10 ⟨y, H10, I10, r10, q10⟩ => ?_
      refine thnF (pv.run _ s10 σ8 H10 _ I10 q10) fun zv s11 ⟨z, H11, I11, r11, k, b', ey, hb11, hD11, nx⟩ => ?_
      subst ey
      refine put_one (X := X.blk t3 H3 scope ce fp) hu I11 hD11 hb11 r10 fun s12 I12 => ?_
      obtain ⟨m', hm, w'⟩ := hN' _ nx
      have kp : ∀ b ∈ fp, ∀ o, s7.heap.get? b = some o → s12.heap.get? b = some o ∧ (upd H11 D (OneK D b')) b = Option.none := fun b hb o e =>
        let p := I12.pin (b, o) (List.mem_append_right _ (List.mem_append_right _ (mem_pinsAt hb e)))
        ⟨p.1, p.2.1⟩
      refine ⟨m', hm, i + 1, _, (I12.unpinned (pins := [])).weak (by rw [← wσ, L2.wipe_length]) (fun j v e => ?_), T.keep _ _ _ st7 fun b hb o e => (kp b hb o e).1, fun b hb => ?_, w'⟩
      · rw [← wσ] at e
        exact (wipe_some e).1
      · obtain ⟨o, e, _⟩ := T.obj _ _ st7 b hb
        exact (kp b hb o e).2
  exact codeAny_compStart_dict loop (T.self X.A 0 _ _ _ st4 loop)
/-- the keys, as far as they are told -/
def KeysAt (H : Hp) (d : Addr) (bs : List Addr) : Prop := (H d = some (.dT []) ∧ bs = []) ∨ ∃ b, H d = some (OneK d b) ∧ bs = [b]
def rSortedT1 : List V → Hp → VK → Prop := fun xs H Q => ∃ d bs, xs = [V.ref d] ∧ KeysAt H d bs ∧ ∀ p, H p = Option.none → Q (.ref p) (upd H p (.lst (bs.map V.ref)))
theorem keys_obj {pins : List (Addr × Obj)} {σ : L2.St} {H : Hp} {s : Shared} {d : Addr} {bs : List Addr} (I : Inv X pins σ H s) (h : KeysAt H d bs) :
    ∃ (o : Obj) (es : Array DictEntry) (ep : Nat), s.heap.get? d = some o ∧ o.ExactDict ∧ o.data = .dict es ep ∧ (d == sysModules) = false ∧ es.toList.map (·.key) = bs.map Value.ref ∧ bs.length ≤ 1 := by
  rcases h with ⟨h, rfl⟩ | ⟨b, h, rfl⟩
  · obtain ⟨z, hs, ks, pr, o, es, ep, ho, hx, hdt, he, hn⟩ := (show ObjOk X.prog X.w H s.heap d (.dT []) from I.hok d _ h)
    cases pr
    exact ⟨o, es, ep, ho, hx, hdt, hs, by rw [he]; rfl, by decide⟩
  · obtain ⟨⟨o, en, ep, w1, w2, w3, w4, w5⟩, _, _⟩ := I.hok d _ h
    exact ⟨o, _, ep, w1, w2, w3, w5, by simp [w4], by simp⟩
theorem swo_no {α : Type} : SrtO.Swo (fun _ _ : α => false) := ⟨fun _ _ _ => rfl, fun _ _ _ _ _ => rfl⟩
theorem perm_short {α : Type} {l m : List α} (h : l.Perm m) (hl : m.length ≤ 1) : l = m := by
  match m, hl with
  | [], _ => exact List.perm_nil.mp h
  | [x], _ => exact List.perm_singleton.mp h
theorem cr_sortedT1 (hc : X.calm = true) : CallR X (.builtin "sorted") rSortedT1 := by
  intro pins s σ H xs us Q I r h
  obtain ⟨d, bs, rfl, hd, q⟩ := h
  obtain ⟨u, rfl, rx⟩ := r.one
  cases rx
  obtain ⟨o, es, ep, ho, hx, hdt, hs, he, h1⟩ := keys_obj I hd
  have l1 : es.size = bs.length := by
    have z := congrArg List.length he
    rw [List.length_map, List.length_map, Array.length_toList] at z
    exact z
  refine Calls.call_function_entry PyProof.Rows.kind_sorted PyProof.Rows.plain_sorted PyProof.Rows.entry_sorted (PyProof.Rows.args_sorted1 _) ?_
  unfold Builtin.«sorted»
  refine wpAny_bind (m := checkCount "sorted" 1 1 _) (wpAny_pure ?_)
  refine wpAny_bind (PySem.W.kdu_collect (A := X.A.in1) (kdl_raw hs hx hdt) (I.ok.hd hc) ho (Nat.le_trans (by omega : es.size ≤ 1) (by decide)) fun h' tk acc hk hacc => ?_)
  have l3 : acc.toList.length = bs.length := by rw [Array.length_toList, hacc.1]; exact l1
  have ea : acc.toList = bs.map Value.ref := by
    refine List.ext_getElem (by rw [l3, List.length_map]) fun j h2 h3 => ?_
    obtain ⟨en, hen, hv⟩ := hacc.2 j acc.toList[j] (by rw [← Array.getElem?_toList]; exact List.getElem?_eq_getElem h2)
    have q1 : (es.toList.map (·.key))[j]? = some en.key := by rw [List.getElem?_map, Array.getElem?_toList, hen]; rfl
    rw [he, List.getElem?_eq_getElem h3] at q1
    rw [hv]
    exact (Option.some.inj q1).symm
  have I1 : Inv X pins σ H { s with heap := h', toks := tk } := I.kept hk
  have l4 : acc.toList.length ≤ sizeLine := by rw [l3]; exact Nat.le_trans h1 (by decide)
  refine wpAny_bind (wpAny_newList ?_ l4)
  have hoL : (h'.push (seqObj "list" acc.toList.toArray 0)).get? h'.objs.size = some (seqObj "list" acc.toList.toArray 0) := Heap.get?_push_size _ rfl
  show wpAny _ _ _ _ _ { s with heap := h'.push (seqObj "list" acc.toList.toArray 0), toks := tk }
  refine wpAny_bind (wpAny_holding (wpAny_call_entry PyProof.Rows.slot_list_sort ⟨_, hoL, rfl⟩ PyProof.Rows.entry_list_sort
    (SrtO.list_sort_ord (ltv := fun _ _ => false) (s := { s with heap := h'.push (seqObj "list" acc.toList.toArray 0), toks := tk }) swo_no hoL l4 (fun h2 => by omega) fun out _ hb => ⟨_, rfl, ?_⟩)
    (PyProof.Rows.args_list_sort _)))
  have eo : out = acc.toList := perm_short hb.perm (by rw [l3]; exact h1)
  subst eo
  obtain ⟨e', he'⟩ := PyProof.Rows.sortedHeap_at (vs := acc.toList) (out := acc.toList.toArray) hoL
  refine wpAny_pure ⟨_, rfl, .ref h'.objs.size, upd H h'.objs.size (.lst (bs.map V.ref)), I1.laid (t' := tk) (fun b u e => ?_) (Nat.le_refl _) ?_, rfl, q _ (I1.hok.fresh (Nat.le_refl _))⟩
  · have hb : b < h'.objs.size := Heap.lt_size e
    rw [PyProof.Rows.sortedHeap_old (Nat.ne_of_lt hb) (by rw [size_push']; exact Nat.lt_succ_of_lt hb)]
    exact Heap.get?_push_of_some _ e
  · show ObjOk X.prog X.w _ _ _ (.lst (bs.map V.ref))
    refine ⟨by rw [List.length_map]; exact Nat.le_trans h1 (by decide), acc.toList, e', ?_, he'⟩
    rw [ea]
    exact vals_refs _
end
end DV
end
section
set_option Elab.async false
set_option linter.all false
set_option maxRecDepth 100000
set_option maxHeartbeats 4000000
/-! sorted({k: v for ..}) of at most one item, as a function of data. -/
namespace DV
open PySem PySem.Spec PyProof.Rows L2 StX
section
variable {F F' : Cx → Prop} {K : PySem.W.Frag} {kx vx tg iter : Expr} {js : List Nat} {pos : Pos}
def isIT : D → Bool
  | .tup ds => (intsOf ds).isSome
  | _ => false
def keys1 (fg : D → DEnv → Option DEnv) (fk fv : DEnv → Option D) (δ : DEnv) : List D → Option (List D)
  | [] => some []
  | [d] => (fg d δ).bind fun δ1 => (fk δ1).bind fun y => (fv δ1).bind fun _ => if isIT y = true then some [y] else none
  | _ => none
def fKeys1 (fi : FA) (vs : List Nat) (fg : D → DEnv → Option DEnv) (fk fv : DEnv → Option D) : DEnv → Option D := fun δ => (fi δ).bind fun ds => (keys1 fg fk fv (wipeD δ vs) ds).bind fun ys => some (.lst ys)
theorem key_ints : ∀ ns : List Int, (ns.map fun i => (Sum.inl i : L2.Key)).map kV = ns.map V.int
  | [] => rfl
  | n :: ns => congrArg (V.int n :: ·) (key_ints ns)
theorem isIT_ok {K : PySem.W.Frag} {H : Hp} {y : D} {v : V} (h : isIT y = true) (d : Den K H y v) : ∃ (k : List L2.Key) (b : Addr), v = .ref b ∧ SqT K H b (k.map kV) := by
  cases y with
  | tup ds =>
    obtain ⟨a, vs, rfl, h1, h2⟩ := d
    have h : (intsOf ds).isSome = true := h
    rw [Option.isSome_iff_exists] at h
    obtain ⟨ns, e⟩ := h
    rw [intsOf_eq e] at h2
    rw [h2.ints] at h1
    exact ⟨ns.map fun i => Sum.inl i, a, rfl, by rw [key_ints]; exact h1⟩
  | _ => cases h
theorem keys_read {wi : TI} {g : TG} {tk tv : TE} {vs : List Nat} {fi : FA} {fg : D → DEnv → Option DEnv} {fk fv : DEnv → Option D}
    (vi : ∀ σ H δ ds R, EnvD K H σ δ → fi δ = some ds → (∀ J H', Same H H' → Walks K J ds H' → R J H') → wi σ H R)
    (vg : ∀ σ H δ δ' d v Q, EnvD K H σ δ → Den K H d v → fg d δ = some δ' → (∀ σ', EnvD K H σ' δ' → Off js σ σ' → Q σ' H) → g v σ H Q)
    (vk : ∀ σ H δ d Q, EnvD K H σ δ → fk δ = some d → (∀ v H', Same H H' → Den K H' d v → Q v H') → tk σ H Q)
    (vv : ∀ σ H δ d Q, EnvD K H σ δ → fv δ = some d → (∀ v H', Same H H' → Den K H' d v → Q v H') → tv σ H Q)
    (hj : ∀ i ∈ js, i ∈ vs) : ∀ σ H δ d Q, EnvD K H σ δ → fKeys1 fi vs fg fk fv δ = some d → (∀ v H', Same H H' → Den K H' d v → Q v H') → tCB rSortedT1 (tCons (tDcT K wi g tk tv vs) tNil) σ H Q := by
  intro σ H δ z Q he hf hQ
  unfold fKeys1 at hf
  rw [Option.bind_eq_some_iff] at hf
  obtain ⟨ds, e1, hf⟩ := hf
  rw [Option.bind_eq_some_iff] at hf
  obtain ⟨ys, e2, hf⟩ := hf
  cases hf
  refine vi σ H δ ds _ he e1 fun J H1 s1 wk => ?_
  intro L hL
  have offL : ∀ {H2 : Hp} {o : HO}, Same H1 H2 → Same H1 (L2.upd H2 L o) := fun {H2 o} h b x eb => by
    rw [upd_ne (ne_of_none eb hL)]
    exact h b x eb
  have fin : ∀ {H2 : Hp} {bs : List Addr}, Same H1 H2 → KeysAt H2 L bs → DenL K H2 ys (bs.map V.ref) → tNil σ H2 (fun xs H3 => rSortedT1 (.ref L :: xs) H3 Q) := fun {H2 bs} s2 k dl =>
    ⟨L, bs, rfl, k, fun p hp => hQ _ _ (s1.trans (s2.trans (same_new hp))) (den_lst hp dl)⟩
  match ds, e2 with
  | [], e2 =>
    cases e2
    refine ⟨fun i m H2 => i = 0 ∧ Same H1 H2 ∧ H2 L = some (.dT []), ⟨0, rfl, same_new hL, upd_same⟩, ?_⟩
    rintro i m H2 ⟨rfl, s2, hD⟩
    exact .inl ⟨(wk 0 H2 s2).2 rfl, fin (bs := []) s2 (.inl ⟨hD, rfl⟩) DenL.nil⟩
  | [d], e2 =>
    have e9 : ((fg d (wipeD δ vs)).bind fun δ1 => (fk δ1).bind fun y => (fv δ1).bind fun _ => if isIT y = true then some [y] else none) = some ys := e2
    clear e2
    rw [Option.bind_eq_some_iff] at e9
    obtain ⟨δ1, e3, e9⟩ := e9
    rw [Option.bind_eq_some_iff] at e9
    obtain ⟨y, e4, e9⟩ := e9
    rw [Option.bind_eq_some_iff] at e9
    obtain ⟨w, e5, e9⟩ := e9
    have hy : isIT y = true := by
      cases q : isIT y with
      | true => rfl
      | false => rw [q] at e9; cases e9
    rw [if_pos hy] at e9
    cases e9
    refine ⟨fun i m H2 => m = 1 - i ∧ Same H1 H2 ∧ ((i = 0 ∧ H2 L = some (.dT [])) ∨ (i = 1 ∧ ∃ b, H2 L = some (OneK L b) ∧ Den K H2 y (.ref b))), ⟨1, rfl, same_new hL, .inl ⟨rfl, upd_same⟩⟩, ?_⟩
    rintro i m H2 ⟨rfl, s2, ⟨rfl, hD⟩ | ⟨rfl, b, hD, db⟩⟩
    · obtain ⟨go, yl⟩ := (wk 0 H2 s2).1 (Nat.lt_succ_self 0)
      refine .inr ⟨go, fun H3 => Same H1 H3 ∧ ∃ b, H3 L = some (OneK L b) ∧ Den K H3 y (.ref b), fun H3 h => ⟨0, by decide, rfl, h.1, .inr ⟨rfl, h.2⟩⟩, fun x H3 yy => ?_⟩
      obtain ⟨s3, d', ed, dd⟩ := yl x H3 yy
      cases ed
      have s13 : Same H1 H3 := s2.trans s3
      refine vg (L2.wipe σ vs) H3 (wipeD δ vs) δ1 d x _ ((he.same (s1.trans s13)).wipe vs) dd e3 fun σ2 he2 o2 => ⟨?_, ?_⟩
      · rw [o2.wipe hj]
        exact (wipe_off σ vs).wipe fun i h => h
      refine vk σ2 H3 δ1 y _ he2 e4 fun v H4 s4 d4 => ?_
      refine vv σ2 H4 δ1 w _ (he2.same s4) e5 fun v2 H5 s5 d5 => ?_
      obtain ⟨k, b, rfl, hb⟩ := isIT_ok hy (Den.same s5 _ _ d4)
      have hD5 := s5 _ _ (s4 _ _ (s3 _ _ hD))
      refine ⟨k, b, rfl, hb, hD5, offL (s13.trans (s4.trans s5)), b, upd_same, ?_⟩
      cases y with
      | tup ds =>
        have := Den.same s5 _ _ d4
        obtain ⟨a', vs', ea, h1, h2⟩ := this
        cases ea
        have hy' : (intsOf ds).isSome = true := hy
        rw [Option.isSome_iff_exists] at hy'
        obtain ⟨ns, en⟩ := hy'
        rw [intsOf_eq en] at h2 ⊢
        refine ⟨b, vs', rfl, ?_, ?_⟩
        · rcases h1 with (h1 | ⟨o, h1⟩) | h1
          · exact .inl (.inl (by rw [upd_ne (fun z => by rw [z, hD5] at h1; cases h1)]; exact h1))
          · exact .inl (.inr ⟨o, by rw [upd_ne (fun z => by rw [z, hD5] at h1; cases h1)]; exact h1⟩)
          · exact .inr h1
        · rw [h2.ints]
          exact DenL.of_ints
      | _ => cases hy
    · refine .inl ⟨(wk 1 H2 s2).2 rfl, fin (bs := [b]) s2 (.inr ⟨b, hD, rfl⟩) (DenL.cons db DenL.nil)⟩
  | _ :: _ :: _, e2 => cases e2
theorem SE.keys1 {scope : Scope} {own : List (Str × Nat)} {fi : FA} {fg : D → DEnv → Option DEnv} {fk fv : DEnv → Option D} {p cpos : Pos} (hc : ∀ X, F X → X.calm = true ∧ X.N.Nodup ∧ BlkOk X.N X.env.scope scope own ∧ X.K = K ∧ X.A.units + 64 < cLine) (hg0 : ∀ X, F X → Gl X "sorted" ∧ X.mg "sorted" = Option.none) (hi : SI F K tg iter fi)
    (hF : ∀ X, F X → ∀ (s : Shared) (H : Hp) (C : Addr) (cl : List (Str × Addr)) (fp : List Addr), F' (X.blk s H scope (compEnvC scope cl C X.env) fp))
    (hg : SG F' K tg js fg) (hk : SE F' K kx fk) (hv : SE F' K vx fv) (hj : ∀ i ∈ js, i ∈ own.map (·.2)) (hs : isSet iter = false) : SE F K (.Call (.Name "sorted" p) [.DictComp kx vx [⟨tg, iter, [], 0⟩] scope pos] [] cpos) (fKeys1 fi (own.map (·.2)) fg fk fv) := by
  obtain ⟨wi, ui, vi⟩ := hi
  obtain ⟨g, ug, vg⟩ := hg
  obtain ⟨tk, uk, vk⟩ := hk
  obtain ⟨tv, uv, vv⟩ := hv
  refine ⟨tCB rSortedT1 (tCons (tDcT K wi g tk tv (own.map (·.2))) tNil), fun X hX => ?_, keys_read vi vg vk vv hj⟩
  obtain ⟨h1, h2, h3, h4, h5⟩ := hc X hX
  rw [← h4]
  exact pe_callB (cr_sortedT1 h1) (hg0 X hX).1 (hg0 X hX).2 (by decide +kernel) (pa_cons (pe_dcT (by omega) h1 h2 (ui X hX) h3 (fun s H C cl fp => ug _ (hF X hX s H C cl fp)) (fun s H C cl fp => uk _ (hF X hX s H C cl fp)) (fun s H C cl fp => uv _ (hF X hX s H C cl fp)) (folded hs _)) pa_nil (star_cons rfl _ _)) (by decide) (by decide) (star_cons rfl _ _) (star_none (by rfl))
end
end DV
end
section
set_option Elab.async false
set_option linter.all false
set_option maxRecDepth 100000
set_option maxHeartbeats 4000000
/-! places_of_cubic. -/
namespace FR
open PySem PySem.Spec PyProof.Rows L2 DV StX
abbrev cN : List Str := n_places_of_cubic
def cSc : Scope := defScope s_places_of_cubic
def t_cubic : Tab := { consts := consts0, fns := [("lowest_place", 2, f_lowest_place), ("monic_roots", 1, m_monic), ("places_of_double", 1, f_places_of_double)] }
abbrev cPre : List Stmt := (defBody s_places_of_cubic).take 2
def dcC : Expr → Expr
  | .DictComp _ _ [⟨_, it, _, _⟩] _ _ => it
  | _ => noE
def dcT : Expr → Expr
  | .DictComp _ _ [⟨t, _, _, _⟩] _ _ => t
  | _ => noE
def dcK : Expr → Expr
  | .DictComp k _ _ _ _ => k
  | _ => noE
def dcV : Expr → Expr
  | .DictComp _ v _ _ _ => v
  | _ => noE
def dcS : Expr → Scope
  | .DictComp _ _ _ s _ => s
  | _ => cSc
def cDc : Expr := argA (argA (retV (stA s_places_of_cubic 2)) 0) 0
def cOwn : List (Str × Nat) := ownOf cN (dcS cDc)
def cRel : Scope := relS (dcS cDc) cSc
def cLast (T : Tab) : FS := sRet (fCall (aCons (fKeys1 (cI T cN cSc 40 (dcT cDc) (dcC cDc)) (cOwn.map (·.2)) (cG cN cRel false 40 (dcT cDc)) (cE T cN cRel 40 (dcK cDc)) (cE T cN cRel 40 (dcV cDc))) aNil) tupF)
theorem c_blk : blkC cN cSc (dcS cDc) cOwn = true := by decide +kernel
theorem c_slots : (slots cN 40 (dcT cDc)).all (fun i => (cOwn.map (·.2)).contains i) = true := by decide +kernel
theorem last_ok {g : G} {k : Nat} (B : Base g) (hb : g.mg "sorted" = none) (ok : TabOk (g.ctx k cN) t_cubic) : SS (Fam (g.ctx k cN) cSc true) g.K (stA s_places_of_cubic 2) (cLast t_cubic) := by
  refine SS.ret (SE.callT (callS_tup (fun X hX => hX.K)) (fun X hX => ⟨fam_gl hX (by decide +kernel), by rw [hX.mg]; exact B.blt _ (by decide)⟩) (by decide +kernel) (by decide) (by decide) rfl (SA.cons rfl ?_ SA.nil))
  refine SE.keys1 (F' := Fam (g.ctx k cN) cRel false) (own := cOwn) (fun X hX => ⟨hX.calm, by rw [hX.N]; exact ok.nd, own_ok hX c_blk, hX.K, hX.units⟩) (fun X hX => ⟨fam_gl hX (by decide +kernel), by rw [hX.mg]; exact hb⟩)
    ((sound ok 40).i cSc true _ _) (fun X hX s H C cl fp => hX.blk s H _ cl C fp) ((sound_g ok cRel false 40).1 _) ((sound ok 40).e cRel false _) ((sound ok 40).e cRel false _) (fun i hi => ?_) rfl
  exact List.contains_iff_mem.mp (List.all_eq_true.mp c_slots i hi)
def f_cubic : List D → Option D := runB cN 1 (sSeq (cSs t_cubic cN cSc 60 cPre) (cLast t_cubic))
theorem got_places_of_cubic {g : G} (B : Base g) (hb : g.mg "sorted" = none) (h : ∃ f fd, Has g "places_of_cubic" s_places_of_cubic f fd) (g1 : Got g 2 "lowest_place" 2 f_lowest_place) (g2 : Got g 3 "monic_roots" 1 m_monic) (g3 : Got g 3 "places_of_double" 1 f_places_of_double) :
    Got g 4 "places_of_cubic" 1 f_cubic := by
  have b0 : Bnd s_places_of_cubic "places_of_cubic" "places_of_cubic" p_places_of_cubic := fun kV doc pm an cdv ct us h => match us, h with | [_], _ => rfl
  obtain ⟨f, fd, h⟩ := h
  refine ⟨fun ds d q => runB_len ds d q, f, fd, p_places_of_cubic, rfl, h.mg, h.kp, h.fn.binds1 b0, ?_⟩
  refine def_sp (k := 3) h.fn sc_places_of_cubic (fun vs H Q E q => by obtain ⟨ds, d, e, _⟩ := q; exact e) fun X hX => ?_
  have ok : TabOk (g.ctx 3 cN) t_cubic := tab_ok B (by decide) (.cons (g1.mono (by decide)) (.cons g2 (.cons g3 .nil)))
  obtain ⟨tf, p1, q1⟩ := spre ok cSc 60 cPre
  obtain ⟨t2, p2, q2⟩ := last_ok B hb ok
  refine ⟨_, p1 X hX _ _ (pss_cons (p2 X hX) pss_nil), ?_⟩
  rintro vs H Q E ⟨ds, d, hl, hd, hm, hQ⟩
  have hl1 : ds.length = 1 := runB_len ds d hm
  have he := env_start (N := cN) hd (by rw [hl1]; decide)
  rw [hl1] at he
  unfold f_cubic runB at hm
  rw [if_pos hl1, Option.bind_eq_some_iff] at hm
  obtain ⟨o, e1, e2⟩ := hm
  cases e2
  unfold sSeq at e1
  rw [Option.bind_eq_some_iff] at e1
  obtain ⟨o1, e1, e3⟩ := e1
  refine q1 _ _ H _ o1 _ he e1 (fun d' e => ?_) fun δ' σ' H' e s1 he1 => ?_
  · subst e
    cases e3
    exact fun v H' s1 dd => hQ v H' s1 dd
  · subst e
    refine q2 σ' H' δ' o _ he1 e3 ?_
    cases o with
    | nx δ2 => exact fun σ2 H2 s2 _ => hQ .non H2 (s1.trans s2) rfl
    | rt d => exact fun v H2 s2 dd => hQ v H2 (s1.trans s2) dd
end FR
end
section
set_option Elab.async false
set_option linter.all false
set_option maxRecDepth 100000
set_option maxHeartbeats 4000000
/-! Instances: what changes leave of data; the makers. -/
namespace DV
open PySem PySem.Spec PyProof.Rows L2
mutual
/-- no instance within -/
def noOb : D → Bool
  | .ob _ _ => false
  | .pt _ _ _ _ => false
  | .tup ds => noObL ds
  | .lst ds => noObL ds
  | _ => true
def noObL : List D → Bool
  | [] => true
  | d :: ds => noOb d && noObL ds
end
/-- tuples and lists stand -/
def Far (H H' : Hp) : Prop := ∀ b o, H b = some o → (∀ φ, o ≠ .ext φ) → (∀ fs, o ≠ .xd fs) → (∀ C dx fs, o ≠ .ins C dx fs) → (∀ C, o ≠ .own C) → H' b = some o
theorem Far.refl {H : Hp} : Far H H := fun _ _ h _ _ _ _ => h
theorem Far.of {H H' : Hp} (h : Same H H') : Far H H' := fun b o e _ _ _ _ => h b o e
theorem Far.trans {H H' H'' : Hp} (h : Far H H') (k : Far H' H'') : Far H H'' := fun b o e a b' c d => k b o (h b o e a b' c d) a b' c d
section
variable {K : PySem.W.Frag} {H H' : Hp}
theorem Far.seqT {a : Addr} {xs : List V} (e : Far H H') (h : SqT K H a xs) : SqT K H' a xs := by
  rcases h with (h | ⟨o, h⟩) | h
  · exact .inl (.inl (e _ _ h (fun _ q => nomatch q) (fun _ q => nomatch q) (fun _ _ _ q => nomatch q) (fun _ q => nomatch q)))
  · exact .inl (.inr ⟨o, e _ _ h (fun _ q => nomatch q) (fun _ q => nomatch q) (fun _ _ _ q => nomatch q) (fun _ q => nomatch q)⟩)
  · exact .inr h
mutual
theorem Den.far (e : Far H H') : ∀ (d : D) (v : V), noOb d = true → Den K H d v → Den K H' d v
  | .non, _, _, h => h
  | .bl _, _, _, h => h
  | .int _, _, _, h => h
  | .ob _ _, _, p, _ => by simp [noOb] at p
  | .pt _ _ _ _, _, p, _ => by simp [noOb] at p
  | .tup ds, _, p, h => by
    obtain ⟨a, vs, r, h1, h2⟩ := h
    exact ⟨a, vs, r, e.seqT h1, DenL.far e ds vs (by simpa [noOb] using p) h2⟩
  | .lst ds, _, p, h => by
    obtain ⟨a, vs, r, h1, h2⟩ := h
    exact ⟨a, vs, r, e _ _ h1 (fun _ q => nomatch q) (fun _ q => nomatch q) (fun _ _ _ q => nomatch q) (fun _ q => nomatch q), DenL.far e ds vs (by simpa [noOb] using p) h2⟩
theorem DenL.far (e : Far H H') : ∀ (ds : List D) (vs : List V), noObL ds = true → DenL K H ds vs → DenL K H' ds vs
  | [], _, _, h => h
  | d :: ds, _, p, h => by
    obtain ⟨v, r, rfl, h1, h2⟩ := h
    have p' : noOb d = true ∧ noObL ds = true := by simpa [noObL] using p
    exact ⟨v, r, rfl, Den.far e d v p'.1 h1, DenL.far e ds r p'.2 h2⟩
end
/-- a stored slot is nothing to tuples and lists -/
theorem far_slot {a C dx : Addr} {vs vs' : List (Option V)} (hd : dx ≠ a) (ha : (∃ C dx fs, H a = some (.ins C dx fs)) ∨ ∃ φ, H a = some (.ext φ)) (hx : (∃ b, H dx = some (.own b)) ∨ H dx = some (.xd [])) : Far H (SlX.slH H a C dx vs') := fun b o e h1 h2 h3 h4 => by
  have n1 : b ≠ a := by
    intro q
    subst q
    rcases ha with ⟨_, _, _, z⟩ | ⟨_, z⟩
    · rw [z] at e; cases e; exact h3 _ _ _ rfl
    · rw [z] at e; cases e; exact h1 _ rfl
  have n2 : b ≠ dx := by
    intro q
    subst q
    rcases hx with ⟨_, z⟩ | z
    · rw [z] at e; cases e; exact h4 _ rfl
    · rw [z] at e; cases e; exact h2 _ rfl
  rw [SlX.slH_ne n1 n2]
  exact e
end
end DV
namespace FR
open PySem PySem.Spec PyProof.Rows L2 DV
/-- a slot class of the module -/
structure ClsF (g : G) (y : Str) (C : Addr) : Prop where
  mg : g.mg y = some (.ref C)
  cls : SlX.SCls g.K C
structure IsiF (g : G) (y : Str) (C : Addr) : Prop where
  c : ClsF g y C
  isi : SlX.SIsi g.K C
  own : PySem.W.kitOne g.K (.ref C) (.ref C) = some true
  tup : PySem.W.kitOne g.K (.type "tuple") (.ref C) = some false
structure InitF (g : G) (y qual : Str) (st : Stmt) (C : Addr) : Prop where
  c : ClsF g y C
  ini : ∃ (f : Addr) (fd : FuncData), Mk g.K C f ∧ FnP g.K "__init__" qual st f fd
/-- C(..) of the module is kept -/
def MkO (g : G) (k : Nat) (x : Str) (n : Nat) (C : Addr) (m : List D → Option (List D)) : Prop := (∀ ds d, m ds = some d → ds.length = n) ∧ ∃ (f : Addr) (fd : FuncData) (ps : List Str), ps.length = n + 1 ∧ Mk g.K C f ∧ g.mg x = some (.ref C) ∧ Binds g.K fd ps [] ∧ FnOk g.P g.w g.K g.mg g.base CX0 k f fd ps (spI g.K C n m)
/-- an __init__ of one statement: self.f = e -/
def initOne (fe : DEnv → Option D) : List D → Option (List D) := fun ds => if ds.length = 1 then (fe (none :: ds.map some)).bind fun d => if noOb d = true then some [d] else none else none
theorem far_same {K : PySem.W.Frag} {H1 H' : Hp} {x dx : Addr} {C : Addr} {vs : List (Option V)} (h1 : H1 x = none) (h2 : H1 dx = none) (s : Same H1 H') : Same H1 (SlX.slH H' x C dx vs) := fun b o e => by
  rw [SlX.slH_ne (fun q => by subst q; rw [h1] at e; cases e) (fun q => by subst q; rw [h2] at e; cases e)]
  exact s b o e
theorem same_made {H1 : Hp} {x dx : Addr} {o1 o2 : HO} (h1 : H1 x = none) (h2 : H1 dx = none) : Same H1 (upd (upd H1 dx o1) x o2) := fun b o e => by
  rw [upd_ne (fun q => by subst q; rw [h1] at e; cases e), upd_ne (fun q => by subst q; rw [h2] at e; cases e)]
  exact e
theorem mk_one {g : G} {k : Nat} {y qual : Str} {st : Stmt} {C pa : Addr} {fl x1 x2 : Str} {e : Expr} {fe : DEnv → Option D} {p p2 pos : Pos} (h : InitF g y qual st C) (S : FnScope [x1, x2] [x1, x2] (defScope st)) (hb : Bnd st "__init__" qual [x1, x2])
    (hbody : defBody st = [.Assign [.Attribute (.Name x1 p) fl p2] e pos]) (hv : isVar ((defScope st).names.lookup x1) = true) (ok1 : okName x1 = true) (he : SE (Fam (g.ctx k [x1, x2]) (defScope st) true) g.K e fe) (sl : SlX.Slot1 g.K C fl pa 0) (hs : isComp e = false) :
    MkO g (k + 1) y 1 C (initOne fe) := by
  obtain ⟨f, fd, hm, F⟩ := h.ini
  refine ⟨fun ds d q => ?_, f, fd, [x1, x2], rfl, hm, h.c.mg, F.binds1 hb, ?_⟩
  · unfold initOne at q
    split at q
    · assumption
    · cases q
  obtain ⟨t, pt, qt⟩ := he
  refine def_sp F S (fun vs H Q E q => ?_) fun X hX => ?_
  · obtain ⟨x, dx, H1, us, ds, fs, rfl, hl, _⟩ := q
    rw [List.length_cons, hl]
    rfl
  have v0 : X.N[0]? = some x1 := by rw [hX.N]; rfl
  have ps : PS X (.Assign [.Attribute (.Name x1 p) fl p2] e pos) (SlX.sSl X.K (tVar 0) t fl) := SlX.ps_sl (pe_var v0 (fam_vis hX hv) (okName_ok ok1).1 (okName_ok ok1).2.1) (pt X hX) (swaps_no hs _ _ _)
  refine ⟨_, by rw [hbody]; exact pss_cons ps pss_nil, ?_⟩
  rintro vs H Q E ⟨x, dx, H1, us, ds, fs, rfl, hl, n1, n2, ne, eH, hd, hm2, hQ⟩
  unfold initOne at hm2
  have hl1 : ds.length = 1 := by rw [← hd.length]; exact hl
  rw [if_pos hl1, Option.bind_eq_some_iff] at hm2
  obtain ⟨d, e1, e2⟩ := hm2
  split at e2 <;> cases e2
  rename_i hno
  match us, ds, hl, hl1, hd with
  | [u], [d0], _, _, hd =>
    obtain ⟨_, _, eu, hd0, _⟩ := hd
    cases eu
    have sH : Same H1 H := by rw [eH]; exact same_made n1 n2
    have he0 : EnvD g.K H (L2.start [x1, x2] [.ref x, u]) [none, some d0] := ⟨rfl, fun i z q => by
      match i with
      | 0 => cases q
      | 1 => cases q; exact ⟨u, rfl, Den.same sH _ _ hd0⟩
      | i + 2 => simp at q⟩
    have hx0 : H x = some (.ins C dx []) := by rw [eH]; exact upd_same
    have hd0 : H dx = some (.own x) := by rw [eH, upd_ne ne]; exact upd_same
    refine qt _ H _ d _ he0 e1 fun w H2 s2 dw => ?_
    refine ⟨.ref x, rfl, x, C, dx, pa, [], 0, rfl, .inl ⟨s2 _ _ hx0, rfl⟩, ?_, ?_, ?_⟩
    · rw [hX.K]; exact h.c.cls
    · rw [hX.K]; exact sl
    · refine hQ _ [w] (far_same (K := g.K) n1 n2 (sH.trans s2)) (SlX.slH_slt ne) (DenL.cons (Den.far (far_slot (vs := []) ne (.inl ⟨C, dx, [], s2 _ _ hx0⟩) (.inl ⟨x, s2 _ _ hd0⟩)) _ _ hno dw) DenL.nil)
end FR
end
section
set_option Elab.async false
set_option linter.all false
set_option maxRecDepth 100000
set_option maxHeartbeats 4000000
/-! The module's slot classes; Walk made, and stepped. -/
namespace FR
open PySem PySem.Spec PyProof.Rows L2 DV
structure Ads where
  CF : Addr
  CK : Addr
  CW : Addr
def slT (A : Ads) : SlTab := [("own_coefficients", A.CF, 0), ("own_numbers", A.CK, 0), ("own_change", A.CW, 0), ("own_numbers", A.CW, 1)]
def clT (A : Ads) : List (Str × Addr) := [("KeptForm", A.CK), ("Form", A.CF)]
structure Objs (g : G) (A : Ads) : Prop where
  ne : A.CK ≠ A.CW
  form : IsiF g "Form" A.CF
  kept : IsiF g "KeptForm" A.CK
  walk : ClsF g "Walk" A.CW
  iform : InitF g "Form" "Form.__init__" s_Form_init A.CF
  ikept : InitF g "KeptForm" "KeptForm.__init__" s_KeptForm_init A.CK
  iwalk : InitF g "Walk" "Walk.__init__" s_Walk_init A.CW
  sF : ∃ p, SlX.Slot1 g.K A.CF "own_coefficients" p 0
  sK : ∃ p, SlX.Slot1 g.K A.CK "own_numbers" p 0
  sWc : ∃ p, SlX.Slot1 g.K A.CW "own_change" p 0
  sWn : ∃ p, SlX.Slot1 g.K A.CW "own_numbers" p 1
  step : ∃ (f : Addr) (fd : FuncData), Meth g.K A.CW "step" f ∧ FnP g.K "step" "Walk.step" s_Walk_step f fd
  prop : ∃ (pa ga : Addr) (fd : FuncData), PySem.W.findIn g.K (.ref A.CF) "coefficients" = some (some (.ref pa)) ∧ PySem.W.specialIn g.K (.ref pa) "__get__" = some (some (.builtin "property.__get__")) ∧ PySem.W.takesIn g.K (.ref pa) = some true ∧
    (∃ rest, PySem.W.recIn g.K pa "property" = some (.ref ga :: rest)) ∧ FnP g.K "coefficients" "Form.coefficients" s_Form_coefficients ga fd
  eq : ∃ (ga : Addr) (fd : FuncData), PySem.W.findIn g.K (.ref A.CF) (cmpInfo .Eq).2.1 = some (some (.ref ga)) ∧ PySem.W.isFn g.K (.ref ga) = true ∧ PySem.W.notFirst g.K A.CF (.ref A.CF) = true ∧ FnP g.K "__eq__" "Form.__eq__" s_Form_eq ga fd
theorem slT_ok {g : G} {A : Ads} (O : Objs g A) : ∀ q ∈ slT A, SlX.SCls g.K q.2.1 ∧ ∃ p, SlX.Slot1 g.K q.2.1 q.1 p q.2.2 := fun q hq => by
  simp only [slT, List.mem_cons, List.not_mem_nil, or_false] at hq
  rcases hq with rfl | rfl | rfl | rfl
  · exact ⟨O.form.c.cls, O.sF⟩
  · exact ⟨O.kept.c.cls, O.sK⟩
  · exact ⟨O.walk.cls, O.sWc⟩
  · exact ⟨O.walk.cls, O.sWn⟩
theorem clT_ok {g : G} {A : Ads} (O : Objs g A) : ∀ y C, (clT A).lookup y = some C → g.mg y = some (.ref C) ∧ SlX.SCls g.K C ∧ SlX.SIsi g.K C ∧ PySem.W.kitOne g.K (.ref C) (.ref C) = some true ∧ PySem.W.kitOne g.K (.type "tuple") (.ref C) = some false := fun y C h => by
  unfold clT at h
  rw [List.lookup_cons] at h
  split at h
  · rename_i e
    cases h
    rw [beq_iff_eq.mp e]
    exact ⟨O.kept.c.mg, O.kept.c.cls, O.kept.isi, O.kept.own, O.kept.tup⟩
  · rw [List.lookup_cons] at h
    split at h
    · rename_i e
      cases h
      rw [beq_iff_eq.mp e]
      exact ⟨O.form.c.mg, O.form.c.cls, O.form.isi, O.form.own, O.form.tup⟩
    · cases h
/-- the makers of a table -/
inductive AllM (g : G) (k : Nat) : List (Str × Nat × Addr × (List D → Option (List D))) → Prop
  | nil : AllM g k []
  | cons {x : Str} {n : Nat} {C : Addr} {m : List D → Option (List D)} {l} : MkO g k x n C m → AllM g k l → AllM g k ((x, n, C, m) :: l)
theorem MkO.mono {g : G} {j k n : Nat} {x : Str} {C : Addr} {m : List D → Option (List D)} (h : MkO g j x n C m) (hj : j ≤ k) : MkO g k x n C m := by
  obtain ⟨h0, f, fd, ps, h1, h2, h3, h4, h5⟩ := h
  exact ⟨h0, f, fd, ps, h1, h2, h3, h4, h5.mono hj⟩
theorem AllM.get {g : G} {k : Nat} : ∀ {l : List (Str × Nat × Addr × (List D → Option (List D)))}, AllM g k l → ∀ x n C m, l.lookup x = some (n, C, m) → MkO g k x n C m
  | _, .nil, _, _, _, _, h => nomatch h
  | _, .cons (x := y) h t, x, n, C, m, e => by
    rw [List.lookup_cons] at e
    split at e
    · rename_i q
      cases e
      rw [beq_iff_eq.mp q]
      exact h
    · exact t.get x n C m e
theorem tab_okO {g : G} {A : Ads} {k : Nat} {N : List Str} {fns : List (Str × Nat × (List D → Option D))} {mk : List (Str × Nat × Addr × (List D → Option (List D)))} (B : Base g) (O : Objs g A) (nd : N.Nodup) (h : AllG g (k + 1) fns) (hm : AllM g k mk) :
    TabOk (g.ctx (k + 1) N) { consts := consts0, fns := fns, cls := clT A, slots := slT A, makes := mk } where
  nd := nd
  const := B.const
  fn := fun x n m e => by
    obtain ⟨h0, f, fd, ps, h1, h2, h3, h4, h5⟩ := h.get x n m e
    exact ⟨h0, k + 1, f, fd, ps, h1, Nat.le_refl _, h2, h3, h4, h5⟩
  blt := B.blt
  gcd := B.gcd
  sqrt := B.sqrt
  cls := clT_ok O
  slot := slT_ok O
  prop := fun _ _ _ h => nomatch h
  make := fun x n C m e => by
    obtain ⟨h0, f, fd, ps, h1, h2, h3, h4, h5⟩ := hm.get x n C m e
    exact ⟨h0, k, f, fd, ps, h1, Nat.le_refl _, h2, h3, h4, h5⟩
  eq := fun _ _ h => nomatch h
/-! ### Walk(..) -/
def IDLEd : D := ch 1 0 0 1
def m_walk (fe : DEnv → Option D) : List D → Option (List D) := fun ds => if ds.length = 1 then (fe (none :: ds.map some)).bind fun d => if noOb d = true then some [IDLEd, d] else none else none
theorem mk_walk {g : G} {A : Ads} {k : Nat} (B : Base g) (O : Objs g A) : MkO g (k + 1) "Walk" 1 A.CW (m_walk (fCall (aCons (fVar 1) aNil) tupF)) := by
  obtain ⟨f, fd, hm, F⟩ := O.iwalk.ini
  refine ⟨fun ds d q => ?_, f, fd, p_Walk_init, rfl, hm, O.walk.mg, F.binds1 (ps := p_Walk_init) (fun kV doc pm an cdv ct us h => match us, h with | [_, _], _ => rfl), ?_⟩
  · unfold m_walk at q
    split at q
    · assumption
    · cases q
  have ok : TabOk (g.ctx k n_Walk_init) { consts := consts0, fns := [] } := tab_ok B (by decide) .nil
  obtain ⟨t1, p1, q1⟩ := (sound ok 40).e (defScope s_Walk_init) true (asgV (stA s_Walk_init 0))
  obtain ⟨t2, p2, q2⟩ := (sound ok 40).e (defScope s_Walk_init) true (asgV (stA s_Walk_init 1))
  rw [show cE _ (g.ctx k n_Walk_init).N (defScope s_Walk_init) 40 (asgV (stA s_Walk_init 0)) = fCall (aCons (fVar 1) aNil) tupF by kernel_rfl] at q1
  rw [show cE _ (g.ctx k n_Walk_init).N (defScope s_Walk_init) 40 (asgV (stA s_Walk_init 1)) = fConst IDLEd by kernel_rfl] at q2
  obtain ⟨pn, sn⟩ := O.sWn
  obtain ⟨pc, sc⟩ := O.sWc
  refine def_sp F sc_Walk_init (fun vs H Q E q => ?_) fun X hX => ?_
  · obtain ⟨x, dx, H1, us, ds, fs, rfl, hl, _⟩ := q
    rw [List.length_cons, hl]
    rfl
  have v0 : X.N[0]? = some ("self" : Str) := by rw [hX.N]; rfl
  have pself := fun (p : Pos) => pe_var (X := X) (pos := p) v0 (fam_vis hX (by decide +kernel)) (by decide) (by decide)
  have s1 : PS X (stA s_Walk_init 0) (SlX.sSl X.K (tVar 0) t1 "own_numbers") := SlX.ps_sl (pself _) (p1 X hX) (swaps_no rfl _ _ _)
  have s2 : PS X (stA s_Walk_init 1) (SlX.sSl X.K (tVar 0) t2 "own_change") := SlX.ps_sl (pself _) (p2 X hX) (swaps_no rfl _ _ _)
  refine ⟨_, pss_cons s1 (pss_cons s2 pss_nil), ?_⟩
  rintro vs H Q E ⟨x, dx, H1, us, ds, fs, rfl, hl, n1, n2, ne, eH, hd, hm2, hQ⟩
  unfold m_walk at hm2
  have hl1 : ds.length = 1 := by rw [← hd.length]; exact hl
  rw [if_pos hl1, Option.bind_eq_some_iff] at hm2
  obtain ⟨d, e1, e2⟩ := hm2
  obtain ⟨hno, rfl⟩ := if_some e2
  match us, ds, hl, hl1, hd with
  | [u], [d0], _, _, hd =>
    obtain ⟨_, _, eu, hd0, _⟩ := hd
    cases eu
    have sH : Same H1 H := by rw [eH]; exact same_made n1 n2
    have he0 : EnvD g.K H (L2.start n_Walk_init [.ref x, u]) [none, some d0] := ⟨rfl, fun i z q => by
      match i with
      | 0 => cases q
      | 1 => cases q; exact ⟨u, rfl, Den.same sH _ _ hd0⟩
      | i + 2 => simp at q⟩
    have hx0 : H x = some (.ins A.CW dx []) := by rw [eH]; exact upd_same
    have hd0 : H dx = some (.own x) := by rw [eH, upd_ne ne]; exact upd_same
    refine q1 _ H _ d _ he0 e1 fun w H2 s2 dw => ?_
    refine ⟨.ref x, rfl, x, A.CW, dx, pn, [], 1, rfl, .inl ⟨s2 _ _ hx0, rfl⟩, by rw [hX.K]; exact O.walk.cls, by rw [hX.K]; exact sn, ?_⟩
    have fr : Far H2 (SlX.slH H2 x A.CW dx (SlX.putS 1 w [])) := far_slot (vs := []) ne (.inl ⟨A.CW, dx, [], s2 _ _ hx0⟩) (.inl ⟨x, s2 _ _ hd0⟩)
    have he2 : EnvD g.K (SlX.slH H2 x A.CW dx (SlX.putS 1 w [])) (L2.start n_Walk_init [.ref x, u]) [none, none] := ⟨rfl, fun i z q => by
      match i with
      | 0 => cases q
      | 1 => cases q
      | i + 2 => simp at q⟩
    refine q2 _ _ [none, none] IDLEd _ he2 rfl fun z H3 s3 dz => ?_
    have l3 : SlX.Slt H3 x A.CW dx (SlX.putS 1 w []) := slt_same s3 (SlX.slH_slt ne)
    refine ⟨.ref x, rfl, x, A.CW, dx, pc, _, 0, rfl, l3, by rw [hX.K]; exact O.walk.cls, by rw [hX.K]; exact sc, ?_⟩
    have fr3 : Far H3 (SlX.slH H3 x A.CW dx (SlX.putS 0 z (SlX.putS 1 w []))) := by
      rcases l3 with ⟨_, z0⟩ | ⟨z1, z2⟩
      · cases z0
      · exact far_slot (vs := []) ne (.inr ⟨_, z1⟩) (.inr z2)
    have base : Same H1 (SlX.slH H2 x A.CW dx (SlX.putS 1 w [])) := far_same (K := g.K) n1 n2 (sH.trans s2)
    exact hQ _ [z, w] (far_same (K := g.K) n1 n2 (base.trans s3)) (SlX.slH_slt ne) (DenL.cons (Den.far fr3 _ _ (by decide) dz) (DenL.cons (Den.far fr3 _ _ hno (Den.same s3 _ _ (Den.far fr _ _ hno dw))) DenL.nil))
end FR
end
section
set_option Elab.async false
set_option linter.all false
set_option maxRecDepth 100000
set_option maxHeartbeats 4000000
/-! A walk: what is changed at it. -/
namespace FR
open PySem PySem.Spec PyProof.Rows L2 DV
def FarA (a dx : Addr) (H H' : Hp) : Prop := ∀ b o, b ≠ a → b ≠ dx → H b = some o → H' b = some o
theorem FarA.refl {a dx : Addr} {H : Hp} : FarA a dx H H := fun _ _ _ _ h => h
theorem FarA.trans {a dx : Addr} {H H' H'' : Hp} (h : FarA a dx H H') (k : FarA a dx H' H'') : FarA a dx H H'' := fun b o h1 h2 e => k b o h1 h2 (h b o h1 h2 e)
theorem FarA.of {a dx : Addr} {H H' : Hp} (h : Same H H') : FarA a dx H H' := fun b o _ _ e => h b o e
structure Wk (K : PySem.W.Frag) (C : Addr) (H : Hp) (a dx : Addr) (chg row : D) : Prop where
  ne : dx ≠ a
  ex : ∃ u w, H a = some (SlX.SlO a C dx [some u, some w]) ∧ Den K H chg u ∧ Den K H row w
  xd : H dx = some (.xd [])
  n1 : noOb chg = true
  n2 : noOb row = true
section
variable {K : PySem.W.Frag} {C : Addr} {H H' : Hp} {a dx : Addr} {chg row : D}
theorem Wk.far (h : Wk K C H a dx chg row) (f : FarA a dx H H') : Far H H' := fun b o e h1 h2 _ _ => by
  obtain ⟨u, w, ea, _⟩ := h.ex
  refine f b o (fun q => ?_) (fun q => ?_) e
  · subst q; rw [ea] at e; cases e; exact h1 _ rfl
  · subst q; rw [h.xd] at e; cases e; exact h2 _ rfl
theorem Wk.same (h : Wk K C H a dx chg row) (s : Same H H') : Wk K C H' a dx chg row := by
  obtain ⟨u, w, ea, d1, d2⟩ := h.ex
  exact ⟨h.ne, ⟨u, w, s _ _ ea, Den.same s _ _ d1, Den.same s _ _ d2⟩, s _ _ h.xd, h.n1, h.n2⟩
theorem Wk.den (h : Wk K C H a dx chg row) : Den K H (.pt C a dx [chg, row]) (.ref a) := by
  obtain ⟨u, w, ea, d1, d2⟩ := h.ex
  exact ⟨[u, w], rfl, .inr ⟨ea, h.xd⟩, DenL.cons d1 (DenL.cons d2 DenL.nil)⟩
/-- a slot of the walk is stored -/
theorem Wk.put0 (h : Wk K C H a dx chg row) {d : D} {v : V} (hn : noOb d = true) (hd : Den K H d v) : ∃ u w, H a = some (SlX.SlO a C dx [some u, some w]) ∧ Wk K C (SlX.slH H a C dx (SlX.putS 0 v [some u, some w])) a dx d row ∧ FarA a dx H (SlX.slH H a C dx (SlX.putS 0 v [some u, some w])) := by
  obtain ⟨u, w, ea, d1, d2⟩ := h.ex
  have fr : Far H (SlX.slH H a C dx (SlX.putS 0 v [some u, some w])) := far_slot (vs := []) h.ne (.inr ⟨_, ea⟩) (.inr h.xd)
  refine ⟨u, w, ea, ⟨h.ne, ⟨v, w, ?_, Den.far fr _ _ hn hd, Den.far fr _ _ h.n2 d2⟩, ?_, hn, h.n2⟩, fun b o h1 h2 e => by rw [SlX.slH_ne h1 h2]; exact e⟩
  · unfold SlX.slH
    exact upd_same
  · unfold SlX.slH
    rw [upd_ne h.ne]
    exact upd_same
theorem Wk.put1 (h : Wk K C H a dx chg row) {d : D} {v : V} (hn : noOb d = true) (hd : Den K H d v) : ∃ u w, H a = some (SlX.SlO a C dx [some u, some w]) ∧ Wk K C (SlX.slH H a C dx (SlX.putS 1 v [some u, some w])) a dx chg d ∧ FarA a dx H (SlX.slH H a C dx (SlX.putS 1 v [some u, some w])) := by
  obtain ⟨u, w, ea, d1, d2⟩ := h.ex
  have fr : Far H (SlX.slH H a C dx (SlX.putS 1 v [some u, some w])) := far_slot (vs := []) h.ne (.inr ⟨_, ea⟩) (.inr h.xd)
  refine ⟨u, w, ea, ⟨h.ne, ⟨u, v, ?_, Den.far fr _ _ h.n1 d1, Den.far fr _ _ hn hd⟩, ?_, h.n1, hn⟩, fun b o h1 h2 e => by rw [SlX.slH_ne h1 h2]; exact e⟩
  · unfold SlX.slH
    exact upd_same
  · unfold SlX.slH
    rw [upd_ne h.ne]
    exact upd_same
end
/-- a def that works at a walk -/
def spW (K : PySem.W.Frag) (C : Addr) (n : Nat) (m : D → D → List D → Option (D × D)) : Sp := fun vs H Q _ => ∃ (a dx : Addr) (chg row : D) (us : List V) (ds : List D) (q : D × D), vs = .ref a :: us ∧ us.length = n ∧ Wk K C H a dx chg row ∧ noObL ds = true ∧ DenL K H ds us ∧ m chg row ds = some q ∧
  ∀ H', FarA a dx H H' → Wk K C H' a dx q.1 q.2 → Q .non H'
def m_step (chg row : D) : List D → Option (D × D)
  | [c] => (z_form_led [row, c]).bind fun row' => (z_joined_in [chg, c]).bind fun chg' => if noOb row' = true ∧ noOb chg' = true then some (chg', row') else none
  | _ => none
abbrev kN : List Str := n_Walk_step
def kSc : Scope := defScope s_Walk_step
def t_step (A : Ads) : Tab := { consts := consts0, fns := [("form_led", 2, z_form_led), ("joined_in", 2, z_joined_in)], cls := clT A, slots := slT A }
theorem q_step0 (A : Ads) : cE (t_step A) kN kSc 40 (asgV (stA s_Walk_step 0)) = fCall (aCons (fAttr (slT A) "own_numbers" (fVar 0)) (aCons (fVar 1) aNil)) z_form_led := by kernel_rfl
theorem q_step1 (A : Ads) : cE (t_step A) kN kSc 40 (asgV (stA s_Walk_step 1)) = fCall (aCons (fAttr (slT A) "own_change" (fVar 0)) (aCons (fVar 1) aNil)) z_joined_in := by kernel_rfl
theorem slot_num {A : Ads} (h : A.CK ≠ A.CW) : slotIx (slT A) "own_numbers" A.CW = some 1 := by
  have e1 : decide (("own_coefficients" : Str) = "own_numbers") = false := by decide +kernel
  have e2 : decide (("own_change" : Str) = "own_numbers") = false := by decide +kernel
  simp [slotIx, slT, List.find?, e1, e2, h]
theorem slot_chg {A : Ads} : slotIx (slT A) "own_change" A.CW = some 0 := by
  have e1 : decide (("own_coefficients" : Str) = "own_change") = false := by decide +kernel
  have e2 : decide (("own_numbers" : Str) = "own_change") = false := by decide +kernel
  simp [slotIx, slT, List.find?, e1, e2]
def StepF (g : G) (A : Ads) (k : Nat) : Prop := ∃ (f : Addr), Meth g.K A.CW "step" f ∧ FnR g.P g.w g.K g.mg g.base CX0 k f (spW g.K A.CW 1 m_step)
theorem step_ok {g : G} {A : Ads} {k : Nat} (B : Base g) (O : Objs g A) (g1 : Got g (k + 1) "form_led" 2 z_form_led) (g2 : Got g (k + 1) "joined_in" 2 z_joined_in) : StepF g A (k + 2) := by
  obtain ⟨f, fd, hm, F⟩ := O.step
  have hbs : Binds g.K fd p_Walk_step [] := F.binds1 (ps := p_Walk_step) (fun kV doc pm an cdv ct us h => match us, h with | [_, _], _ => rfl)
  have ok : TabOk (g.ctx (k + 1) kN) (t_step A) := tab_okO B O (by decide) (.cons g1 (.cons g2 .nil)) .nil
  refine ⟨f, hm, ?_⟩
  have key : FnOk g.P g.w g.K g.mg g.base CX0 (k + 2) f fd p_Walk_step (spW g.K A.CW 1 m_step) := by
    obtain ⟨t1, p1, q1⟩ := (sound ok 40).e kSc true (asgV (stA s_Walk_step 0))
    obtain ⟨t2, p2, q2⟩ := (sound ok 40).e kSc true (asgV (stA s_Walk_step 1))
    rw [show cE (t_step A) (g.ctx (k + 1) kN).N kSc 40 (asgV (stA s_Walk_step 0)) = _ from q_step0 A] at q1
    rw [show cE (t_step A) (g.ctx (k + 1) kN).N kSc 40 (asgV (stA s_Walk_step 1)) = _ from q_step1 A] at q2
    obtain ⟨pn, sn⟩ := O.sWn
    obtain ⟨pc, sc⟩ := O.sWc
    refine def_sp (k := k + 1) F sc_Walk_step (fun vs H Q E q => ?_) fun X hX => ?_
    · obtain ⟨a, dx, chg, row, us, ds, q, rfl, hl, _⟩ := q
      rw [List.length_cons, hl]
      rfl
    have v0 : X.N[0]? = some ("self" : Str) := by rw [hX.N]; rfl
    have pself := fun (p : Pos) => pe_var (X := X) (pos := p) v0 (fam_vis hX (by decide +kernel)) (by decide) (by decide)
    have s1 : PS X (stA s_Walk_step 0) (SlX.sSl X.K (tVar 0) t1 "own_numbers") := SlX.ps_sl (pself _) (p1 X hX) (swaps_no rfl _ _ _)
    have s2 : PS X (stA s_Walk_step 1) (SlX.sSl X.K (tVar 0) t2 "own_change") := SlX.ps_sl (pself _) (p2 X hX) (swaps_no rfl _ _ _)
    refine ⟨_, pss_cons s1 (pss_cons s2 pss_nil), ?_⟩
    rintro vs H Q E ⟨a, dx, chg, row, us, ds, q, rfl, hl, hw, hn, hd, hm2, hQ⟩
    match us, ds, hl, hd, hn, hm2 with
    | [u], [c], _, hd, hn, hm2 =>
      obtain ⟨_, _, eu, hdc, _⟩ := hd
      cases eu
      have hnc : noOb c = true := by simpa [noObL] using hn
      have hm2 : ((z_form_led [row, c]).bind fun row' => (z_joined_in [chg, c]).bind fun chg' => if noOb row' = true ∧ noOb chg' = true then some (chg', row') else none) = some q := hm2
      rw [Option.bind_eq_some_iff] at hm2
      obtain ⟨row', e1, hm2⟩ := hm2
      rw [Option.bind_eq_some_iff] at hm2
      obtain ⟨chg', e2, hm2⟩ := hm2
      obtain ⟨⟨h1, h2⟩, rfl⟩ := if_some hm2
      have he : ∀ {H : Hp} {chg row : D}, Wk g.K A.CW H a dx chg row → Den g.K H c u → EnvD g.K H (L2.start kN [.ref a, u]) [some (.pt A.CW a dx [chg, row]), some c] := fun {H chg row} hw hc => ⟨rfl, fun i z q => by
        match i with
        | 0 => cases q; exact ⟨_, rfl, hw.den⟩
        | 1 => cases q; exact ⟨_, rfl, hc⟩
        | i + 2 => simp at q⟩
      refine q1 _ H _ row' _ (he hw hdc) ?_ fun w H2 s2 dw => ?_
      · simp [fCall, aCons, aNil, fAttr, fVar, fSlot, slot_num O.ne, e1]
      have hw2 := hw.same s2
      obtain ⟨x, y, ea, hw3, f3⟩ := hw2.put1 h1 dw
      refine ⟨.ref a, rfl, a, A.CW, dx, pn, _, 1, rfl, .inr ⟨ea, hw2.xd⟩, by rw [hX.K]; exact O.walk.cls, by rw [hX.K]; exact sn, ?_⟩
      have hc3 := Den.far (hw2.far f3) _ _ hnc (Den.same s2 _ _ hdc)
      refine q2 _ _ _ chg' _ (he hw3 hc3) ?_ fun z H4 s4 dz => ?_
      · simp [fCall, aCons, aNil, fAttr, fVar, fSlot, slot_chg, e2]
      have hw4 := hw3.same s4
      obtain ⟨x', y', ea', hw5, f5⟩ := hw4.put0 h2 dz
      refine ⟨.ref a, rfl, a, A.CW, dx, pc, _, 0, rfl, .inr ⟨ea', hw4.xd⟩, by rw [hX.K]; exact O.walk.cls, by rw [hX.K]; exact sc, ?_⟩
      exact hQ _ (((FarA.of s2).trans f3).trans ((FarA.of s4).trans f5)) hw5
  have := FnOk.raw key hbs (ds := []) (dvs := []) .nil
  exact this.imp fun vs H Q E q => by rw [List.append_nil]; exact q
end FR
end
section
set_option Elab.async false
set_option linter.all false
set_option maxRecDepth 100000
set_option maxHeartbeats 4000000
/-! Statements at a walk, compiled as functions of data. -/
namespace FR
open PySem PySem.Spec PyProof.Rows L2 DV
def restNo (δ : DEnv) : Bool := (δ.drop 1).all fun o => match o with
  | some d => noOb d
  | none => true
structure WE (K : PySem.W.Frag) (C a dx : Addr) (H : Hp) (σ : DV.St) (δ : DEnv) : Prop where
  env : EnvD K H σ δ
  wk : ∃ chg row, δ[0]? = some (some (.pt C a dx [chg, row])) ∧ Wk K C H a dx chg row
  rest : restNo δ = true
section
variable {K : PySem.W.Frag} {C a dx : Addr} {H H' : Hp} {σ : DV.St} {δ δ' : DEnv}
theorem Wk.of_den {c r : D} {v : V} (h : Den K H (.pt C a dx [c, r]) v) (n1 : noOb c = true) (n2 : noOb r = true) (ne : dx ≠ a) : Wk K C H a dx c r := by
  obtain ⟨vs, rfl, hs, hd⟩ := h
  obtain ⟨u, w, rfl, d1, d2⟩ := hd.two
  rcases hs with ⟨_, z⟩ | ⟨h1, h2⟩
  · cases z
  · exact ⟨ne, ⟨u, w, h1, d1, d2⟩, h2, n1, n2⟩
theorem rest_get (h : restNo δ = true) {i : Nat} {d : D} (e : δ[i + 1]? = some (some d)) : noOb d = true := by
  unfold restNo at h
  have m : some d ∈ δ.drop 1 := by
    rw [List.mem_iff_getElem?]
    exact ⟨i, by rw [List.getElem?_drop, Nat.add_comm 1 i]; exact e⟩
  exact List.all_eq_true.mp h (some d) m
/-- the walk has changed, the rest stands -/
theorem WE.move {c r : D} (h : WE K C a dx H σ δ) (f : FarA a dx H H') (w : Wk K C H' a dx c r) : WE K C a dx H' σ (δ.set 0 (some (.pt C a dx [c, r]))) := by
  obtain ⟨chg, row, e0, w0⟩ := h.wk
  have hlt : 0 < δ.length := by
    cases δ with
    | nil => cases e0
    | cons _ _ => exact Nat.succ_pos _
  refine ⟨⟨by rw [List.length_set]; exact h.env.1, fun i d q => ?_⟩, ⟨c, r, List.getElem?_set_self hlt, w⟩, ?_⟩
  · match i with
    | 0 =>
      rw [List.getElem?_set_self hlt] at q
      cases q
      obtain ⟨v, e1, dv⟩ := h.env.2 0 _ e0
      obtain ⟨_, rfl, _⟩ := dv
      exact ⟨_, e1, w.den⟩
    | i + 1 =>
      rw [List.getElem?_set_ne (by omega)] at q
      obtain ⟨v, e1, dv⟩ := h.env.2 _ _ q
      exact ⟨v, e1, Den.far (w0.far f) _ _ (rest_get h.rest q) dv⟩
  · have hr := h.rest
    unfold restNo at hr ⊢
    cases δ with
    | nil => cases e0
    | cons _ _ => exact hr
end
abbrev FW := DEnv → Option DEnv
def sameW (δ δ' : DEnv) : Bool := match (δ[0]? : Option (Option D)), (δ'[0]? : Option (Option D)) with
  | some (some (.pt C a dx _)), some (some (.pt C' a' dx' [c, r])) => decide (C' = C) && decide (a' = a) && decide (dx' = dx) && noOb c && noOb r && restNo δ'
  | _, _ => false
def wPure (f : FS) : FW := fun δ => (f δ).bind fun o => match o with
  | .nx δ' => if sameW δ δ' = true then some δ' else none
  | .rt _ => none
def wStep (fe : DEnv → Option D) : FW := fun δ => (fe δ).bind fun c => match (δ[0]? : Option (Option D)) with
  | some (some (.pt C a dx [chg, row])) => if noOb c = true then (m_step chg row [c]).bind fun q => some (δ.set 0 (some (.pt C a dx [q.1, q.2]))) else none
  | _ => none
def wIf (t : DEnv → Option Bool) (f g : FW) : FW := fun δ => (t δ).bind fun c => if c = true then f δ else g δ
def wSeq (f g : FW) : FW := fun δ => (f δ).bind g
def wNil : FW := fun δ => some δ
def wWhile (t : DEnv → Option Bool) (b : FW) : Nat → FW
  | 0, _ => none
  | n + 1, δ => (t δ).bind fun c => if c = true then (b δ).bind (wWhile t b n) else some δ
section
variable (F : Cx → Prop) (K : PySem.W.Frag) (C : Addr)
def Sw (st : Stmt) (f : FW) : Prop := ∃ t : TS, (∀ X, F X → PS X st t) ∧ ∀ a dx σ H δ δ' D, WE K C a dx H σ δ → f δ = some δ' → (∀ σ' H', FarA a dx H H' → WE K C a dx H' σ' δ' → D.nx σ' H') → t D σ H
def Sws (sts : List Stmt) (f : FW) : Prop := ∃ t : TS, (∀ X, F X → PSs X sts t) ∧ ∀ a dx σ H δ δ' D, WE K C a dx H σ δ → f δ = some δ' → (∀ σ' H', FarA a dx H H' → WE K C a dx H' σ' δ' → D.nx σ' H') → t D σ H
end
section
variable {F : Cx → Prop} {K : PySem.W.Frag} {C : Addr} {st : Stmt} {sts : List Stmt} {f g : FW} {pos : Pos}
theorem Sw.pure {f : FS} (h : SS F K st f) : Sw F K C st (wPure f) := by
  obtain ⟨t, p, q⟩ := h
  refine ⟨t, p, fun a dx σ H δ δ' D hw hf hn => ?_⟩
  unfold wPure at hf
  rw [Option.bind_eq_some_iff] at hf
  obtain ⟨o, e1, hf⟩ := hf
  refine q σ H δ o _ hw.env e1 ?_
  cases o with
  | rt d => cases hf
  | nx δ1 =>
    obtain ⟨hs, rfl⟩ := if_some (show (if sameW δ δ1 = true then some δ1 else none) = some δ' from hf)
    intro σ1 H1 s1 he1
    refine hn σ1 H1 (FarA.of s1) ⟨he1, ?_, ?_⟩
    · obtain ⟨chg, row, e0, w0⟩ := hw.wk
      unfold sameW at hs
      rw [e0] at hs
      split at hs
      · rename_i h1 h2
        cases h1
        simp only [Bool.and_eq_true, decide_eq_true_eq] at hs
        obtain ⟨⟨⟨⟨⟨rfl, rfl⟩, rfl⟩, n1⟩, n2⟩, n3⟩ := hs
        obtain ⟨v, _, dv⟩ := he1.2 0 _ h2
        exact ⟨_, _, h2, Wk.of_den dv n1 n2 w0.ne⟩
      · cases hs
    · unfold sameW at hs
      split at hs
      · simp only [Bool.and_eq_true] at hs
        exact hs.2
      · cases hs
theorem Sws.nil : Sws F K C [] wNil := ⟨tNext, fun _ _ => pss_nil, fun a dx σ H δ δ' D hw hf hn => by
  cases hf
  exact hn σ H FarA.refl hw⟩
theorem Sws.cons (h : Sw F K C st f) (k : Sws F K C sts g) : Sws F K C (st :: sts) (wSeq f g) := by
  obtain ⟨t, p, q⟩ := h
  obtain ⟨t', p', q'⟩ := k
  refine ⟨tSeq t t', fun X hX => pss_cons (p X hX) (p' X hX), fun a dx σ H δ δ' D hw hf hn => ?_⟩
  unfold wSeq at hf
  rw [Option.bind_eq_some_iff] at hf
  obtain ⟨δ1, e1, e2⟩ := hf
  exact q a dx σ H δ δ1 _ hw e1 fun σ1 H1 f1 w1 => q' a dx σ1 H1 δ1 δ' _ w1 e2 fun σ2 H2 f2 w2 => hn σ2 H2 (f1.trans f2) w2
theorem WE.same {a dx : Addr} {H H' : Hp} {σ : DV.St} {δ : DEnv} (h : WE K C a dx H σ δ) (s : Same H H') : WE K C a dx H' σ δ := by
  obtain ⟨c, r, e, w⟩ := h.wk
  exact ⟨h.env.same s, ⟨c, r, e, w.same s⟩, h.rest⟩
theorem Sw.ite {c : Expr} {a b : List Stmt} {p : DEnv → Option Bool} (hc : ST F K c p) (ha : Sws F K C a f) (hb : Sws F K C b g) : Sw F K C (.If c a b pos) (wIf p f g) := by
  obtain ⟨t, u, v⟩ := hc
  obtain ⟨ta, ua, va⟩ := ha
  obtain ⟨tb, ub, vb⟩ := hb
  refine ⟨tIfS t ta tb, fun X hX => ps_if (u X hX) (ua X hX) (ub X hX), fun a dx σ H δ δ' D hw hf hn => ?_⟩
  unfold wIf at hf
  rw [Option.bind_eq_some_iff] at hf
  obtain ⟨c1, e1, e2⟩ := hf
  refine v σ H δ c1 _ hw.env e1 fun H1 s1 => ?_
  cases c1 with
  | true => exact va a dx σ H1 δ δ' _ (hw.same s1) e2 fun σ2 H2 f2 w2 => hn σ2 H2 ((FarA.of s1).trans f2) w2
  | false => exact vb a dx σ H1 δ δ' _ (hw.same s1) e2 fun σ2 H2 f2 w2 => hn σ2 H2 ((FarA.of s1).trans f2) w2
theorem Sw.while {c : Expr} {body : List Stmt} {p : DEnv → Option Bool} {n : Nat} (hp : ∀ X, F X → PassesOwn (model X.prog X.w) X.A X.env X.xe) (hc : ST F K c p) (hb : Sws F K C body f) : Sw F K C (.While c body [] pos) (wWhile p f n) := by
  obtain ⟨t, u, v⟩ := hc
  obtain ⟨tb, ub, vb⟩ := hb
  refine ⟨tWhile t tb, fun X hX => ps_while (hp X hX) (u X hX) (ub X hX), fun a dx σ H δ δ' D hw hf hn => ?_⟩
  refine ⟨fun m σ1 H1 => FarA a dx H H1 ∧ ∃ δ1, WE K C a dx H1 σ1 δ1 ∧ wWhile p f m δ1 = some δ', ⟨n, FarA.refl, δ, hw, hf⟩, ?_⟩
  rintro m σ1 H1 ⟨f1, δ1, w1, hf1⟩
  cases m with
  | zero => cases hf1
  | succ m =>
    unfold wWhile at hf1
    rw [Option.bind_eq_some_iff] at hf1
    obtain ⟨c1, e1, e2⟩ := hf1
    refine v σ1 H1 δ1 c1 _ w1.env e1 fun H2 s2 => ?_
    cases c1 with
    | true =>
      have e2 : (f δ1).bind (wWhile p f m) = some δ' := e2
      rw [Option.bind_eq_some_iff] at e2
      obtain ⟨δ2, e3, e4⟩ := e2
      rw [if_pos rfl]
      refine ⟨fun σ3 H3 => FarA a dx H H3 ∧ ∃ δ2, WE K C a dx H3 σ3 δ2 ∧ wWhile p f m δ2 = some δ', fun σ3 H3 h => ⟨m, Nat.lt_succ_self _, h⟩, ?_⟩
      exact vb a dx σ1 H2 δ1 δ2 _ (w1.same s2) e3 fun σ3 H3 f3 w3 => ⟨f1.trans ((FarA.of s2).trans f3), δ2, w3, e4⟩
    | false =>
      have e2 : some δ1 = some δ' := e2
      cases e2
      rw [if_neg (by decide)]
      exact hn σ1 H2 (f1.trans (FarA.of s2)) (w1.same s2)
theorem Sw.step {e : Expr} {x : Str} {p1 p2 p3 : Pos} {fe : DEnv → Option D} {k : Nat} {gf : Addr} (hX : ∀ X, F X → X.K = K ∧ X.N[0]? = some x ∧ Vis X.env.scope x ∧ SlX.SCls K C ∧ Meth K C "step" gf ∧ FnR X.prog X.w X.K X.mg X.base CX0 k gf (spW K C 1 m_step) ∧ Room k X.A) (h1 : (x == ("__debug__" : Str)) = false) (h2 : (x == ("__classdict__" : Str)) = false)
    (hs : isStar e = false) {pl : PySem.Env → Sem Bool} (ht : ∀ X, F X → eval (.Call (.Attribute (.Name x p1) "step" p2) [e] [] p3) X.env = (do
      let ov ← eval (.Name x p1) X.env
      standAt p2.atName
      let (f, first) ← holding [ov] (getMethod ov "step" (pl X.env))
      callWith p3 f first (backTo p3 (starEach [e] X.env)) (backToKw p3 (keywordEach [] X.env)))) (he : SE F K e fe) : Sw F K C (.Expr (.Call (.Attribute (.Name x p1) "step" p2) [e] [] p3) pos) (wStep fe) := by
  obtain ⟨t, u, v⟩ := he
  refine ⟨tDrop (SlX.tMethSl C (spW K C 1 m_step) E0 (tVar 0) (tCons t tNil)), fun X hx => ?_, fun a dx σ H δ δ' D hw hf hn => ?_⟩
  · obtain ⟨e0, e1, e2, e3, e4, e5, e6⟩ := hX X hx
    subst e0
    exact ps_expr (SlX.pe_methSl (pe_var e1 e2 h1 h2) e3 e4 e5 e6 pass0 (pa_cons (u X hx) pa_nil (star_cons hs _ _)) (star_cons hs _ _) (star_none (by rfl)) (ht X hx)) (swaps_none rfl)
  · unfold wStep at hf
    rw [Option.bind_eq_some_iff] at hf
    obtain ⟨c, e1, hf⟩ := hf
    obtain ⟨chg, row, e0, w0⟩ := hw.wk
    rw [e0] at hf
    obtain ⟨hno, hf⟩ : noOb c = true ∧ ((m_step chg row [c]).bind fun q => some (δ.set 0 (some (.pt C a dx [q.1, q.2])))) = some δ' := by
      have hf : (if noOb c = true then (m_step chg row [c]).bind fun q => some (δ.set 0 (some (.pt C a dx [q.1, q.2]))) else none) = some δ' := hf
      split at hf
      · exact ⟨by assumption, hf⟩
      · cases hf
    rw [Option.bind_eq_some_iff] at hf
    obtain ⟨q, e2, hf⟩ := hf
    cases hf
    obtain ⟨z, ez, dz⟩ := hw.env.2 0 _ e0
    obtain ⟨_, rfl, _⟩ := dz
    refine ⟨.ref a, ez, a, dx, ?_⟩
    obtain ⟨x1, w1, ea, d1, d2⟩ := w0.ex
    refine ⟨_, rfl, .inr ⟨ea, w0.xd⟩, ?_⟩
    refine v σ H δ c _ hw.env e1 fun w H1 s1 dw => ?_
    exact ⟨a, dx, chg, row, [w], [c], q, rfl, rfl, w0.same s1, by simp [noObL, hno], DenL.cons dw DenL.nil, e2, fun H2 f2 w2 => hn σ H2 ((FarA.of s1).trans f2) (hw.move ((FarA.of s1).trans f2) w2)⟩
end
end FR
end
section
set_option Elab.async false
set_option linter.all false
set_option maxRecDepth 100000
set_option maxHeartbeats 4000000
/-! lead_with_root, lead_without_root. -/
namespace FR
open PySem PySem.Spec PyProof.Rows L2 DV
abbrev lN : List Str := n_lead_with_root
def lSc : Scope := defScope s_lead_with_root
def t_lwr (A : Ads) : Tab := { consts := consts0, fns := [("end_change", 1, f_end_change)], cls := clT A, slots := slT A }
def r_lead_with_root (A : Ads) : FW := (wSeq (wStep (fCall (aCons (fVar 1) aNil) f_end_change)) (wSeq (wIf (fT (f2 (cmpD .Lt) (f2 ixD (fAttr (slT A) "own_numbers" (fVar 0)) (fConst (.int 1))) (fConst (.int 0)))) (wSeq (wStep (fConst (ch (-1) 0 0 1))) wNil) wNil) (wSeq (wPure (sPar2 2 3 (aCons (f2 ixD (fAttr (slT A) "own_numbers" (fVar 0)) (fConst (.int 1))) (aCons (f2 ixD (fAttr (slT A) "own_numbers" (fVar 0)) (fConst (.int 2))) aNil)))) (wSeq (wPure (sSet 4 (fNeg (f2 (binD .FloorDiv) (f2 (binD .Sub) (f2 (binD .Add) (fVar 3) (fVar 2)) (fConst (.int 1))) (f2 (binD .Mult) (fConst (.int 2)) (fVar 2)))))) (wSeq (wIf (fT (f2 (cmpD .NotEq) (fVar 4) (fConst (.int 0)))) (wSeq (wStep (fTup (aCons (fTup (aCons (fConst (.int 1)) (aCons (fConst (.int 0)) aNil))) (aCons (fTup (aCons (fVar 4) (aCons (fConst (.int 1)) aNil))) aNil)))) wNil) wNil) (wSeq (wIf (fT (f2 (cmpD .Lt) (f2 ixD (fAttr (slT A) "own_numbers" (fVar 0)) (fConst (.int 2))) (fConst (.int 0)))) (wSeq (wStep (fConst (ch 1 0 0 (-1)))) wNil) wNil) wNil))))))
/-- what a step asks -/
structure StepX (g : G) (A : Ads) (k : Nat) (N : List Str) (sc : Scope) : Prop where
  n0 : N[0]? = some ("walk" : Str)
  vis : isVar (sc.names.lookup ("walk" : Str)) = true
theorem sw_step {g : G} {A : Ads} {k : Nat} {N : List Str} {sc : Scope} {e : Expr} {p1 p2 p3 pos : Pos} {fe : DEnv → Option D} (O : Objs g A) (S : StepF g A k) (h : StepX g A k N sc) (hs : isStar e = false) {pl : PySem.Env → Sem Bool} (ht : ∀ env : PySem.Env, eval (.Call (.Attribute (.Name "walk" p1) "step" p2) [e] [] p3) env = (do
      let ov ← eval (.Name "walk" p1) env
      standAt p2.atName
      let (f, first) ← holding [ov] (getMethod ov "step" (pl env))
      callWith p3 f first (backTo p3 (starEach [e] env)) (backToKw p3 (keywordEach [] env)))) (he : SE (Fam (g.ctx k N) sc true) g.K e fe) : Sw (Fam (g.ctx k N) sc true) g.K A.CW (.Expr (.Call (.Attribute (.Name "walk" p1) "step" p2) [e] [] p3) pos) (wStep fe) := by
  obtain ⟨gf, hm, F⟩ := S
  exact Sw.step (gf := gf) (k := k) (fun X hX => ⟨hX.K, by rw [hX.N]; exact h.n0, fam_vis hX h.vis, O.walk.cls, hm, by rw [hX.P, hX.w, hX.K, hX.mg, hX.base]; exact F, hX.room⟩) (by decide) (by decide) hs (pl := pl) (fun X _ => ht X.env) he
theorem lwr_sws {g : G} {A : Ads} {k : Nat} (B : Base g) (O : Objs g A) (S : StepF g A (k + 1)) (g1 : Got g (k + 1) "end_change" 1 f_end_change) : Sws (Fam (g.ctx (k + 1) lN) lSc true) g.K A.CW (defBody s_lead_with_root) (r_lead_with_root A) := by
  have ok : TabOk (g.ctx (k + 1) lN) (t_lwr A) := tab_okO B O (by decide) (.cons g1 .nil) .nil
  have hx : StepX g A (k + 1) lN lSc := ⟨rfl, by decide +kernel⟩
  have E := fun e => (sound ok 40).e lSc true e
  have Tt := fun e => (sound ok 40).t lSc true e
  have St := fun st => (soundS ok lSc 40).s st
  have h : Sws (Fam (g.ctx (k + 1) lN) lSc true) g.K A.CW (defBody s_lead_with_root) _ :=
    Sws.cons (sw_step O S hx rfl (fun _ => rfl) (E _)) (Sws.cons (Sw.ite (Tt _) (Sws.cons (sw_step O S hx rfl (fun _ => rfl) (E _)) Sws.nil) Sws.nil) (Sws.cons (Sw.pure (St _)) (Sws.cons (Sw.pure (St _))
      (Sws.cons (Sw.ite (Tt _) (Sws.cons (sw_step O S hx rfl (fun _ => rfl) (E _)) Sws.nil) Sws.nil) (Sws.cons (Sw.ite (Tt _) (Sws.cons (sw_step O S hx rfl (fun _ => rfl) (E _)) Sws.nil) Sws.nil) Sws.nil)))))
  refine cast (congrArg (Sws (Fam (g.ctx (k + 1) lN) lSc true) g.K A.CW (defBody s_lead_with_root)) ?_) h
  kernel_rfl
/-! ### lead_without_root -/
abbrev oN : List Str := n_lead_without_root
def oSc : Scope := defScope s_lead_without_root
def t_lwo (A : Ads) : Tab := { consts := consts0, fns := [("is_between", 1, z_is_between), ("is_small", 1, z_is_small), ("best_shift", 1, f_best_shift)], cls := clT A, slots := slT A }
def oTest (A : Ads) : DEnv → Option Bool := tOr2 (tNot1 (fT (fCall (aCons (fAttr (slT A) "own_numbers" (fVar 0)) aNil) z_is_small))) (tNot1 (fT (fCall (aCons (fAttr (slT A) "own_numbers" (fVar 0)) aNil) z_is_between)))
def oNeg (A : Ads) : FW := (wIf (fT (f2 (cmpD .Lt) (f2 ixD (fAttr (slT A) "own_numbers" (fVar 0)) (fConst (.int 0))) (fConst (.int 0)))) (wSeq (wStep (fConst (ch (-1) 0 0 (-1)))) wNil) wNil)
def oBody (A : Ads) : FW := (wSeq (wPure (sSet 5 (fCall (aCons (fAttr (slT A) "own_numbers" (fVar 0)) aNil) f_best_shift))) (wSeq (wIf (fT (f2 (cmpD .NotEq) (fVar 5) (fConst (.int 0)))) (wSeq (wStep (fTup (aCons (fTup (aCons (fConst (.int 1)) (aCons (fConst (.int 0)) aNil))) (aCons (fTup (aCons (fVar 5) (aCons (fConst (.int 1)) aNil))) aNil)))) wNil) wNil) (wSeq (wIf (tNot1 (fT (fCall (aCons (fAttr (slT A) "own_numbers" (fVar 0)) aNil) z_is_small))) (wSeq (wStep (fConst (ch 0 1 (-1) 0))) (wSeq (oNeg A) wNil)) wNil) wNil)))
def oEnd (A : Ads) : FW := (wSeq (wPure (sAsg (fAttr (slT A) "own_numbers" (fVar 0)) (gTupL 4 (gMore (gVar 1) (gMore (gVar 2) (gMore (gVar 3) (gMore (gVar 4) gNone))))))) (wSeq (wIf (tOr2 (fT (f2 (cmpD .Lt) (fVar 2) (fConst (.int 0)))) (tAnd2 (fT (f2 (cmpD .Eq) (fVar 2) (fConst (.int 0)))) (fT (f2 (cmpD .Lt) (fVar 4) (fConst (.int 0)))))) (wSeq (wStep (fConst (ch (-1) 0 0 1))) wNil) wNil) wNil))
def r_lead_without_root (A : Ads) : FW := wSeq (oNeg A) (wSeq (wWhile (oTest A) (oBody A) fuelW) (oEnd A))
theorem lwo_sws {g : G} {A : Ads} {k : Nat} (B : Base g) (O : Objs g A) (S : StepF g A (k + 1)) (g1 : Got g (k + 1) "is_between" 1 z_is_between) (g2 : Got g (k + 1) "is_small" 1 z_is_small) (g3 : Got g (k + 1) "best_shift" 1 f_best_shift) : Sws (Fam (g.ctx (k + 1) oN) oSc true) g.K A.CW (defBody s_lead_without_root) (r_lead_without_root A) := by
  have ok : TabOk (g.ctx (k + 1) oN) (t_lwo A) := tab_okO B O (by decide) (.cons g1 (.cons g2 (.cons g3 .nil))) .nil
  have hx : StepX g A (k + 1) oN oSc := ⟨rfl, by decide +kernel⟩
  have E := fun e => (sound ok 40).e oSc true e
  have Tt := fun e => (sound ok 40).t oSc true e
  have St := fun st => (soundS ok oSc 40).s st
  have h : Sws (Fam (g.ctx (k + 1) oN) oSc true) g.K A.CW (defBody s_lead_without_root) _ :=
    Sws.cons (Sw.ite (Tt _) (Sws.cons (sw_step O S hx rfl (fun _ => rfl) (E _)) Sws.nil) Sws.nil) (Sws.cons (Sw.while (n := fuelW) (fun X hX => hX.po) (Tt _)
      (Sws.cons (Sw.pure (St _)) (Sws.cons (Sw.ite (Tt _) (Sws.cons (sw_step O S hx rfl (fun _ => rfl) (E _)) Sws.nil) Sws.nil)
        (Sws.cons (Sw.ite (Tt _) (Sws.cons (sw_step O S hx rfl (fun _ => rfl) (E _)) (Sws.cons (Sw.ite (Tt _) (Sws.cons (sw_step O S hx rfl (fun _ => rfl) (E _)) Sws.nil) Sws.nil) Sws.nil)) Sws.nil) Sws.nil))))
      (Sws.cons (Sw.pure (St _)) (Sws.cons (Sw.ite (Tt _) (Sws.cons (sw_step O S hx rfl (fun _ => rfl) (E _)) Sws.nil) Sws.nil) Sws.nil)))
  refine cast (congrArg (Sws (Fam (g.ctx (k + 1) oN) oSc true) g.K A.CW (defBody s_lead_without_root)) ?_) h
  kernel_rfl
/-! ### the promise -/
def MW (A : Ads) (f : FW) (n : Nat) (m : D → D → List D → Option (D × D)) : Prop := ∀ a dx chg row ds q, m chg row ds = some q → ∃ δ', f (some (.pt A.CW a dx [chg, row]) :: (ds.map some ++ List.replicate n none)) = some δ' ∧ δ'[0]? = some (some (.pt A.CW a dx [q.1, q.2]))
theorem lead_ok {g : G} {A : Ads} {k : Nat} {x : Str} {st : Stmt} {N : List Str} {p : Str} {ps : List Str} {f : FW} {m : D → D → List D → Option (D × D)} (h : ∃ f fd, Has g x st f fd) (S : FnScope N (p :: ps) (defScope st)) (hb : Bnd st x x (p :: ps)) (hs : Sws (Fam (g.ctx k N) (defScope st) true) g.K A.CW (defBody st) f) (hm : MW A f (N.length - (ps.length + 1)) m) :
    SpO g (k + 1) x (ps.length + 1) (spW g.K A.CW ps.length m) := by
  obtain ⟨fa, fd, h⟩ := h
  obtain ⟨t, pt, qt⟩ := hs
  refine ⟨fa, fd, p :: ps, rfl, h.mg, h.kp, h.fn.binds1 hb, def_sp h.fn S (fun vs H Q E q => ?_) fun X hX => ⟨t, pt X hX, ?_⟩⟩
  · obtain ⟨a, dx, chg, row, us, ds, q, rfl, hl, _⟩ := q
    rw [List.length_cons, List.length_cons, hl]
  · rintro vs H Q E ⟨a, dx, chg, row, us, ds, q, rfl, hl, hw, hn, hd, hmq, hQ⟩
    obtain ⟨δ', e1, e2⟩ := hm a dx chg row ds q hmq
    have hpl : ps.length + 1 ≤ N.length := by
      have z := congrArg List.length S.pre
      rw [List.length_take, List.length_cons] at z
      omega
    have hl2 : ds.length = ps.length := by rw [← hd.length]; exact hl
    have he := env_start (N := N) (DenL.cons hw.den hd) (by rw [List.length_cons, hl2]; exact hpl)
    rw [List.length_cons, hl2] at he
    refine qt a dx _ H _ δ' _ ⟨he, ⟨chg, row, rfl, hw⟩, ?_⟩ e1 fun σ' H' f' w' => ?_
    · show List.all (ds.map some ++ List.replicate _ none) _ = true
      rw [List.all_append, List.all_map, Bool.and_eq_true]
      refine ⟨?_, by simp⟩
      have : ∀ ds : List D, noObL ds = true → ds.all ((fun o => match o with
        | some d => noOb d
        | none => true) ∘ some) = true := fun ds => by
        induction ds with
        | nil => exact fun _ => rfl
        | cons d ds ih =>
          intro hh
          have hh' : noOb d = true ∧ noObL ds = true := by simpa [noObL] using hh
          rw [List.all_cons, ih hh'.2]
          simpa using hh'.1
      exact this ds hn
    · obtain ⟨c2, r2, e3, w3⟩ := w'.wk
      rw [e2] at e3
      cases e3
      exact hQ H' f' w3
end FR
end
section
set_option Elab.async false
set_option linter.all false
set_option maxRecDepth 100000
set_option maxHeartbeats 4000000
/-! The leads, typed. -/
namespace FR
open PySem PySem.Spec PyProof.Rows L2 DV
abbrev W4 := Q4 × Q4
def stp (s : W4) (c : Q4) : Option W4 := if Sm4 s.1 ∧ Sm4 c ∧ Sm (det4 c) ∧ Sm4 s.2 then some (led4 s.1 c, join4 s.2 c) else none
def ptW (A : Ads) (a dx : Addr) (s : W4) : D := .pt A.CW a dx [encC s.2, enc4 s.1]
theorem stp_enc {s s' : W4} {c : Q4} (h : stp s c = some s') : m_step (encC s.2) (enc4 s.1) [encC c] = some (encC s'.2, enc4 s'.1) := by
  unfold stp at h
  obtain ⟨⟨h1, h2, h3, h4⟩, rfl⟩ := if_some h
  have e1 : z_form_led [enc4 s.1, encC c] = some (enc4 (led4 s.1 c)) := by
    show (if Sm4 s.1 ∧ Sm4 c ∧ Sm (det4 c) then some (enc4 (led4 s.1 c)) else none) = _
    rw [if_pos ⟨h1, h2, h3⟩]
  have e2 : z_joined_in [encC s.2, encC c] = some (encC (join4 s.2 c)) := by
    show (if Sm4 s.2 then some (encC (join4 s.2 c)) else none) = _
    rw [if_pos h4]
  show ((z_form_led [enc4 s.1, encC c]).bind fun row' => (z_joined_in [encC s.2, encC c]).bind fun chg' => if noOb row' = true ∧ noOb chg' = true then some (chg', row') else none) = _
  rw [e1, e2]
  rfl
section
variable {A : Ads} {a dx : Addr} {s s' : W4} {r : DEnv} {fe : DEnv → Option D} {c : Q4}
theorem wStep_enc (hc : fe (some (ptW A a dx s) :: r) = some (encC c)) (h : stp s c = some s') : wStep fe (some (ptW A a dx s) :: r) = some (some (ptW A a dx s') :: r) := by
  unfold wStep
  rw [hc]
  show (if noOb (encC c) = true then (m_step (encC s.2) (enc4 s.1) [encC c]).bind fun q => some ((some (ptW A a dx s) :: r).set 0 (some (.pt A.CW a dx [q.1, q.2]))) else none) = _
  rw [stp_enc h]
  rfl
theorem attr_num (h : A.CK ≠ A.CW) : fAttr (slT A) "own_numbers" (fVar 0) (some (ptW A a dx s) :: r) = some (enc4 s.1) := by
  show (slotIx (slT A) "own_numbers" A.CW).bind _ = _
  rw [slot_num h]
  rfl
theorem same_ptW {r r' : DEnv} (h : restNo (none :: r') = true) : sameW (some (ptW A a dx s) :: r) (some (ptW A a dx s') :: r') = true := by
  show (decide (A.CW = A.CW) && decide (a = a) && decide (dx = dx) && noOb (encC s'.2) && noOb (enc4 s'.1) && restNo (some (ptW A a dx s') :: r')) = true
  have h2 : restNo (some (ptW A a dx s') :: r') = true := h
  rw [h2]
  simp
  exact ⟨rfl, rfl⟩
end
/-- a lead by a place: the first change is given -/
def leadRoot (s : W4) (c0 : Q4) : Option W4 := (stp s c0).bind fun s1 => (if s1.1.2.1 < 0 then stp s1 (-1, 0, 0, 1) else some s1).bind fun s2 =>
  if divOk (s2.1.2.2.1 + s2.1.2.1 - 1) (2 * s2.1.2.1) = true then
    (if -((s2.1.2.2.1 + s2.1.2.1 - 1).fdiv (2 * s2.1.2.1)) ≠ 0 then stp s2 (1, 0, -((s2.1.2.2.1 + s2.1.2.1 - 1).fdiv (2 * s2.1.2.1)), 1) else some s2).bind fun s3 => if s3.1.2.2.1 < 0 then stp s3 (1, 0, 0, -1) else some s3
  else none
def m_lwr (chg row : D) : List D → Option (D × D)
  | [.tup [.int x, .int y]] => (decC chg).bind fun c => (dec4 row).bind fun f => ((f_end_change [.tup [.int x, .int y]]).bind decC).bind fun c0 => (leadRoot (f, c) c0).bind fun s => some (encC s.2, enc4 s.1)
  | _ => none
theorem wIf_neg {A : Ads} {a dx : Addr} {s s' : W4} {r : DEnv} {i : Nat} {j : Int} {c : Q4} {fe : DEnv → Option D} (h : A.CK ≠ A.CW) (hi : [D.int s.1.1, .int s.1.2.1, .int s.1.2.2.1, .int s.1.2.2.2][i]? = some (.int j)) (hx : ixN 4 i = some i) (hc : ∀ r, fe r = some (encC c)) (hs : (if j < 0 then stp s c else some s) = some s') :
    wIf (fT (f2 (cmpD .Lt) (f2 ixD (fAttr (slT A) "own_numbers" (fVar 0)) (fConst (.int i))) (fConst (.int 0)))) (wSeq (wStep fe) wNil) wNil (some (ptW A a dx s) :: r) = some (some (ptW A a dx s') :: r) := by
  have e1 : fT (f2 (cmpD .Lt) (f2 ixD (fAttr (slT A) "own_numbers" (fVar 0)) (fConst (.int i))) (fConst (.int 0))) (some (ptW A a dx s) :: r) = some (decide (j < 0)) := by
    unfold fT f2
    rw [attr_num h]
    show ((((ixD (enc4 s.1) (.int i)).bind fun x => cmpD .Lt x (.int 0))).bind asB) = _
    have : ixD (enc4 s.1) (.int i) = some (.int j) := by
      show (ixN 4 i).bind (fun k => [D.int s.1.1, .int s.1.2.1, .int s.1.2.2.1, .int s.1.2.2.2][k]?) = _
      rw [hx]
      exact hi
    rw [this]
    rfl
  unfold wIf
  rw [e1]
  by_cases hj : j < 0
  · rw [if_pos hj] at hs
    show (if decide (j < 0) = true then _ else _) = _
    rw [if_pos (decide_eq_true hj)]
    unfold wSeq
    rw [wStep_enc (hc _) hs]
    rfl
  · rw [if_neg hj] at hs
    cases hs
    show (if decide (j < 0) = true then _ else _) = _
    rw [if_neg (by simpa using hj)]
    rfl
theorem wSeq_eq {f g : FW} {δ δ1 : DEnv} (h : f δ = some δ1) : wSeq f g δ = g δ1 := by
  unfold wSeq
  rw [h]
  rfl
theorem wPure_eq {f : FS} {δ δ1 : DEnv} (h : f δ = some (.nx δ1)) (k : sameW δ δ1 = true) : wPure f δ = some δ1 := by
  unfold wPure
  rw [h]
  show (if sameW δ δ1 = true then some δ1 else none) = _
  rw [if_pos k]
theorem num_ix {A : Ads} {a dx : Addr} {s : W4} {r : DEnv} {i : Nat} {j : Int} (h : A.CK ≠ A.CW) (hi : [D.int s.1.1, .int s.1.2.1, .int s.1.2.2.1, .int s.1.2.2.2][i]? = some (.int j)) (hx : ixN 4 i = some i) : f2 ixD (fAttr (slT A) "own_numbers" (fVar 0)) (fConst (.int i)) (some (ptW A a dx s) :: r) = some (.int j) := by
  unfold f2
  rw [attr_num h]
  show (ixN 4 i).bind (fun k => [D.int s.1.1, .int s.1.2.1, .int s.1.2.2.1, .int s.1.2.2.2][k]?) = _
  rw [hx]
  exact hi
theorem mw_lwr (A : Ads) (h : A.CK ≠ A.CW) : MW A (r_lead_with_root A) 3 m_lwr := by
  intro a dx chg row ds q hm
  unfold m_lwr at hm
  split at hm <;> try (cases hm; done)
  rename_i x y
  rw [Option.bind_eq_some_iff] at hm
  obtain ⟨c, ec, hm⟩ := hm
  rw [Option.bind_eq_some_iff] at hm
  obtain ⟨f, ef, hm⟩ := hm
  rw [Option.bind_eq_some_iff] at hm
  obtain ⟨c0, e0, hm⟩ := hm
  rw [Option.bind_eq_some_iff] at hm
  obtain ⟨s4, e4, hm⟩ := hm
  cases hm
  rw [decC_ok ec, dec4_ok ef]
  rw [Option.bind_eq_some_iff] at e0
  obtain ⟨d0, e0, e0'⟩ := e0
  rw [decC_ok e0'] at e0
  unfold leadRoot at e4
  rw [Option.bind_eq_some_iff] at e4
  obtain ⟨s1, e1, e4⟩ := e4
  rw [Option.bind_eq_some_iff] at e4
  obtain ⟨s2, e2, e4⟩ := e4
  split at e4 <;> try (cases e4; done)
  rename_i hdiv
  rw [Option.bind_eq_some_iff] at e4
  obtain ⟨s3, e3, e4⟩ := e4
  generalize hp : D.tup [.int x, .int y] = pl at e0
  have hpn : noOb pl = true := by rw [← hp]; rfl
  show ∃ δ', r_lead_with_root A (some (ptW A a dx (f, c)) :: some pl :: none :: none :: none :: []) = some δ' ∧ δ'[0]? = some (some (ptW A a dx s4))
  refine ⟨some (ptW A a dx s4) :: some pl :: some (.int s2.1.2.1) :: some (.int s2.1.2.2.1) :: some (.int (-((s2.1.2.2.1 + s2.1.2.1 - 1).fdiv (2 * s2.1.2.1)))) :: [], ?_, rfl⟩
  unfold r_lead_with_root
  refine (wSeq_eq (wStep_enc (c := c0) (s' := s1) (by unfold fCall aCons; exact e0) e1)).trans ?_
  refine (wSeq_eq (wIf_neg (i := 1) (j := s1.1.2.1) (c := (-1, 0, 0, 1)) (s' := s2) h rfl rfl (fun _ => rfl) e2)).trans ?_
  refine (wSeq_eq (δ1 := some (ptW A a dx s2) :: some pl :: some (.int s2.1.2.1) :: some (.int s2.1.2.2.1) :: none :: []) (wPure_eq ?_ (same_ptW (by simp [restNo, hpn, noOb])))).trans ?_
  · unfold sPar2 aCons
    have n1 : ∀ r, f2 ixD (fAttr (slT A) "own_numbers" (fVar 0)) (fConst (.int 1)) (some (ptW A a dx s2) :: r) = some (.int s2.1.2.1) := fun r => num_ix (i := 1) h rfl rfl
    have n2 : ∀ r, f2 ixD (fAttr (slT A) "own_numbers" (fVar 0)) (fConst (.int 2)) (some (ptW A a dx s2) :: r) = some (.int s2.1.2.2.1) := fun r => num_ix (i := 2) h rfl rfl
    rw [n1, n2]
    rfl
  refine (wSeq_eq (δ1 := some (ptW A a dx s2) :: some pl :: some (.int s2.1.2.1) :: some (.int s2.1.2.2.1) :: some (.int (-((s2.1.2.2.1 + s2.1.2.1 - 1).fdiv (2 * s2.1.2.1)))) :: []) (wPure_eq ?_ (same_ptW (by simp [restNo, hpn, noOb])))).trans ?_
  · simp [sSet, fNeg, f2, fVar, fConst, binD, add_ii, sub_ii, mul_l sm2, fdivD, intC, hdiv, neg_i]
  refine (wSeq_eq (δ1 := some (ptW A a dx s3) :: some pl :: some (.int s2.1.2.1) :: some (.int s2.1.2.2.1) :: some (.int (-((s2.1.2.2.1 + s2.1.2.1 - 1).fdiv (2 * s2.1.2.1)))) :: []) ?_).trans ?_
  · generalize -((s2.1.2.2.1 + s2.1.2.1 - 1).fdiv (2 * s2.1.2.1)) = t at e3
    unfold wIf
    rw [show fT (f2 (cmpD .NotEq) (fVar 4) (fConst (.int 0))) (some (ptW A a dx s2) :: some pl :: some (.int s2.1.2.1) :: some (.int s2.1.2.2.1) :: some (.int t) :: []) = some (!decide (t = 0)) from rfl]
    by_cases ht : t = 0
    · rw [if_neg (by simpa using ht)] at e3
      cases e3
      simp [ht, wNil]
    · rw [if_pos ht] at e3
      simp only [Option.bind_some, ht, decide_false, Bool.not_false, if_true]
      refine (wSeq_eq (wStep_enc (c := (1, 0, t, 1)) (s' := s3) rfl e3)).trans rfl
  refine (wSeq_eq (wIf_neg (i := 2) (j := s3.1.2.2.1) (c := (1, 0, 0, -1)) (s' := s4) h rfl rfl (fun _ => rfl) e4)).trans rfl
/-! ### without a root -/
def asI : D → Option Int
  | .int i => some i
  | _ => none
def negS (s : W4) : Option W4 := if s.1.1 < 0 then stp s (-1, 0, 0, -1) else some s
def bsI (f : Q4) : Option Int := (f_best_shift [enc4 f]).bind asI
def freeT (s : W4) : Option Bool := if Sm4 s.1 ∧ Sm (s.1.1 - s.1.2.1) ∧ Sm (s.1.1 + s.1.2.1) then some (!small4 s.1 || !between4 s.1) else none
def freeB (s : W4) : Option W4 := (bsI s.1).bind fun t => (if t ≠ 0 then stp s (1, 0, t, 1) else some s).bind fun s2 => if Sm4 s2.1 then (if small4 s2.1 = true then some s2 else (stp s2 (0, 1, -1, 0)).bind negS) else none
def freeL : Nat → W4 → Option W4
  | 0, _ => none
  | n + 1, s => (freeT s).bind fun c => if c = true then (freeB s).bind (freeL n) else some s
def leadFree (s : W4) : Option W4 := (negS s).bind fun s1 => (freeL fuelW s1).bind fun s2 => if s2.1.2.1 < 0 ∨ (s2.1.2.1 = 0 ∧ s2.1.2.2.2 < 0) then stp s2 (-1, 0, 0, 1) else some s2
def m_lwo (chg row : D) : List D → Option (D × D)
  | [] => (decC chg).bind fun c => (dec4 row).bind fun f => (leadFree (f, c)).bind fun s => some (encC s.2, enc4 s.1)
  | _ => none
section
variable {A : Ads} {a dx : Addr}
def oE (A : Ads) (a dx : Addr) (s : W4) (o : Option D) : DEnv := some (ptW A a dx s) :: none :: none :: none :: none :: o :: []
theorem neg_ok (h : A.CK ≠ A.CW) {s s' : W4} {r : DEnv} (e : negS s = some s') : oNeg A (some (ptW A a dx s) :: r) = some (some (ptW A a dx s') :: r) :=
  wIf_neg (i := 0) (j := s.1.1) (c := (-1, 0, 0, -1)) h rfl rfl (fun _ => rfl) e
theorem small_ok (h : A.CK ≠ A.CW) {s : W4} {r : DEnv} (k : Sm4 s.1) : tNot1 (fT (fCall (aCons (fAttr (slT A) "own_numbers" (fVar 0)) aNil) z_is_small)) (some (ptW A a dx s) :: r) = some (!small4 s.1) := by
  unfold tNot1 fT fCall aCons
  rw [attr_num h]
  show ((((if Sm4 s.1 then some (D.bl (small4 s.1)) else none)).bind asB).bind fun t => some (!t)) = _
  rw [if_pos k]
  rfl
theorem between_ok (h : A.CK ≠ A.CW) {s : W4} {r : DEnv} (k : Sm4 s.1 ∧ Sm (s.1.1 - s.1.2.1) ∧ Sm (s.1.1 + s.1.2.1)) : tNot1 (fT (fCall (aCons (fAttr (slT A) "own_numbers" (fVar 0)) aNil) z_is_between)) (some (ptW A a dx s) :: r) = some (!between4 s.1) := by
  unfold tNot1 fT fCall aCons
  rw [attr_num h]
  show ((((if Sm4 s.1 ∧ Sm (s.1.1 - s.1.2.1) ∧ Sm (s.1.1 + s.1.2.1) then some (D.bl (between4 s.1)) else none)).bind asB).bind fun t => some (!t)) = _
  rw [if_pos k]
  rfl
theorem test_ok (h : A.CK ≠ A.CW) {s : W4} {r : DEnv} {c : Bool} (e : freeT s = some c) : oTest A (some (ptW A a dx s) :: r) = some c := by
  unfold freeT at e
  obtain ⟨k, rfl⟩ := if_some e
  unfold oTest tOr2
  rw [small_ok h k.1, between_ok h k]
  cases small4 s.1 <;> rfl
theorem body_ok (h : A.CK ≠ A.CW) {s s' : W4} {o : Option D} (e : freeB s = some s') : ∃ t : Int, oBody A (oE A a dx s o) = some (oE A a dx s' (some (.int t))) := by
  unfold freeB at e
  rw [Option.bind_eq_some_iff] at e
  obtain ⟨t, e1, e⟩ := e
  rw [Option.bind_eq_some_iff] at e
  obtain ⟨s2, e2, e⟩ := e
  obtain ⟨k, e3⟩ : Sm4 s2.1 ∧ (if small4 s2.1 = true then some s2 else (stp s2 (0, 1, -1, 0)).bind negS) = some s' := by
    split at e
    · exact ⟨by assumption, e⟩
    · cases e
  unfold bsI at e1
  rw [Option.bind_eq_some_iff] at e1
  obtain ⟨d, e1, e1'⟩ := e1
  have ed : d = .int t := by
    cases d <;> cases e1'
    rfl
  subst ed
  refine ⟨t, ?_⟩
  unfold oBody
  refine (wSeq_eq (δ1 := oE A a dx s (some (.int t))) (wPure_eq ?_ (same_ptW (by simp [restNo, noOb])))).trans ?_
  · unfold sSet fCall aCons oE
    rw [attr_num h]
    show ((f_best_shift [enc4 s.1]).bind fun d => some (Out.nx _)) = _
    rw [e1]
    rfl
  refine (wSeq_eq (δ1 := oE A a dx s2 (some (.int t))) ?_).trans ?_
  · unfold wIf
    rw [show fT (f2 (cmpD .NotEq) (fVar 5) (fConst (.int 0))) (oE A a dx s (some (.int t))) = some (!decide (t = 0)) from rfl]
    by_cases ht : t = 0
    · rw [if_neg (by simpa using ht)] at e2
      cases e2
      simp [ht, wNil]
    · rw [if_pos ht] at e2
      simp only [Option.bind_some, ht, decide_false, Bool.not_false, if_true]
      exact (wSeq_eq (wStep_enc (c := (1, 0, t, 1)) (s' := s2) rfl e2)).trans rfl
  refine (wSeq_eq (δ1 := oE A a dx s' (some (.int t))) ?_).trans rfl
  unfold wIf oE
  rw [small_ok h k]
  by_cases hs : small4 s2.1 = true
  · rw [if_pos hs] at e3
    cases e3
    rw [hs]
    rfl
  · rw [if_neg hs, Option.bind_eq_some_iff] at e3
    obtain ⟨s3, e4, e5⟩ := e3
    rw [show small4 s2.1 = false by simpa using hs]
    refine (wSeq_eq (wStep_enc (c := (0, 1, -1, 0)) (s' := s3) rfl e4)).trans ?_
    exact (wSeq_eq (neg_ok h e5)).trans rfl
theorem loop_ok (h : A.CK ≠ A.CW) : ∀ (n : Nat) {s s' : W4} {o : Option D}, freeL n s = some s' → ∃ o', wWhile (oTest A) (oBody A) n (oE A a dx s o) = some (oE A a dx s' o') ∧ (o' = o ∨ ∃ t : Int, o' = some (.int t))
  | 0, _, _, _, e => nomatch e
  | n + 1, s, s', o, e => by
    unfold freeL at e
    rw [Option.bind_eq_some_iff] at e
    obtain ⟨c, e1, e2⟩ := e
    unfold wWhile
    rw [show oTest A (oE A a dx s o) = some c from test_ok h e1]
    cases c with
    | true =>
      have e2 : (freeB s).bind (freeL n) = some s' := e2
      rw [Option.bind_eq_some_iff] at e2
      obtain ⟨s1, e3, e4⟩ := e2
      obtain ⟨t, e5⟩ := body_ok (a := a) (dx := dx) (o := o) h e3
      obtain ⟨o', e6, e7⟩ := loop_ok h n (o := some (.int t)) e4
      refine ⟨o', ?_, ?_⟩
      · show (oBody A (oE A a dx s o)).bind _ = _
        rw [e5]
        exact e6
      · rcases e7 with e7 | e7
        · exact .inr ⟨t, e7⟩
        · exact .inr e7
    | false =>
      have e2 : some s = some s' := e2
      cases e2
      exact ⟨o, rfl, .inl rfl⟩
end
theorem mw_lwo (A : Ads) (h : A.CK ≠ A.CW) : MW A (r_lead_without_root A) 5 m_lwo := by
  intro a dx chg row ds q hm
  unfold m_lwo at hm
  split at hm <;> try (cases hm; done)
  rw [Option.bind_eq_some_iff] at hm
  obtain ⟨c, ec, hm⟩ := hm
  rw [Option.bind_eq_some_iff] at hm
  obtain ⟨f, ef, hm⟩ := hm
  rw [Option.bind_eq_some_iff] at hm
  obtain ⟨s4, e4, hm⟩ := hm
  cases hm
  rw [decC_ok ec, dec4_ok ef]
  unfold leadFree at e4
  rw [Option.bind_eq_some_iff] at e4
  obtain ⟨s1, e1, e4⟩ := e4
  rw [Option.bind_eq_some_iff] at e4
  obtain ⟨s2, e2, e4⟩ := e4
  obtain ⟨o', e3, ho⟩ := loop_ok (a := a) (dx := dx) h fuelW (o := none) e2
  have hno : restNo (none :: none :: none :: none :: none :: o' :: []) = true := by
    rcases ho with rfl | ⟨t, rfl⟩ <;> rfl
  show ∃ δ', r_lead_without_root A (oE A a dx (f, c) none) = some δ' ∧ δ'[0]? = some (some (ptW A a dx s4))
  refine ⟨some (ptW A a dx s4) :: some (.int s2.1.1) :: some (.int s2.1.2.1) :: some (.int s2.1.2.2.1) :: some (.int s2.1.2.2.2) :: o' :: [], ?_, rfl⟩
  unfold r_lead_without_root
  refine (wSeq_eq (neg_ok h e1)).trans ?_
  refine (wSeq_eq e3).trans ?_
  unfold oEnd
  refine (wSeq_eq (δ1 := some (ptW A a dx s2) :: some (.int s2.1.1) :: some (.int s2.1.2.1) :: some (.int s2.1.2.2.1) :: some (.int s2.1.2.2.2) :: o' :: []) (wPure_eq ?_ (same_ptW ?_))).trans ?_
  · unfold sAsg
    rw [attr_num h]
    rfl
  · rcases ho with rfl | ⟨t, rfl⟩ <;> rfl
  refine (wSeq_eq (δ1 := some (ptW A a dx s4) :: some (.int s2.1.1) :: some (.int s2.1.2.1) :: some (.int s2.1.2.2.1) :: some (.int s2.1.2.2.2) :: o' :: []) ?_).trans rfl
  unfold wIf
  rw [show (tOr2 (fT (f2 (cmpD .Lt) (fVar 2) (fConst (.int 0)))) (tAnd2 (fT (f2 (cmpD .Eq) (fVar 2) (fConst (.int 0)))) (fT (f2 (cmpD .Lt) (fVar 4) (fConst (.int 0))))))
    (some (ptW A a dx s2) :: some (.int s2.1.1) :: some (.int s2.1.2.1) :: some (.int s2.1.2.2.1) :: some (.int s2.1.2.2.2) :: o' :: []) = some (decide (s2.1.2.1 < 0 ∨ (s2.1.2.1 = 0 ∧ s2.1.2.2.2 < 0))) by
      simp [tOr2, tAnd2, fT, f2, fVar, fConst, cmp_lt, cmp_eq, asB, or_i, and_i]]
  by_cases hc : s2.1.2.1 < 0 ∨ (s2.1.2.1 = 0 ∧ s2.1.2.2.2 < 0)
  · rw [if_pos hc] at e4
    simp only [Option.bind_some, hc, decide_true, if_true]
    exact (wSeq_eq (wStep_enc (c := (-1, 0, 0, 1)) (s' := s4) rfl e4)).trans rfl
  · rw [if_neg hc] at e4
    cases e4
    simp [hc, wNil]
end FR
end
section
set_option Elab.async false
set_option linter.all false
set_option maxRecDepth 100000
set_option maxHeartbeats 4000000
/-! led_below. -/
namespace FR
open PySem PySem.Spec PyProof.Rows L2 DV
abbrev dN : List Str := n_led_below
def dSc : Scope := defScope s_led_below
def t_below (A : Ads) : Tab := { consts := consts0, fns := [("places_of_cubic", 1, f_cubic)], cls := clT A, slots := slT A }
abbrev dS0 : Stmt := stA s_led_below 0
abbrev dS1 : Stmt := stA s_led_below 1
abbrev dS2 : Stmt := stA s_led_below 2
def ifB' : Stmt → List Stmt
  | .If _ _ b _ => b
  | _ => []
/-- from the places to the changed walk -/
def m_lead (row pl : D) : Option (D × D) := match pl with
  | .tup [] => m_lwo IDLEd row []
  | .tup [.tup [.int x, .int y]] => m_lwr IDLEd row [.tup [.int x, .int y]]
  | _ => none
def f_led_below (_ : Ads) : List D → Option D
  | [row] => if noOb row = true then (tupF [row]).bind fun r2 => if noOb r2 = true then (f_cubic [row]).bind fun pl => if noOb pl = true then (m_lead r2 pl).bind fun q => some (.tup [q.2, q.1]) else none else none else none
  | _ => none
theorem q_below1 (A : Ads) : cT (t_below A) dN dSc 40 (ifC dS1) = fT (f2 (cmpD .NotEq) (fVar 2) (fTup aNil)) := by kernel_rfl
theorem q_below2 (A : Ads) : cE (t_below A) dN dSc 40 (argA (exprV (ifA dS1 0)) 1) = f2 ixD (fVar 2) (fConst (.int 0)) := by kernel_rfl
theorem q_below3 (A : Ads) : cE (t_below A) dN dSc 40 (retV dS2) = fTup (aCons (fAttr (slT A) "own_numbers" (fVar 1)) (aCons (fAttr (slT A) "own_change" (fVar 1)) aNil)) := by kernel_rfl
theorem q_below4 (A : Ads) : cE (t_below A) dN dSc 40 (tupA (asgV dS0) 1) = fCall (aCons (fVar 0) aNil) f_cubic := by kernel_rfl
theorem got_led_below {g : G} {A : Ads} {k : Nat} (B : Base g) (O : Objs g A) (h : ∃ f fd, Has g "led_below" s_led_below f fd) (g0 : MkO g k "Walk" 1 A.CW (m_walk (fCall (aCons (fVar 1) aNil) tupF))) (g1 : Got g (k + 1) "places_of_cubic" 1 f_cubic)
    (g2 : SpO g (k + 1) "lead_with_root" 2 (spW g.K A.CW 1 m_lwr)) (g3 : SpO g (k + 1) "lead_without_root" 1 (spW g.K A.CW 0 m_lwo)) : Got g (k + 2) "led_below" 1 (f_led_below A) := by
  have b0 : Bnd s_led_below "led_below" "led_below" p_led_below := fun kV doc pm an cdv ct us h => match us, h with | [_], _ => rfl
  have hlen : ∀ ds d, f_led_below A ds = some d → ds.length = 1 := fun ds d q => by
    unfold f_led_below at q
    split at q
    · rfl
    · cases q
  obtain ⟨f, fd, h⟩ := h
  refine ⟨hlen, f, fd, p_led_below, rfl, h.mg, h.kp, h.fn.binds1 b0, ?_⟩
  refine def_sp (k := k + 1) h.fn sc_led_below (fun vs H Q E q => by obtain ⟨ds, d, e, _⟩ := q; exact e) fun X hX => ?_
  have hXg : Fam (g.ctx (k + 1) dN) dSc true X := hX
  have ok : TabOk (g.ctx (k + 1) dN) (t_below A) := tab_okO B O (by decide) (.cons g1 .nil) .nil
  obtain ⟨t0, p0, q0⟩ := (sound ok 40).e dSc true (tupA (asgV dS0) 1)
  obtain ⟨t1, p1, q1⟩ := (sound ok 40).t dSc true (ifC dS1)
  obtain ⟨t2, p2, q2⟩ := (sound ok 40).e dSc true (argA (exprV (ifA dS1 0)) 1)
  obtain ⟨t3, p3, q3⟩ := (sound ok 40).e dSc true (retV dS2)
  rw [show cE (t_below A) (g.ctx (k + 1) dN).N dSc 40 _ = _ from q_below4 A] at q0
  rw [show cT (t_below A) (g.ctx (k + 1) dN).N dSc 40 _ = _ from q_below1 A] at q1
  rw [show cE (t_below A) (g.ctx (k + 1) dN).N dSc 40 _ = _ from q_below2 A] at q2
  rw [show cE (t_below A) (g.ctx (k + 1) dN).N dSc 40 _ = _ from q_below3 A] at q3
  obtain ⟨_, wf, wfd, wps, w1, w2, w3, w4, w5⟩ := g0
  obtain ⟨rf, rfd, rps, r1, r2, r3, r4, r5⟩ := g2
  obtain ⟨of, ofd, ops, o1, o2, o3, o4, o5⟩ := g3
  have pl1 : Place X 1 "walk" := place_of hXg ok.nd rfl (by decide +kernel)
  have pl2 : Place X 2 "places" := place_of hXg ok.nd rfl (by decide +kernel)
  have v0 : X.N[0]? = some ("numbers" : Str) := by rw [hX.N]; rfl
  have vn := fun (p : Pos) => pe_var (X := X) (pos := p) v0 (fam_vis hXg (by decide +kernel)) (by decide) (by decide)
  have vw := fun (p : Pos) => pe_var (X := X) (pos := p) pl1.at_ (fam_vis hXg (by decide +kernel)) (by decide) (by decide)
  have s0 : PS X dS0 (tPar 1 2 (tCons (tMake A.CW (spI g.K A.CW 1 (m_walk (fCall (aCons (fVar 1) aNil) tupF))) [] E0 (tCons (tVar 0) tNil)) (tCons t0 tNil))) :=
    ps_par hX.calm pl1.nd pl1.at_ pl2.at_ (by decide) (by rw [hX.sc]; decide +kernel) (by rw [hX.sc]; decide +kernel)
      (pa_cons (pe_make (by rw [hX.K]; exact w2) (by rw [hX.P, hX.w, hX.K, hX.mg, hX.base]; exact w5) (hX.room) (fam_gl hXg (by decide +kernel)) (by rw [hX.mg]; exact w3) (by rw [hX.K]; exact w4) .nil pass0 (pa_cons (vn _) pa_nil)) (pa_cons (p0 X hXg) pa_nil))
      (swp_ok hX.sc (by decide +kernel) (by decide +kernel)) (swaps_sole _ _ _)
  have s1 : PS X dS1 (tIfS t1 (tSeq (tDrop (tCall (spW g.K A.CW 1 m_lwr) [] E0 (tCons (tVar 1) (tCons t2 tNil)))) tNext) (tSeq (tDrop (tCall (spW g.K A.CW 0 m_lwo) [] E0 (tCons (tVar 1) tNil))) tNext)) :=
    ps_if (p1 X hXg) (pss_cons (ps_expr (pe_call (by rw [hX.P, hX.w, hX.K, hX.mg, hX.base]; exact r5) hX.room (fam_gl hXg (by decide +kernel)) (by rw [hX.mg]; exact r2) (by rw [hX.K]; exact r3) (by rw [hX.K]; exact r4) .nil pass0 (pa_cons (vw _) (pa_cons (p2 X hXg) pa_nil)))) pss_nil)
      (pss_cons (ps_expr (pe_call (by rw [hX.P, hX.w, hX.K, hX.mg, hX.base]; exact o5) hX.room (fam_gl hXg (by decide +kernel)) (by rw [hX.mg]; exact o2) (by rw [hX.K]; exact o3) (by rw [hX.K]; exact o4) .nil pass0 (pa_cons (vw _) pa_nil))) pss_nil)
  have s2 : PS X dS2 (tRet t3) := ps_ret (p3 X hXg)
  refine ⟨_, pss_cons s0 (pss_cons s1 (pss_cons s2 pss_nil)), ?_⟩
  rintro vs H Q E ⟨ds, d, hl, hd, hm, hQ⟩
  match vs, ds, hl, hlen ds d hm, hd, hm with
  | [u], [row], _, _, hd, hm =>
    obtain ⟨_, _, eu, hdr, _⟩ := hd
    cases eu
    have hm : (if noOb row = true then (tupF [row]).bind fun r2 => if noOb r2 = true then (f_cubic [row]).bind fun pl => if noOb pl = true then (m_lead r2 pl).bind fun q => some (.tup [q.2, q.1]) else none else none else none) = some d := hm
    split at hm <;> try (cases hm; done)
    rename_i hn0
    rw [Option.bind_eq_some_iff] at hm
    obtain ⟨r2, e1, hm⟩ := hm
    split at hm <;> try (cases hm; done)
    rename_i hn2
    rw [Option.bind_eq_some_iff] at hm
    obtain ⟨pl, e2, hm⟩ := hm
    split at hm <;> try (cases hm; done)
    rename_i hn1
    rw [Option.bind_eq_some_iff] at hm
    obtain ⟨q, e3, hm⟩ := hm
    cases hm
    have mw : m_walk (fCall (aCons (fVar 1) aNil) tupF) [row] = some [IDLEd, r2] := by
      show ((tupF [row]).bind fun d => if noOb d = true then some [IDLEd, d] else none) = _
      rw [e1]
      show (if noOb r2 = true then some [IDLEd, r2] else none) = _
      rw [if_pos hn2]
    -- the walk is made
    refine ⟨u, rfl, fun x dx hx hdx hne => ?_⟩
    refine ⟨x, dx, H, [u], [row], [IDLEd, r2], rfl, rfl, hx, hdx, hne, rfl, DenL.cons hdr DenL.nil, mw, fun H2 ws a2 sl dl => ⟨rfl, ?_⟩⟩
    have hw2 : Wk g.K A.CW H2 x dx IDLEd r2 := Wk.of_den (v := .ref x) ⟨ws, rfl, sl, dl⟩ (by decide) hn2 hne
    have he2 : EnvD g.K H2 (L2.start dN [u]) [some row, none, none] := ⟨rfl, fun i z e => by
      match i with
      | 0 => cases e; exact ⟨u, rfl, Den.same a2 _ _ hdr⟩
      | 1 => cases e
      | 2 => cases e
      | i + 3 => simp at e⟩
    refine q0 _ H2 _ pl _ he2 (by simpa [fCall, aCons, aNil, fVar] using e2) fun v H3 a3 dv => ?_
    refine ⟨.ref x, v, rfl, ?_⟩
    have he3 : ∀ {H : Hp} {c r : D}, Wk g.K A.CW H x dx c r → Den g.K H row u → Den g.K H pl v → EnvD g.K H (((L2.start dN [u]).set 1 (some (.ref x))).set 2 (some v)) [some row, some (.pt A.CW x dx [c, r]), some pl] := fun {H c r} hw h1 h2 => ⟨rfl, fun i z e => by
      match i with
      | 0 => cases e; exact ⟨u, rfl, h1⟩
      | 1 => cases e; exact ⟨_, rfl, hw.den⟩
      | 2 => cases e; exact ⟨v, rfl, h2⟩
      | i + 3 => simp at e⟩
    have hw3 := hw2.same a3
    have hr3 : Den g.K H3 row u := Den.same (a2.trans a3) _ _ hdr
    -- the lead, whichever
    have fin : ∀ H5, FarA x dx H3 H5 → Wk g.K A.CW H5 x dx q.1 q.2 → tSeq (tRet t3) tNext { nx := fun _ H' => Q .non H', rt := Q } (((L2.start dN [u]).set 1 (some (.ref x))).set 2 (some v)) H5 := fun H5 f5 w5 => by
      refine q3 _ H5 _ (.tup [q.2, q.1]) _ (he3 w5 (Den.far (hw3.far f5) _ _ hn0 hr3) (Den.far (hw3.far f5) _ _ hn1 dv)) ?_ fun z H6 s6 dz => ?_
      · simp [fTup, aCons, aNil, fAttr, fVar, fSlot, slot_num O.ne, slot_chg]
      · refine hQ z H6 (fun b o e => s6 _ _ (f5 b o (fun z => by rw [z, hx] at e; cases e) (fun z => by rw [z, hdx] at e; cases e) (a3 _ _ (a2 _ _ e)))) dz
    unfold m_lead at e3
    split at e3 <;> try (cases e3; done)
    · refine q1 _ H3 _ false _ (he3 hw3 hr3 dv) rfl fun H4 s4 => ?_
      rw [if_neg (by decide)]
      refine ⟨.ref x, rfl, x, dx, IDLEd, r2, [], [], q, rfl, rfl, hw3.same s4, rfl, DenL.nil, e3, fun H5 f5 w5 => ?_⟩
      exact fin H5 ((FarA.of s4).trans f5) w5
    · rename_i px py
      refine q1 _ H3 _ true _ (he3 hw3 hr3 dv) rfl fun H4 s4 => ?_
      rw [if_pos rfl]
      refine ⟨.ref x, rfl, ?_⟩
      refine q2 _ H4 _ (.tup [.int px, .int py]) _ ((he3 hw3 hr3 dv).same s4) rfl fun w H5 s5 dw => ?_
      refine ⟨x, dx, IDLEd, r2, [w], [_], q, rfl, rfl, (hw3.same s4).same s5, by rfl, DenL.cons dw DenL.nil, e3, fun H6 f6 w6 => ?_⟩
      exact fin H6 (((FarA.of s4).trans (FarA.of s5)).trans f6) w6
end FR
end
section
set_option Elab.async false
set_option linter.all false
set_option maxRecDepth 100000
set_option maxHeartbeats 4000000
/-! The defs over instances, and those that stand on the leads: resolved readings. Printed by wip/gen5.py. -/
namespace FR
open PySem PySem.Spec PyProof.Rows L2 DV
def m_kept : List D → Option (List D) := initOne (fCall (aCons (fVar 1) aNil) tupF)
def t__law_is_greatest : Tab := { consts := consts0, fns := [("_law_hessian", 1, z_hessian_of), ("_law_led", 2, z_form_led)] }
def t_form_told (A : Ads) : Tab := { consts := consts0, fns := [("are_integers", 2, f_are_integers)], cls := clT A, slots := slT A }
def r_form_told (A : Ads) : FS := (sSeq (sIf (fT (fIsi (isOwn A.CK) (fVar 0))) (sSeq (sRet (fAttr (slT A) "own_numbers" (fVar 0))) sNil) sNil) (sSeq (sIf (tNot1 (fT (fCall (aCons (fVar 0) (aCons (fConst (.int 4)) aNil)) f_are_integers))) (sSeq bad sNil) sNil) (sSeq (sRet (fVar 0)) sNil)))
def f_form_told (A : Ads) : List D → Option D := runB n_form_told 1 (r_form_told A)
theorem q_form_told (A : Ads) : defD (t_form_told A) n_form_told 1 s_form_told = f_form_told A := by kernel_rfl
theorem b_form_told : Bnd s_form_told "form_told" "form_told" p_form_told := fun kV doc pm an cdv ct us h => match us, h with | [_], _ => rfl
theorem got_form_told {g : G} {A : Ads} {k : Nat} (B : Base g) (O : Objs g A) (h : ∃ f fd, Has g "form_told" s_form_told f fd) (g_are_integers : Got g (k + 1) "are_integers" 2 f_are_integers) : Got g (k + 2) "form_told" 1 (f_form_told A) := got_of (k := k + 1) h sc_form_told b_form_told (tab_okO B O (by decide) (.cons g_are_integers .nil) .nil) (q_form_told A)
def m_form (A : Ads) : List D → Option (List D) := initOne (fCall (aCons (fVar 1) aNil) (f_form_told A))
def t_made_form (A : Ads) : Tab := { consts := consts0, fns := [], cls := clT A, slots := slT A, makes := [("Form", 1, A.CF, m_form A), ("KeptForm", 1, A.CK, m_kept)] }
def r_made_form (A : Ads) : FS := (sSeq (sRet (fMake A.CF (aCons (fMake A.CK (aCons (fVar 0) aNil) m_kept) aNil) (m_form A))) sNil)
def f_made_form (A : Ads) : List D → Option D := runB n_made_form 1 (r_made_form A)
theorem q_made_form (A : Ads) : defD (t_made_form A) n_made_form 1 s_made_form = f_made_form A := by kernel_rfl
theorem b_made_form : Bnd s_made_form "made_form" "made_form" p_made_form := fun kV doc pm an cdv ct us h => match us, h with | [_], _ => rfl
theorem got_made_form {g : G} {A : Ads} {k : Nat} (B : Base g) (O : Objs g A) (h : ∃ f fd, Has g "made_form" s_made_form f fd) (gF : MkO g k "Form" 1 A.CF (m_form A)) (gK : MkO g k "KeptForm" 1 A.CK m_kept) : Got g (k + 2) "made_form" 1 (f_made_form A) := got_of (k := k + 1) h sc_made_form b_made_form (tab_okO B O (by decide) .nil (.cons gF (.cons gK .nil))) (q_made_form A)
def t_require_form (A : Ads) : Tab := { consts := consts0, fns := [], cls := clT A, slots := slT A }
def r_require_form (A : Ads) : FS := (sSeq (sIf (tNot1 (fT (fIsi (isOwn A.CF) (fVar 0)))) (sSeq bad sNil) sNil) sNil)
def f_require_form (A : Ads) : List D → Option D := runB n_require_form 1 (r_require_form A)
theorem q_require_form (A : Ads) : defD (t_require_form A) n_require_form 1 s_require_form = f_require_form A := by kernel_rfl
theorem b_require_form : Bnd s_require_form "require_form" "require_form" p_require_form := fun kV doc pm an cdv ct us h => match us, h with | [_], _ => rfl
theorem got_require_form {g : G} {A : Ads} {k : Nat} (B : Base g) (O : Objs g A) (h : ∃ f fd, Has g "require_form" s_require_form f fd) : Got g (k + 2) "require_form" 1 (f_require_form A) := got_of (k := k + 1) h sc_require_form b_require_form (tab_okO B O (by decide) .nil .nil) (q_require_form A)
def t_least_of (A : Ads) : Tab := { consts := consts0, fns := [("led_above", 1, z_led_above), ("led_below", 1, (f_led_below A)), ("led_zero", 1, f_led_zero), ("discriminant_of", 1, z_discriminant_of)], cls := clT A, slots := slT A }
def r_least_of (A : Ads) : FS := (sSeq (sSet 1 (fCall (aCons (fVar 0) aNil) z_discriminant_of)) (sSeq (sIf (fT (f2 (cmpD .Eq) (fVar 1) (fConst (.int 0)))) (sSeq (sRet (fCall (aCons (fVar 0) aNil) f_led_zero)) sNil) sNil) (sSeq (sRet (fIf (fT (f2 (cmpD .Gt) (fVar 1) (fConst (.int 0)))) (fCall (aCons (fVar 0) aNil) z_led_above) (fCall (aCons (fVar 0) aNil) (f_led_below A)))) sNil)))
def f_least_of (A : Ads) : List D → Option D := runB n_least_of 1 (r_least_of A)
theorem q_least_of (A : Ads) : defD (t_least_of A) n_least_of 1 s_least_of = f_least_of A := by kernel_rfl
theorem b_least_of : Bnd s_least_of "least_of" "least_of" p_least_of := fun kV doc pm an cdv ct us h => match us, h with | [_], _ => rfl
theorem got_least_of {g : G} {A : Ads} {k : Nat} (B : Base g) (O : Objs g A) (h : ∃ f fd, Has g "least_of" s_least_of f fd) (g_led_above : Got g (k + 1) "led_above" 1 z_led_above) (g_led_below : Got g (k + 1) "led_below" 1 (f_led_below A)) (g_led_zero : Got g (k + 1) "led_zero" 1 f_led_zero) (g_discriminant_of : Got g (k + 1) "discriminant_of" 1 z_discriminant_of) : Got g (k + 2) "least_of" 1 (f_least_of A) := got_of (k := k + 1) h sc_least_of b_least_of (tab_okO B O (by decide) (.cons g_led_above (.cons g_led_below (.cons g_led_zero (.cons g_discriminant_of .nil)))) .nil) (q_least_of A)
def t_least_row (A : Ads) : Tab := { consts := consts0, fns := [("least_of", 1, (f_least_of A))], cls := clT A, slots := slT A }
def r_least_row (A : Ads) : FS := (sSeq (sRet (f2 ixD (fCall (aCons (fVar 0) aNil) (f_least_of A)) (fConst (.int 0)))) sNil)
def f_least_row (A : Ads) : List D → Option D := runB n_least_row 1 (r_least_row A)
theorem q_least_row (A : Ads) : defD (t_least_row A) n_least_row 1 s_least_row = f_least_row A := by kernel_rfl
theorem b_least_row : Bnd s_least_row "least_row" "least_row" p_least_row := fun kV doc pm an cdv ct us h => match us, h with | [_], _ => rfl
theorem got_least_row {g : G} {A : Ads} {k : Nat} (B : Base g) (O : Objs g A) (h : ∃ f fd, Has g "least_row" s_least_row f fd) (g_least_of : Got g (k + 1) "least_of" 1 (f_least_of A)) : Got g (k + 2) "least_row" 1 (f_least_row A) := got_of (k := k + 1) h sc_least_row b_least_row (tab_okO B O (by decide) (.cons g_least_of .nil) .nil) (q_least_row A)
def t_least_made (A : Ads) : Tab := { consts := consts0, fns := [("made_form", 1, (f_made_form A)), ("least_row", 1, (f_least_row A))], cls := clT A, slots := slT A }
def r_least_made (A : Ads) : FS := (sSeq (sRet (fCall (aCons (fCall (aCons (fVar 0) aNil) (f_least_row A)) aNil) (f_made_form A))) sNil)
def f_least_made (A : Ads) : List D → Option D := runB n_least_made 1 (r_least_made A)
theorem q_least_made (A : Ads) : defD (t_least_made A) n_least_made 1 s_least_made = f_least_made A := by kernel_rfl
theorem b_least_made : Bnd s_least_made "least_made" "least_made" p_least_made := fun kV doc pm an cdv ct us h => match us, h with | [_], _ => rfl
theorem got_least_made {g : G} {A : Ads} {k : Nat} (B : Base g) (O : Objs g A) (h : ∃ f fd, Has g "least_made" s_least_made f fd) (g_made_form : Got g (k + 1) "made_form" 1 (f_made_form A)) (g_least_row : Got g (k + 1) "least_row" 1 (f_least_row A)) : Got g (k + 2) "least_made" 1 (f_least_made A) := got_of (k := k + 1) h sc_least_made b_least_made (tab_okO B O (by decide) (.cons g_made_form (.cons g_least_row .nil)) .nil) (q_least_made A)
def t_is_least (A : Ads) : Tab := { consts := consts0, fns := [("least_of", 1, (f_least_of A)), ("require_short", 1, f_require_short), ("require_form", 1, (f_require_form A))], cls := clT A, slots := slT A }
def r_is_least (A : Ads) : FS := (sSeq (sDrop (fCall (aCons (fVar 0) aNil) (f_require_form A))) (sSeq (sDrop (fCall (aCons (fAttr (slT A) "own_coefficients" (fVar 0)) aNil) f_require_short)) (sSeq (sRet (f2 (cmpD .Eq) (f2 ixD (fCall (aCons (fAttr (slT A) "own_coefficients" (fVar 0)) aNil) (f_least_of A)) (fConst (.int 0))) (fAttr (slT A) "own_coefficients" (fVar 0)))) sNil)))
def f_is_least (A : Ads) : List D → Option D := runB n_is_least 1 (r_is_least A)
theorem q_is_least (A : Ads) : defD (t_is_least A) n_is_least 1 s_is_least = f_is_least A := by kernel_rfl
theorem b_is_least : Bnd s_is_least "is_least" "is_least" p_is_least := fun kV doc pm an cdv ct us h => match us, h with | [_], _ => rfl
theorem got_is_least {g : G} {A : Ads} {k : Nat} (B : Base g) (O : Objs g A) (h : ∃ f fd, Has g "is_least" s_is_least f fd) (g_least_of : Got g (k + 1) "least_of" 1 (f_least_of A)) (g_require_short : Got g (k + 1) "require_short" 1 f_require_short) (g_require_form : Got g (k + 1) "require_form" 1 (f_require_form A)) : Got g (k + 2) "is_least" 1 (f_is_least A) := got_of (k := k + 1) h sc_is_least b_is_least (tab_okO B O (by decide) (.cons g_least_of (.cons g_require_short (.cons g_require_form .nil))) .nil) (q_is_least A)
def t_least_form (A : Ads) : Tab := { consts := consts0, fns := [("least_made", 1, (f_least_made A)), ("require_short", 1, f_require_short), ("require_form", 1, (f_require_form A))], cls := clT A, slots := slT A }
def r_least_form (A : Ads) : FS := (sSeq (sDrop (fCall (aCons (fVar 0) aNil) (f_require_form A))) (sSeq (sDrop (fCall (aCons (fAttr (slT A) "own_coefficients" (fVar 0)) aNil) f_require_short)) (sSeq (sRet (fCall (aCons (fAttr (slT A) "own_coefficients" (fVar 0)) aNil) (f_least_made A))) sNil)))
def f_least_form (A : Ads) : List D → Option D := runB n_least_form 1 (r_least_form A)
theorem q_least_form (A : Ads) : defD (t_least_form A) n_least_form 1 s_least_form = f_least_form A := by kernel_rfl
theorem b_least_form : Bnd s_least_form "least_form" "least_form" p_least_form := fun kV doc pm an cdv ct us h => match us, h with | [_], _ => rfl
theorem got_least_form {g : G} {A : Ads} {k : Nat} (B : Base g) (O : Objs g A) (h : ∃ f fd, Has g "least_form" s_least_form f fd) (g_least_made : Got g (k + 1) "least_made" 1 (f_least_made A)) (g_require_short : Got g (k + 1) "require_short" 1 f_require_short) (g_require_form : Got g (k + 1) "require_form" 1 (f_require_form A)) : Got g (k + 2) "least_form" 1 (f_least_form A) := got_of (k := k + 1) h sc_least_form b_least_form (tab_okO B O (by decide) (.cons g_least_made (.cons g_require_short (.cons g_require_form .nil))) .nil) (q_least_form A)
def t__law_is_due : Tab := { consts := consts0, fns := [("_law_is_mathews", 1, z__law_is_mathews), ("_law_has_root", 1, f__law_has_root), ("_law_is_greatest", 1, (m_greatest t__law_is_greatest)), ("_law_discriminant", 1, z_discriminant_of)] }
def r__law_is_due : FS := (sSeq (sSet 1 (fCall (aCons (fVar 0) aNil) z_discriminant_of)) (sSeq (sIf (fT (f2 (cmpD .Gt) (fVar 1) (fConst (.int 0)))) (sSeq (sRet (fCall (aCons (fVar 0) aNil) (m_greatest t__law_is_greatest))) sNil) sNil) (sSeq (sAsg (fVar 0) (gTupL 4 (gMore (gVar 2) (gMore (gVar 3) (gMore (gVar 4) (gMore (gVar 5) gNone)))))) (sSeq (sIf (fT (f2 (cmpD .Eq) (fVar 1) (fConst (.int 0)))) (sSeq (sRet (fAnd (f2 (cmpD .Eq) (fVar 2) (fConst (.int 0))) (fAnd (f2 (cmpD .Eq) (fVar 3) (fConst (.int 0))) (fIf (fT (f2 (cmpD .Gt) (fVar 4) (fConst (.int 0)))) (fChain (cmpD .LtE) (cmpD .LtE) (fConst (.int 0)) (f2 (binD .Mult) (fConst (.int 2)) (fVar 5)) (fVar 4)) (fAnd (f2 (cmpD .Eq) (fVar 4) (fConst (.int 0))) (f2 (cmpD .GtE) (fVar 5) (fConst (.int 0)))))))) sNil) sNil) (sSeq (sIf (fT (fCall (aCons (fVar 0) aNil) f__law_has_root)) (sSeq (sRet (fAnd (f2 (cmpD .Eq) (fVar 2) (fConst (.int 0))) (fAnd (f2 (cmpD .Gt) (fVar 3) (fConst (.int 0))) (fChain (cmpD .LtE) (cmpD .LtE) (fConst (.int 0)) (fVar 4) (fVar 3))))) sNil) sNil) (sSeq (sRet (fCall (aCons (fVar 0) aNil) z__law_is_mathews)) sNil))))))
def f__law_is_due : List D → Option D := runB n__law_is_due 1 (r__law_is_due)
theorem q__law_is_due : defD (t__law_is_due) n__law_is_due 1 s__law_is_due = f__law_is_due := by kernel_rfl
theorem b__law_is_due : Bnd s__law_is_due "_law_is_due" "_law_is_due" p__law_is_due := fun kV doc pm an cdv ct us h => match us, h with | [_], _ => rfl
theorem got__law_is_due {g : G} {k : Nat} (B : Base g) (h : ∃ f fd, Has g "_law_is_due" s__law_is_due f fd) (g__law_is_mathews : Got g (k + 1) "_law_is_mathews" 1 z__law_is_mathews) (g__law_has_root : Got g (k + 1) "_law_has_root" 1 f__law_has_root) (g__law_is_greatest : Got g (k + 1) "_law_is_greatest" 1 (m_greatest t__law_is_greatest)) (g__law_discriminant : Got g (k + 1) "_law_discriminant" 1 z_discriminant_of) : Got g (k + 2) "_law_is_due" 1 f__law_is_due := got_of (k := k + 1) h sc__law_is_due b__law_is_due (tab_ok B (by decide) (.cons g__law_is_mathews (.cons g__law_has_root (.cons g__law_is_greatest (.cons g__law_discriminant .nil))))) q__law_is_due
def t_Form_coefficients (A : Ads) : Tab := { consts := consts0, fns := [], cls := clT A, slots := slT A }
def r_Form_coefficients (A : Ads) : FS := (sSeq (sRet (fAttr (slT A) "own_coefficients" (fVar 0))) sNil)
def f_Form_coefficients (A : Ads) : List D → Option D := runB n_Form_coefficients 1 (r_Form_coefficients A)
theorem q_Form_coefficients (A : Ads) : defD (t_Form_coefficients A) n_Form_coefficients 1 s_Form_coefficients = f_Form_coefficients A := by kernel_rfl
theorem b_Form_coefficients : Bnd s_Form_coefficients "coefficients" "Form.coefficients" p_Form_coefficients := fun kV doc pm an cdv ct us h => match us, h with | [_], _ => rfl
theorem fnr_Form_coefficients {g : G} {A : Ads} {k : Nat} (B : Base g) (O : Objs g A) {f : Addr} {fd : FuncData} (F : FnP g.K "coefficients" "Form.coefficients" s_Form_coefficients f fd) : FnR g.P g.w g.K g.mg g.base CX0 (k + 2) f (spD g.K 1 (f_Form_coefficients A)) := by
  have ok : TabOk (g.ctx (k + 1) n_Form_coefficients) (t_Form_coefficients A) := tab_okO B O (by decide) .nil .nil
  have key := defD_ok (k := k + 1) F sc_Form_coefficients ok
  rw [show defD (t_Form_coefficients A) n_Form_coefficients p_Form_coefficients.length s_Form_coefficients = f_Form_coefficients A from q_Form_coefficients A] at key
  have := FnOk.raw key (F.binds1 (ps := p_Form_coefficients) b_Form_coefficients) (ds := []) (dvs := []) .nil
  exact this.imp fun vs H Q E q => by rw [List.append_nil]; exact q
def t_Form_eq (A : Ads) : Tab := { consts := consts0, fns := [], cls := clT A, slots := slT A }
def r_Form_eq (A : Ads) : FS := (sSeq (sRet (fAnd (fIsi (isOwn A.CF) (fVar 1)) (f2 (cmpD .Eq) (fAttr (slT A) "own_coefficients" (fVar 0)) (fAttr (slT A) "own_coefficients" (fVar 1))))) sNil)
def f_Form_eq (A : Ads) : List D → Option D := runB n_Form_eq 2 (r_Form_eq A)
theorem q_Form_eq (A : Ads) : defD (t_Form_eq A) n_Form_eq 2 s_Form_eq = f_Form_eq A := by kernel_rfl
theorem b_Form_eq : Bnd s_Form_eq "__eq__" "Form.__eq__" p_Form_eq := fun kV doc pm an cdv ct us h => match us, h with | [_, _], _ => rfl
theorem fnr_Form_eq {g : G} {A : Ads} {k : Nat} (B : Base g) (O : Objs g A) {f : Addr} {fd : FuncData} (F : FnP g.K "__eq__" "Form.__eq__" s_Form_eq f fd) : FnR g.P g.w g.K g.mg g.base CX0 (k + 2) f (spD g.K 2 (f_Form_eq A)) := by
  have ok : TabOk (g.ctx (k + 1) n_Form_eq) (t_Form_eq A) := tab_okO B O (by decide) .nil .nil
  have key := defD_ok (k := k + 1) F sc_Form_eq ok
  rw [show defD (t_Form_eq A) n_Form_eq p_Form_eq.length s_Form_eq = f_Form_eq A from q_Form_eq A] at key
  have := FnOk.raw key (F.binds1 (ps := p_Form_eq) b_Form_eq) (ds := []) (dvs := []) .nil
  exact this.imp fun vs H Q E q => by rw [List.append_nil]; exact q
theorem mk_kept {g : G} {A : Ads} {k : Nat} (B : Base g) (O : Objs g A) : MkO g (k + 2) "KeptForm" 1 A.CK m_kept := by
  have ok : TabOk (g.ctx (k + 1) n_KeptForm_init) { consts := consts0, fns := [] } := tab_ok B (by decide) .nil
  obtain ⟨p, sl⟩ := O.sK
  exact mk_one (k := k + 1) (fl := "own_numbers") (e := asgV (stA s_KeptForm_init 0)) O.ikept sc_KeptForm_init (fun kV doc pm an cdv ct us h => match us, h with | [_, _], _ => rfl) rfl (by decide +kernel) (by decide +kernel)
    (show SE _ _ _ _ from (show cE _ n_KeptForm_init (defScope s_KeptForm_init) 40 (asgV (stA s_KeptForm_init 0)) = fCall (aCons (fVar 1) aNil) tupF by kernel_rfl) ▸ (sound ok 40).e (defScope s_KeptForm_init) true (asgV (stA s_KeptForm_init 0))) sl rfl
def t_finit (A : Ads) : Tab := { consts := consts0, fns := [("form_told", 1, f_form_told A)], cls := clT A, slots := slT A }
theorem mk_form {g : G} {A : Ads} {k : Nat} (B : Base g) (O : Objs g A) (g1 : Got g (k + 1) "form_told" 1 (f_form_told A)) : MkO g (k + 2) "Form" 1 A.CF (m_form A) := by
  have ok : TabOk (g.ctx (k + 1) n_Form_init) (t_finit A) := tab_okO B O (by decide) (.cons g1 .nil) .nil
  obtain ⟨p, sl⟩ := O.sF
  exact mk_one (k := k + 1) (fl := "own_coefficients") (e := asgV (stA s_Form_init 0)) O.iform sc_Form_init (fun kV doc pm an cdv ct us h => match us, h with | [_, _], _ => rfl) rfl (by decide +kernel) (by decide +kernel)
    (show SE _ _ _ _ from (show cE (t_finit A) n_Form_init (defScope s_Form_init) 40 (asgV (stA s_Form_init 0)) = fCall (aCons (fVar 1) aNil) (f_form_told A) by kernel_rfl) ▸ (sound ok 40).e (defScope s_Form_init) true (asgV (stA s_Form_init 0))) sl rfl
end FR
end
section
set_option Elab.async false
set_option linter.all false
set_option maxRecDepth 100000
set_option maxHeartbeats 4000000
/-! The law's crock: a list of three ints that is scooped from. -/
namespace FR
open PySem PySem.Spec PyProof.Rows L2 DV
def Crk (H : Hp) (c : Addr) (x y z : Int) : Prop := H c = some (.lst [.int x, .int y, .int z])
def OffC (c : Addr) (H H' : Hp) : Prop := ∀ b o, b ≠ c → H b = some o → H' b = some o
theorem OffC.refl {c : Addr} {H : Hp} : OffC c H H := fun _ _ _ h => h
theorem OffC.of {c : Addr} {H H' : Hp} (h : Same H H') : OffC c H H' := fun b o _ e => h b o e
theorem OffC.trans {c : Addr} {H H' H'' : Hp} (h : OffC c H H') (k : OffC c H' H'') : OffC c H H'' := fun b o n e => k b o n (h b o n e)
theorem OffC.upd {c : Addr} {H : Hp} {o : HO} : OffC c H (L2.upd H c o) := fun b u n e => by rw [upd_ne n]; exact e
def crD (x y z : Int) : D := .lst [.int x, .int y, .int z]
structure CE (K : PySem.W.Frag) (c : Addr) (H : Hp) (σ : DV.St) (x y z : Int) (rest : DEnv) : Prop where
  env : EnvD K H σ (some (crD x y z) :: rest)
  c0 : σ[0]? = some (some (.ref c))
  cr : Crk H c x y z
  fl : flatE rest = true
section
variable {K : PySem.W.Frag} {c : Addr} {H H' : Hp} {σ : DV.St} {x y z : Int} {rest : DEnv}
theorem CE.same (h : CE K c H σ x y z rest) (s : Same H H') : CE K c H' σ x y z rest := ⟨h.env.same s, h.c0, s _ _ h.cr, h.fl⟩
theorem flatE_get {δ : DEnv} (h : flatE δ = true) {i : Nat} {d : D} (e : δ[i]? = some (some d)) : DV.flat d = true := List.all_eq_true.mp h (some d) (List.mem_of_getElem? e)
theorem flat_off {x' y' z' : Int} {d : D} {v : V} (hf : DV.flat d = true) (h : Den K H d v) (hc : Crk H c x y z) (o : OffC c H H') (hc' : Crk H' c x' y' z') : Den K H' d v :=
  Den.same (fun b u e => by
    by_cases n : b = c
    · subst n
      rw [upd_same] at e
      cases e
      exact hc'
    · rw [upd_ne n] at e
      exact o b u n e) d v (Den.upd (o' := .lst [.int x', .int y', .int z']) hc d v hf h)
theorem CE.off {x' y' z' : Int} (h : CE K c H σ x y z rest) (o : OffC c H H') (hc : Crk H' c x' y' z') : CE K c H' σ x' y' z' rest := by
  refine ⟨⟨h.env.1, fun i d e => ?_⟩, h.c0, hc, h.fl⟩
  match i with
  | 0 => cases e; exact ⟨_, h.c0, c, _, rfl, hc, DenL.of_ints (ns := [x', y', z'])⟩
  | i + 1 =>
    obtain ⟨v, e1, d1⟩ := h.env.2 (i + 1) d e
    exact ⟨v, e1, flat_off (flatE_get h.fl e) d1 h.cr o hc⟩
theorem CE.put {x' y' z' : Int} (h : CE K c H σ x y z rest) : CE K c (L2.upd H c (.lst [.int x', .int y', .int z'])) σ x' y' z' rest := h.off OffC.upd upd_same
theorem CE.set (h : CE K c H σ x y z rest) {i : Nat} {d : D} {v : V} (hd : Den K H d v) (hf : DV.flat d = true) : CE K c H (σ.set (i + 1) (some v)) x y z (rest.set i (some d)) := by
  refine ⟨h.env.set (i + 1) hd, by rw [List.getElem?_set_ne (by omega)]; exact h.c0, h.cr, ?_⟩
  have hl := h.fl
  unfold flatE at hl ⊢
  rw [List.all_eq_true] at hl ⊢
  intro o ho
  rcases List.mem_or_eq_of_mem_set ho with q | q
  · exact hl o q
  · subst q; exact hf
end
/-! ### the promise of a scoop -/
def spScoop : Sp := fun vs H Q _ => ∃ (c : Addr) (n x y z : Int), vs = [.ref c, .int n] ∧ 0 < n ∧ n < 1073741824 ∧ Crk H c x y z ∧ ∀ H' r x' y' z', OffC c H H' → Crk H' c x' y' z' → 0 ≤ r → r < n → Q (.int r) H'
abbrev uN : List Str := n__law_scoop
def uSc : Scope := defScope s__law_scoop
def t_scoop : Tab := { consts := consts0, fns := [] }
def uIf : Stmt := stA s__law_scoop 0
def u_a : DEnv → Option D := f2 (binD .Mod) (fCall (aCons (f2 ixD (fVar 0) (fConst (.int 0))) aNil) intF) (fVar 1)
def u_1 : DEnv → Option D := (f2 (binD .Mod) (fCall (aCons (f2 (binD .Add) (f2 ixD (fVar 0) (fConst (.int 1))) (f2 (binD .Mult) (fConst (.int 122949829)) (f2 ixD (fVar 0) (fConst (.int 2))))) aNil) intF) (fConst (.int 2305843009213693951)))
def u_2 : DEnv → Option D := (f2 (binD .Mod) (fCall (aCons (f2 (binD .Add) (f2 (binD .Add) (f2 (binD .Mult) (fVar 2) (fVar 2)) (f2 (binD .Mult) (fConst (.int 67867979)) (f2 ixD (fVar 0) (fConst (.int 2))))) (fConst (.int 13))) aNil) intF) (fConst (.int 1152921504606846883)))
def u_3 : DEnv → Option D := f2 (binD .Mod) (fCall (aCons (f2 (binD .FloorDiv) (f2 (binD .Mult) (fVar 3) (f2 (binD .Add) (f2 (binD .Mod) (fVar 2) (fConst (.int 1019))) (fConst (.int 7)))) (fConst (.int 5009))) aNil) intF) (fVar 1)
theorem ix3 {x y z : Int} : ixD (crD x y z) (.int 0) = some (.int x) ∧ ixD (crD x y z) (.int 1) = some (.int y) ∧ ixD (crD x y z) (.int 2) = some (.int z) := ⟨rfl, rfl, rfl⟩
theorem intF_i {x : Int} : intF [.int x] = some (.int x) := rfl
theorem mod_ii {i j : Int} (h : j ≠ 0) : modD (.int i) (.int j) = some (.int (i.fmod j)) := by
  simp [modD, intC, modOk, h]
theorem fdiv_ii {i j : Int} (h : divOk i j = true) : fdivD (.int i) (.int j) = some (.int (i.fdiv j)) := by
  simp [fdivD, intC, h]
theorem scoop_ok {g : G} (B : Base g) (h : ∃ f fd, Has g "_law_scoop" s__law_scoop f fd) : SpO g 1 "_law_scoop" 2 spScoop := by
  obtain ⟨f, fd, h⟩ := h
  refine ⟨f, fd, p__law_scoop, rfl, h.mg, h.kp, h.fn.binds1 (ps := p__law_scoop) (fun kV doc pm an cdv ct us h => match us, h with | [_, _], _ => rfl), ?_⟩
  refine def_sp (k := 0) h.fn sc__law_scoop (fun vs H Q E q => by obtain ⟨c, n, x, y, z, rfl, _⟩ := q; rfl) fun X hX => ?_
  have hXg : Fam (g.ctx 0 uN) uSc true X := hX
  have ok : TabOk (g.ctx 0 uN) t_scoop := tab_ok B (by decide) .nil
  obtain ⟨tc, pc, qc⟩ := (sound ok 40).t uSc true (ifC uIf)
  obtain ⟨ta, pa, qa⟩ := (sound ok 40).e uSc true (asgV (ifA uIf 0))
  obtain ⟨tb, pb, qb⟩ := (sound ok 40).e uSc true (asgV (ifA uIf 1))
  obtain ⟨td, pd, qd⟩ := (sound ok 40).e uSc true (retV (ifA uIf 2))
  obtain ⟨t1, p1, q1⟩ := (sound ok 40).e uSc true (asgV (stA s__law_scoop 1))
  obtain ⟨t2, p2, q2⟩ := (sound ok 40).e uSc true (asgV (stA s__law_scoop 2))
  obtain ⟨t3, p3, q3⟩ := (sound ok 40).e uSc true (asgV (stA s__law_scoop 3))
  obtain ⟨t4, p4, q4⟩ := (sound ok 40).e uSc true (retV (stA s__law_scoop 4))
  rw [show cT t_scoop (g.ctx 0 uN).N uSc 40 (ifC uIf) = fT (f2 (cmpD .Gt) (f2 ixD (fVar 0) (fConst (.int 0))) (fConst (.int 0))) by kernel_rfl] at qc
  rw [show cE t_scoop (g.ctx 0 uN).N uSc 40 (asgV (ifA uIf 0)) = u_a by kernel_rfl] at qa
  rw [show cE t_scoop (g.ctx 0 uN).N uSc 40 (asgV (ifA uIf 1)) = f2 (binD .FloorDiv) (fCall (aCons (f2 ixD (fVar 0) (fConst (.int 0))) aNil) intF) (fVar 1) by kernel_rfl] at qb
  rw [show cE t_scoop (g.ctx 0 uN).N uSc 40 (retV (ifA uIf 2)) = fVar 4 by kernel_rfl] at qd
  rw [show cE t_scoop (g.ctx 0 uN).N uSc 40 (asgV (stA s__law_scoop 1)) = f2 (binD .Add) (f2 ixD (fVar 0) (fConst (.int 2))) (fConst (.int 1)) by kernel_rfl] at q1
  rw [show cE t_scoop (g.ctx 0 uN).N uSc 40 (asgV (stA s__law_scoop 2)) = u_1 by kernel_rfl] at q2
  rw [show cE t_scoop (g.ctx 0 uN).N uSc 40 (asgV (stA s__law_scoop 3)) = u_2 by kernel_rfl] at q3
  rw [show cE t_scoop (g.ctx 0 uN).N uSc 40 (retV (stA s__law_scoop 4)) = u_3 by kernel_rfl] at q4
  have v0 : X.N[0]? = some ("_law_crock_here" : Str) := by rw [hX.N]; rfl
  have vc := fun (p : Pos) => pe_var (X := X) (pos := p) v0 (fam_vis hXg (by decide +kernel)) (by decide) (by decide)
  have pl2 : Place X 2 "_law_one" := place_of hXg ok.nd rfl (by decide +kernel)
  have pl3 : Place X 3 "_law_two" := place_of hXg ok.nd rfl (by decide +kernel)
  have pl4 : Place X 4 "_law_found" := place_of hXg ok.nd rfl (by decide +kernel)
  have sa : PS X (ifA uIf 0) (tAsg ta (gName 4)) := ps_set pl4.nd pl4.at_ pl4.loc (pa X hXg) (swaps_no rfl _ _ _) pl4.ok
  have sb : PS X (ifA uIf 1) (tAsg tb (gSub (tVar 0) (tC (.int 0)) rSetL)) := ps_asg (pb X hXg) (pg_sub (vc _) pe_int set_list)
  have sd : PS X (ifA uIf 2) (tRet td) := ps_ret (pd X hXg)
  have s0 : PS X uIf (tIfS tc (tSeq (tAsg ta (gName 4)) (tSeq (tAsg tb (gSub (tVar 0) (tC (.int 0)) rSetL)) (tSeq (tRet td) tNext))) tNext) := ps_if (pc X hXg) (pss_cons sa (pss_cons sb (pss_cons sd pss_nil))) pss_nil
  have s1 : PS X (stA s__law_scoop 1) (tAsg t1 (gSub (tVar 0) (tC (.int 2)) rSetL)) := ps_asg (p1 X hXg) (pg_sub (vc _) pe_int set_list)
  have s2 : PS X (stA s__law_scoop 2) (tAsg t2 (gName 2)) := ps_set pl2.nd pl2.at_ pl2.loc (p2 X hXg) (swaps_no rfl _ _ _) pl2.ok
  have s3 : PS X (stA s__law_scoop 3) (tAsg t3 (gName 3)) := ps_set pl3.nd pl3.at_ pl3.loc (p3 X hXg) (swaps_no rfl _ _ _) pl3.ok
  have s4 : PS X (stA s__law_scoop 4) (tRet t4) := ps_ret (p4 X hXg)
  refine ⟨_, pss_cons s0 (pss_cons s1 (pss_cons s2 (pss_cons s3 (pss_cons s4 pss_nil)))), ?_⟩
  rintro vs H Q E ⟨c, n, x, y, z, rfl, hn, hn2, hc, hQ⟩
  have he : CE g.K c H (L2.start uN [.ref c, .int n]) x y z [some (.int n), none, none, none] := ⟨⟨rfl, fun i d e => by
    match i with
    | 0 => cases e; exact ⟨_, rfl, c, _, rfl, hc, DenL.of_ints (ns := [x, y, z])⟩
    | 1 => cases e; exact ⟨_, rfl, rfl⟩
    | 2 => cases e
    | 3 => cases e
    | 4 => cases e
    | i + 5 => simp at e⟩, rfl, hc, rfl⟩
  generalize L2.start uN [.ref c, .int n] = σ at he
  have hn0 : n ≠ 0 := by omega
  have hdv : divOk x n = true := by
    unfold divOk
    simp only [Bool.and_eq_true, decide_eq_true_eq]
    exact ⟨hn0, by omega⟩
  have fin : ∀ (a : Int), 0 ≤ a.fmod n ∧ a.fmod n < n := fun a => ⟨Int.fmod_nonneg_of_pos a hn, Int.fmod_lt_of_pos a hn⟩
  refine qc σ H _ (decide (0 < x)) _ he.env rfl fun H1 a1 => ?_
  have he1 := he.same a1
  by_cases hx : 0 < x
  · rw [if_pos (by simpa using hx)]
    refine qa σ H1 _ (.int (x.fmod n)) _ he1.env ?_ fun w H2 a2 dw => ?_
    · simp [u_a, f2, fCall, aCons, aNil, fVar, fConst, ix3.1, intF_i, binD, mod_ii hn0]
    cases dw
    have he2 := (he1.same a2).set (i := 3) (d := .int (x.fmod n)) (v := .int (x.fmod n)) rfl rfl
    refine qb _ H2 _ (.int (x.fdiv n)) _ he2.env ?_ fun w H3 a3 dw => ?_
    · simp [f2, fCall, aCons, aNil, fVar, fConst, ix3.1, intF_i, binD, fdiv_ii hdv]
    cases dw
    have he3 := he2.same a3
    refine ⟨.ref c, he3.c0, ?_⟩
    refine ⟨c, _, 0, 0, rfl, rfl, he3.cr, rfl, ?_⟩
    have he4 := he3.put (x' := x.fdiv n) (y' := y) (z' := z)
    refine qd _ _ _ (.int (x.fmod n)) _ he4.env rfl fun w H5 a5 dw => ?_
    cases dw
    exact hQ H5 _ _ _ _ ((OffC.of (a1.trans (a2.trans a3))).trans (OffC.upd.trans (OffC.of a5))) (a5 _ _ he4.cr) (fin x).1 (fin x).2
  · rw [if_neg (by simpa using hx)]
    refine q1 σ H1 _ (.int (z + 1)) _ he1.env rfl fun w H2 a2 dw => ?_
    cases dw
    have he2 := he1.same a2
    refine ⟨.ref c, he2.c0, ?_⟩
    refine ⟨c, _, 2, 2, rfl, rfl, he2.cr, rfl, ?_⟩
    have he3 := he2.put (x' := x) (y' := y) (z' := z + 1)
    have sc : Sm 122949829 := by decide
    have sc2 : Sm 67867979 := by decide
    refine q2 _ _ _ (.int ((y + 122949829 * (z + 1)).fmod 2305843009213693951)) _ he3.env ?_ fun w H4 a4 dw => ?_
    · simp [u_1, f2, fCall, aCons, aNil, fVar, fConst, ix3, intF_i, binD, mod_ii, mul_l sc, add_ii]
    cases dw
    generalize ho : (y + 122949829 * (z + 1)).fmod 2305843009213693951 = one
    have ho1 : Sm one := by
      have h1 := Int.fmod_nonneg_of_pos (y + 122949829 * (z + 1)) (b := 2305843009213693951) (by decide)
      have h2 := Int.fmod_lt_of_pos (y + 122949829 * (z + 1)) (b := 2305843009213693951) (by decide)
      rw [ho] at h1 h2
      unfold Sm
      omega
    have he4 := (he3.same a4).set (i := 1) (d := .int one) (v := .int one) rfl rfl
    refine q3 _ _ _ (.int ((one * one + 67867979 * (z + 1) + 13).fmod 1152921504606846883)) _ he4.env ?_ fun w H5 a5 dw => ?_
    · simp [u_2, f2, fCall, aCons, aNil, fVar, fConst, ix3, intF_i, binD, mod_ii, mul_l sc2, mul_l ho1, add_ii]
    cases dw
    generalize ht : (one * one + 67867979 * (z + 1) + 13).fmod 1152921504606846883 = two
    have ht1 : Sm two := by
      have h1 := Int.fmod_nonneg_of_pos (one * one + 67867979 * (z + 1) + 13) (b := 1152921504606846883) (by decide)
      have h2 := Int.fmod_lt_of_pos (one * one + 67867979 * (z + 1) + 13) (b := 1152921504606846883) (by decide)
      rw [ht] at h1 h2
      unfold Sm
      omega
    have he5 := (he4.same a5).set (i := 2) (d := .int two) (v := .int two) rfl rfl
    refine q4 _ _ _ (.int (((two * (one.fmod 1019 + 7)).fdiv 5009).fmod n)) _ he5.env ?_ fun w H6 a6 dw => ?_
    · simp [u_3, f2, fCall, aCons, aNil, fVar, fConst, intF_i, binD, mod_ii, mod_ii hn0, fdivD, intC, divOk, mul_l ht1, add_ii]
    cases dw
    exact hQ H6 _ _ _ _ ((OffC.of (a1.trans a2)).trans (OffC.upd.trans ((OffC.of a4).trans ((OffC.of a5).trans (OffC.of a6))))) (a6 _ _ he5.cr) (fin _).1 (fin _).2
end FR
end
section
set_option Elab.async false
set_option linter.all false
set_option maxRecDepth 100000
set_option maxHeartbeats 4000000
/-! Expressions that scoop; _law_small, _law_drawn. -/
namespace FR
open PySem PySem.Spec PyProof.Rows L2 DV
/-- an int between lo and hi, scooped -/
def SCi (F : Cx → Prop) (K : PySem.W.Frag) (G : DEnv → Prop) (e : Expr) (lo hi : Int) : Prop := ∃ t : TE, (∀ X, F X → PE X e t) ∧ ∀ c H σ x y z rest Q, CE K c H σ x y z rest → G rest →
  (∀ r H' x' y' z', OffC c H H' → CE K c H' σ x' y' z' rest → lo ≤ r → r ≤ hi → Q (.int r) H') → t σ H Q
section
variable {F : Cx → Prop} {K : PySem.W.Frag} {G : DEnv → Prop} {e a b : Expr} {pos : Pos} {lo hi lo2 hi2 : Int}
theorem SCi.pure {f : DEnv → Option D} (he : SE F K e f) {i : Int} (hf : ∀ x y z rest, G rest → f (some (crD x y z) :: rest) = some (.int i)) : SCi F K G e i i := by
  obtain ⟨t, p, q⟩ := he
  refine ⟨t, p, fun c H σ x y z rest Q ce g hQ => q σ H _ _ _ ce.env (hf x y z rest g) fun v H' s d => ?_⟩
  cases d
  exact hQ i H' x y z (OffC.of s) (ce.same s) (Int.le_refl _) (Int.le_refl _)
theorem SCi.add (ha : SCi F K G a lo hi) (hb : SCi F K G b lo2 hi2) : SCi F K G (.BinOp a .Add b pos) (lo + lo2) (hi + hi2) := by
  obtain ⟨ta, pa, qa⟩ := ha
  obtain ⟨tb, pb, qb⟩ := hb
  refine ⟨tOp (rI0 fun i j => .int (i + j)) ta tb, fun X hX => pe_op op_add (pa X hX) (pb X hX), fun c H σ x y z rest Q ce g hQ => ?_⟩
  refine qa c H σ x y z rest _ ce g fun r1 H1 x1 y1 z1 o1 ce1 l1 h1 => ?_
  refine qb c H1 σ x1 y1 z1 rest _ ce1 g fun r2 H2 x2 y2 z2 o2 ce2 l2 h2 => ?_
  exact ⟨r1, r2, rfl, rfl, hQ _ H2 x2 y2 z2 (o1.trans o2) ce2 (by omega) (by omega)⟩
theorem SCi.sub (ha : SCi F K G a lo hi) (hb : SCi F K G b lo2 hi2) : SCi F K G (.BinOp a .Sub b pos) (lo - hi2) (hi - lo2) := by
  obtain ⟨ta, pa, qa⟩ := ha
  obtain ⟨tb, pb, qb⟩ := hb
  refine ⟨tOp (rI0 fun i j => .int (i - j)) ta tb, fun X hX => pe_op op_sub (pa X hX) (pb X hX), fun c H σ x y z rest Q ce g hQ => ?_⟩
  refine qa c H σ x y z rest _ ce g fun r1 H1 x1 y1 z1 o1 ce1 l1 h1 => ?_
  refine qb c H1 σ x1 y1 z1 rest _ ce1 g fun r2 H2 x2 y2 z2 o2 ce2 l2 h2 => ?_
  exact ⟨r1, r2, rfl, rfl, hQ _ H2 x2 y2 z2 (o1.trans o2) ce2 (by omega) (by omega)⟩
/-- _law_scoop(crock, n) -/
theorem SCi.scoop {f : DEnv → Option D} {n : Int} {p p1 : Pos} {k : Nat} {fa : Addr} {fd : FuncData} {ps : List Str} (hX : ∀ X, F X → X.K = K ∧ X.N[0]? = some ("_law_crock_here" : Str) ∧ Vis X.env.scope "_law_crock_here" ∧ FnOk X.prog X.w X.K X.mg X.base CX0 k fa fd ps spScoop ∧ Room k X.A ∧ Gl X "_law_scoop" ∧ X.mg "_law_scoop" = some (.ref fa) ∧ PySem.W.keepIn X.K (.ref fa) = true ∧ Binds X.K fd ps [])
    (he : SE F K e f) (hs : isStar e = false) (hf : ∀ x y z rest, G rest → f (some (crD x y z) :: rest) = some (.int n)) (h0 : 0 < n) (h1 : n < 1073741824) : SCi F K G (.Call (.Name "_law_scoop" p) [.Name "_law_crock_here" p1, e] [] pos) 0 (n - 1) := by
  obtain ⟨t, pe, qe⟩ := he
  refine ⟨tCall spScoop [] E0 (tCons (tVar 0) (tCons t tNil)), fun X hx => ?_, fun c H σ x y z rest Q ce g hQ => ?_⟩
  · obtain ⟨e0, e1, e2, e3, e4, e5, e6, e7, e8⟩ := hX X hx
    exact pe_call e3 e4 e5 e6 e7 e8 .nil pass0 (pa_cons (pe_var e1 e2 (by decide) (by decide)) (pa_cons (pe X hx) pa_nil (star_cons hs _ _)) (star_cons rfl _ _)) (by decide) (star_cons rfl _ _) (star_none (by simp [noStar, hs]))
  · refine ⟨.ref c, ce.c0, ?_⟩
    refine qe σ H _ _ _ ce.env (hf x y z rest g) fun v H1 s1 d1 => ?_
    cases d1
    have ce1 := ce.same s1
    exact ⟨c, n, x, y, z, rfl, h0, h1, ce1.cr, fun H2 r x2 y2 z2 o2 c2 l2 h2 => hQ r H2 x2 y2 z2 ((OffC.of s1).trans o2) (ce1.off o2 c2) l2 (by omega)⟩
end
/-- the promise of a drawing: a tuple of four ints that satisfy P -/
def spDraw (K : PySem.W.Frag) (n : Nat) (G : List D → Prop) (P : Q4 → Prop) : Sp := fun vs H Q _ => ∃ (c : Addr) (x y z : Int) (us : List V) (ds : List D), vs = .ref c :: us ∧ us.length = n ∧ DenL K H ds us ∧ flatL ds = true ∧ G ds ∧ Crk H c x y z ∧
  ∀ H' f a x' y' z', OffC c H H' → Crk H' c x' y' z' → P f → Den K H' (enc4 f) (.ref a) → Q (.ref a) H'
def InB (b : Int) (f : Q4) : Prop := -b ≤ f.1 ∧ f.1 ≤ b ∧ -b ≤ f.2.1 ∧ f.2.1 ≤ b ∧ -b ≤ f.2.2.1 ∧ f.2.2.1 ≤ b ∧ -b ≤ f.2.2.2 ∧ f.2.2.2 ≤ b
end FR
end
section
set_option Elab.async false
set_option linter.all false
set_option maxRecDepth 100000
set_option maxHeartbeats 4000000
/-! _law_small. -/
namespace FR
open PySem PySem.Spec PyProof.Rows L2 DV StX
def lcE : Expr → Expr
  | .ListComp e _ _ _ => e
  | _ => noE
def lcS : Expr → Scope
  | .ListComp _ _ s _ => s
  | _ => uSc
abbrev aN : List Str := n__law_small
def aSc : Scope := defScope s__law_small
def aLc : Expr := argA (retV (stA s__law_small 0)) 0
def aOwn : List (Str × Nat) := ownOf aN (lcS aLc)
def aRel : Scope := relS (lcS aLc) aSc
def t_small : Tab := { consts := consts0, fns := [] }
theorem a_blk : blkC aN aSc (lcS aLc) aOwn = true := by decide +kernel
theorem a_own : aOwn.map (·.2) = [2] := by decide +kernel
/-- small numbers are asked for -/
def GMost (b : Int) (rest : DEnv) : Prop := rest[0]? = some (some (.int b))
theorem elt_small {g : G} (B : Base g) {k : Nat} (gs : SpO g k "_law_scoop" 2 spScoop) {b : Int} (hb : 0 ≤ b) (hb2 : b < 1000) : SCi (Fam (g.ctx k aN) aRel false) g.K (GMost b) (lcE aLc) (0 - b) (2 * b + 1 - 1 - b) := by
  have ok : TabOk (g.ctx k aN) t_small := tab_ok B (by decide) .nil
  obtain ⟨fa, fd, ps, h1, h2, h3, h4, h5⟩ := gs
  have sb : Sm 2 := sm2
  refine SCi.sub (SCi.scoop (n := 2 * b + 1) (fa := fa) (fd := fd) (ps := ps) (k := k) (f := f2 (binD .Add) (f2 (binD .Mult) (fConst (.int 2)) (fVar 1)) (fConst (.int 1))) (fun X hX => ⟨hX.K, by rw [hX.N]; rfl, fam_vis hX (by decide +kernel), by rw [hX.P, hX.w, hX.K, hX.mg, hX.base]; exact h5, hX.room, fam_gl hX (by decide +kernel), by rw [hX.mg]; exact h2, by rw [hX.K]; exact h3, by rw [hX.K]; exact h4⟩) ?_ rfl ?_ (by omega) (by omega)) (SCi.pure (f := fVar 1) ?_ ?_)
  · have := (sound ok 40).e aRel false (argA (argA (lcE aLc) 0) 1)
    rw [show cE t_small (g.ctx k aN).N aRel 40 (argA (argA (lcE aLc) 0) 1) = f2 (binD .Add) (f2 (binD .Mult) (fConst (.int 2)) (fVar 1)) (fConst (.int 1)) by kernel_rfl] at this
    exact this
  · intro x y z rest hg
    have e : fVar 1 (some (crD x y z) :: rest) = some (.int b) := by
      show (rest[0]?).join = _
      rw [show rest[0]? = some (some (D.int b)) from hg]
      rfl
    simp [f2, e, fConst, binD, mul_l sb, add_ii]
  · have := (sound ok 40).e aRel false (argA (lcE aLc) 1)
    rw [show cE t_small (g.ctx k aN).N aRel 40 (argA (lcE aLc) 1) = fVar 1 by kernel_rfl] at this
    exact this
  · intro x y z rest hg
    show (rest[0]?).join = _
    rw [show rest[0]? = some (some (D.int b)) from hg]
    rfl
theorem law_small_ok {g : G} (B : Base g) (h : ∃ f fd, Has g "_law_small" s__law_small f fd) (gs : SpO g 1 "_law_scoop" 2 spScoop) {b : Int} (hb : 0 ≤ b) (hb2 : b < 1000) : SpO g 2 "_law_small" 2 (spDraw g.K 1 (fun ds => ds = [.int b]) (InB b)) := by
  obtain ⟨f, fd, h⟩ := h
  refine ⟨f, fd, p__law_small, rfl, h.mg, h.kp, h.fn.binds1 (ps := p__law_small) (fun kV doc pm an cdv ct us h => match us, h with | [_, _], _ => rfl), ?_⟩
  refine def_sp (k := 1) h.fn sc__law_small (fun vs H Q E q => by obtain ⟨c, x, y, z, us, ds, rfl, hl, _⟩ := q; rw [List.length_cons, hl]; rfl) fun X hX => ?_
  have hXg : Fam (g.ctx 1 aN) aSc true X := hX
  obtain ⟨te, pe, qe⟩ := elt_small (k := 1) B gs hb hb2
  have hF : ∀ (s : Shared) (H : Hp) (C : Addr) (cl : List (Str × Addr)) (fp : List Addr), Fam (g.ctx 1 aN) aRel false (X.blk s H (lcS aLc) (compEnvC (lcS aLc) cl C X.env) fp) := fun s H C cl fp => hXg.blk s H _ cl C fp
  have plc : ∀ {Y : Cx}, Fam (g.ctx 1 aN) aRel false Y → Place Y 2 "_law_at_here" := fun {Y} hY => ⟨by rw [hY.N]; show aN.Nodup; decide, by rw [hY.N]; rfl, (fam_store hY (by decide +kernel)).1, (fam_store hY (by decide +kernel)).2⟩
  have lc : PE X aLc (tLc (iRng1 (tCons (tC (.int 4)) tNil)) (gName 2) tYes te (aOwn.map (·.2))) :=
    pe_lc hX.calm (by rw [hX.N]; show aN.Nodup; decide) (pi_range1 (fam_gl hXg (by decide +kernel)) (by rw [hX.mg]; exact B.blt _ (by decide)) (pa_cons pe_int pa_nil)) (own_ok hXg a_blk)
      (fun s H C cl fp => let p := plc (hF s H C cl fp); pg_name p.nd p.at_ p.loc p.ok) (fun s H C cl fp => pts_nil) (fun s H C cl fp => pe _ (hF s H C cl fp))
  have st : PS X (stA s__law_small 0) (tRet (tCB (fun xs H Q => ∃ p ys, xs = [.ref p] ∧ ((SqL X.K H p ys ∧ ∀ l, H l = none → Q (.ref l) (upd H l (.tup ys))) ∨ (SqT X.K H p ys ∧ Q (.ref p) H))) (tCons (tLc (iRng1 (tCons (tC (.int 4)) tNil)) (gName 2) tYes te (aOwn.map (·.2))) tNil))) :=
    ps_ret (pe_callTy call_tuple_of (fam_gl hXg (by decide +kernel)) (by rw [hX.mg]; exact B.blt _ (by decide)) (by decide +kernel) (pa_cons lc pa_nil))
  refine ⟨_, pss_cons st pss_nil, ?_⟩
  rintro vs H Q E ⟨c, x, y, z, us, ds, rfl, hl, hd, hfl, rfl, hc, hQ⟩
  match us, hl, hd with
  | [u], _, hd =>
    obtain ⟨_, _, eu, hdu, _⟩ := hd
    cases eu
    cases hdu
    have ce : ∀ {H : Hp} {x y z : Int}, Crk H c x y z → CE g.K c H (L2.start aN [.ref c, .int b]) x y z [some (.int b), none] := fun {H x y z} hc => ⟨⟨rfl, fun i d e => by
      match i with
      | 0 => cases e; exact ⟨_, rfl, c, _, rfl, hc, DenL.of_ints (ns := [x, y, z])⟩
      | 1 => cases e; exact ⟨_, rfl, rfl⟩
      | 2 => cases e
      | i + 3 => simp at e⟩, rfl, hc, rfl⟩
    have hw : L2.wipe (L2.start aN [.ref c, .int b]) (aOwn.map (·.2)) = L2.start aN [.ref c, .int b] := by rw [a_own]; rfl
    refine ⟨4, rfl, by decide, by decide, ?_⟩
    intro L hL
    have hLc : L ≠ c := fun e => by rw [e, hc] at hL; cases hL
    refine ⟨fun i m H2 => m = 4 - i ∧ i ≤ 4 ∧ OffC c (upd H L (.lst [])) (upd H2 L (.lst [])) ∧ (∃ x y z, Crk H2 c x y z) ∧ ∃ acc : List Int, acc.length = i ∧ (∀ r ∈ acc, -b ≤ r ∧ r ≤ b) ∧ H2 L = some (.lst (acc.map V.int)), ⟨4, rfl, by decide, ?_, ⟨x, y, z, by unfold Crk; rw [upd_ne (Ne.symm hLc)]; exact hc⟩, [], rfl, fun r hr => (by cases hr), upd_same⟩, ?_⟩
    · intro b' o n e
      by_cases q : b' = L
      · subst q; rw [upd_same] at e ⊢; exact e
      · rw [upd_ne q] at e ⊢; rw [upd_ne q]; exact e
    rintro i m H2 ⟨rfl, hi, o2, ⟨x2, y2, z2, c2⟩, acc, ha, hin, hL2⟩
    by_cases hlt : i < 4
    · refine .inr ⟨hlt, fun H3 => 4 - (i + 1) < 4 - i ∧ i + 1 ≤ 4 ∧ OffC c (upd H L (.lst [])) (upd H3 L (.lst [])) ∧ (∃ x y z, Crk H3 c x y z) ∧ ∃ acc : List Int, acc.length = i + 1 ∧ (∀ r ∈ acc, -b ≤ r ∧ r ≤ b) ∧ H3 L = some (.lst (acc.map V.int)), fun H3 h3 => ⟨_, h3.1, rfl, h3.2⟩, ?_⟩
      rintro v H3 ⟨rfl, rfl⟩
      rw [hw]
      have ce2 := (ce c2).set (i := 1) (d := .int (0 + (i : Int))) (v := .int (0 + (i : Int))) rfl rfl
      refine ⟨?_, ?_⟩
      · rw [a_own]; rfl
      · dsimp only [tYes]
        rw [if_pos rfl]
        refine qe c H3 _ x2 y2 z2 _ _ ce2 rfl fun r H4 x4 y4 z4 o4 c4 l4 h4 => ?_
        have hL4 : H4 L = some (.lst (acc.map V.int)) := o4 L _ hLc hL2
        refine ⟨acc.map V.int, hL4, small1000 (by rw [List.length_map]; omega), by omega, by omega, ?_, ⟨x4, y4, z4, by unfold Crk; rw [upd_ne (Ne.symm hLc)]; exact c4.cr⟩, acc ++ [r], by rw [List.length_append, ha]; rfl, ?_, by rw [upd_same]; simp⟩
        · intro b' o n e
          have e2 := o2 b' o n e
          by_cases q : b' = L
          · subst q; rw [upd_same] at e2 ⊢; exact e2
          · rw [upd_ne q] at e2 ⊢
            rw [upd_ne q]
            exact o4 b' o n e2
        · intro r' hr'
          rcases List.mem_append.mp hr' with q | q
          · exact hin r' q
          · rw [List.mem_singleton.mp q]
            exact ⟨by omega, by omega⟩
    · have e4 : i = 4 := by omega
      subst e4
      refine .inl ⟨by show 4 ≤ 4; decide, ?_⟩
      show ∃ p ys, _
      refine ⟨L, acc.map V.int, rfl, .inl ⟨.inl (.inl hL2), fun l hl => ?_⟩⟩
      match acc, ha, hin, hL2 with
      | [r0, r1, r2, r3], _, hin, hL2 =>
        have hlc : l ≠ c := fun e => by rw [e, c2] at hl; cases hl
        refine hQ _ (r0, r1, r2, r3) l x2 y2 z2 ?_ (by unfold Crk; rw [upd_ne (Ne.symm hlc)]; exact c2) ?_ ⟨l, _, rfl, .inl (.inl upd_same), DenL.of_ints (ns := [r0, r1, r2, r3])⟩
        · intro b' o n e
          have q : b' ≠ L := fun q => by rw [q, hL] at e; cases e
          have e2 := o2 b' o n (by rw [upd_ne q]; exact e)
          rw [upd_ne q] at e2
          rw [upd_ne (fun z => by rw [z, hl] at e2; cases e2)]
          exact e2
        · exact ⟨(hin r0 (by simp)).1, (hin r0 (by simp)).2, (hin r1 (by simp)).1, (hin r1 (by simp)).2, (hin r2 (by simp)).1, (hin r2 (by simp)).2, (hin r3 (by simp)).1, (hin r3 (by simp)).2⟩
end FR
end
section
set_option Elab.async false
set_option linter.all false
set_option maxRecDepth 100000
set_option maxHeartbeats 4000000
/-! _law_drawn. -/
namespace FR
open PySem PySem.Spec PyProof.Rows L2 DV
abbrev wN : List Str := n__law_drawn
def wSc : Scope := defScope s__law_drawn
def t_drawn : Tab := { consts := consts0, fns := [] }
/-- four ints scooped, in a tuple -/
def SCt (F : Cx → Prop) (K : PySem.W.Frag) (G : DEnv → Prop) (e : Expr) (P : Q4 → Prop) : Prop := ∃ t : TE, (∀ X, F X → PE X e t) ∧ ∀ c H σ x y z rest Q, CE K c H σ x y z rest → G rest →
  (∀ f a H' x' y' z', OffC c H H' → Crk H' c x' y' z' → P f → Den K H' (enc4 f) (.ref a) → Q (.ref a) H') → t σ H Q
section
variable {F : Cx → Prop} {K : PySem.W.Frag} {G : DEnv → Prop} {e1 e2 e3 e4 : Expr} {k : Nat} {pos : Pos} {l1 h1 l2 h2 l3 h3 l4 h4 : Int}
theorem SCt.tup {P : Q4 → Prop} (s1 : SCi F K G e1 l1 h1) (s2 : SCi F K G e2 l2 h2) (s3 : SCi F K G e3 l3 h3) (s4 : SCi F K G e4 l4 h4) (n1 : isStar e1 = false) (n2 : isStar e2 = false) (n3 : isStar e3 = false) (n4 : isStar e4 = false)
    (hP : ∀ a b c d, l1 ≤ a → a ≤ h1 → l2 ≤ b → b ≤ h2 → l3 ≤ c → c ≤ h3 → l4 ≤ d → d ≤ h4 → P (a, b, c, d)) : SCt F K G (.Tuple [e1, e2, e3, e4] k pos) P := by
  obtain ⟨t1, p1, q1⟩ := s1
  obtain ⟨t2, p2, q2⟩ := s2
  obtain ⟨t3, p3, q3⟩ := s3
  obtain ⟨t4, p4, q4⟩ := s4
  refine ⟨tTup (tCons t1 (tCons t2 (tCons t3 (tCons t4 tNil)))), fun X hX => pe_tup (pa_cons (p1 X hX) (pa_cons (p2 X hX) (pa_cons (p3 X hX) (pa_cons (p4 X hX) pa_nil (star_cons n4 _ _)) (star_cons n3 _ _)) (star_cons n2 _ _)) (star_cons n1 _ _)), fun c H σ x y z rest Q ce g hQ => ?_⟩
  refine q1 c H σ x y z rest _ ce g fun r1 H1 x1 y1 z1 o1 ce1 a1 b1 => ?_
  refine q2 c H1 σ x1 y1 z1 rest _ ce1 g fun r2 H2 x2 y2 z2 o2 ce2 a2 b2 => ?_
  refine q3 c H2 σ x2 y2 z2 rest _ ce2 g fun r3 H3 x3 y3 z3 o3 ce3 a3 b3 => ?_
  refine q4 c H3 σ x3 y3 z3 rest _ ce3 g fun r4 H4 x4 y4 z4 o4 ce4 a4 b4 => ?_
  refine ⟨le1000 (by simp), fun p hp => ?_⟩
  have hpc : p ≠ c := fun q => by rw [q, ce4.cr] at hp; cases hp
  refine hQ (r1, r2, r3, r4) p _ x4 y4 z4 (((o1.trans o2).trans (o3.trans o4)).trans fun b u n e => by rw [upd_ne (fun q => by rw [q, hp] at e; cases e)]; exact e) (by unfold Crk; rw [upd_ne (Ne.symm hpc)]; exact ce4.cr) (hP _ _ _ _ a1 b1 a2 b2 a3 b3 a4 b4)
    ⟨p, _, rfl, .inl (.inl upd_same), DenL.of_ints (ns := [r1, r2, r3, r4])⟩
/-- _law_small(crock, b) -/
theorem SCt.small {b : Int} {f : DEnv → Option D} {e : Expr} {p p1 : Pos} {k : Nat} {fa : Addr} {fd : FuncData} {ps : List Str} (hX : ∀ X, F X → X.K = K ∧ X.N[0]? = some ("_law_crock_here" : Str) ∧ Vis X.env.scope "_law_crock_here" ∧ FnOk X.prog X.w X.K X.mg X.base CX0 k fa fd ps (spDraw K 1 (fun ds => ds = [.int b]) (InB b)) ∧ Room k X.A ∧ Gl X "_law_small" ∧ X.mg "_law_small" = some (.ref fa) ∧ PySem.W.keepIn X.K (.ref fa) = true ∧ Binds X.K fd ps [])
    (he : SE F K e f) (hs : isStar e = false) (hf : ∀ x y z rest, G rest → f (some (crD x y z) :: rest) = some (.int b)) : SCt F K G (.Call (.Name "_law_small" p) [.Name "_law_crock_here" p1, e] [] pos) (InB b) := by
  obtain ⟨t, pe, qe⟩ := he
  refine ⟨tCall (spDraw K 1 (fun ds => ds = [.int b]) (InB b)) [] E0 (tCons (tVar 0) (tCons t tNil)), fun X hx => ?_, fun c H σ x y z rest Q ce g hQ => ?_⟩
  · obtain ⟨e0, e1, e2, e3, e4, e5, e6, e7, e8⟩ := hX X hx
    exact pe_call e3 e4 e5 e6 e7 e8 .nil pass0 (pa_cons (pe_var e1 e2 (by decide) (by decide)) (pa_cons (pe X hx) pa_nil (star_cons hs _ _)) (star_cons rfl _ _)) (by decide) (star_cons rfl _ _) (star_none (by simp [noStar, hs]))
  · refine ⟨.ref c, ce.c0, ?_⟩
    refine qe σ H _ _ _ ce.env (hf x y z rest g) fun v H1 s1 d1 => ?_
    cases d1
    have ce1 := ce.same s1
    exact ⟨c, x, y, z, [.int b], [.int b], rfl, rfl, DenL.of_ints (ns := [b]), rfl, rfl, ce1.cr, fun H2 f a x2 y2 z2 o2 c2 hP hd => hQ f a H2 x2 y2 z2 ((OffC.of s1).trans o2) c2 hP hd⟩
end
/-- the test `way == i` -/
theorem way_test {r : Int} {x y z : Int} {i : Int} : fT (f2 (cmpD .Eq) (fVar 1) (fConst (.int i))) [some (crD x y z), some (.int r)] = some (decide (r = i)) := rfl
theorem drawn_ok {g : G} (B : Base g) (h : ∃ f fd, Has g "_law_drawn" s__law_drawn f fd) (gs : SpO g 2 "_law_scoop" 2 spScoop) (gm : SpO g 2 "_law_small" 2 (spDraw g.K 1 (fun ds => ds = [.int 4]) (InB 4))) : SpO g 3 "_law_drawn" 1 (spDraw g.K 0 (fun ds => ds = []) (InB 4)) := by
  obtain ⟨f, fd, h⟩ := h
  refine ⟨f, fd, p__law_drawn, rfl, h.mg, h.kp, h.fn.binds1 (ps := p__law_drawn) (fun kV doc pm an cdv ct us h => match us, h with | [_], _ => rfl), ?_⟩
  refine def_sp (k := 2) h.fn sc__law_drawn (fun vs H Q E q => by obtain ⟨c, x, y, z, us, ds, rfl, hl, _⟩ := q; rw [List.length_cons, hl]; rfl) fun X hX => ?_
  have hXg : Fam (g.ctx 2 wN) wSc true X := hX
  have ok : TabOk (g.ctx 2 wN) t_drawn := tab_ok B (by decide) .nil
  obtain ⟨fa, fda, psa, a1, a2, a3, a4, a5⟩ := gs
  obtain ⟨fm, fdm, psm, m1, m2, m3, m4, m5⟩ := gm
  have hs : ∀ X, Fam (g.ctx 2 wN) wSc true X → X.K = g.K ∧ X.N[0]? = some ("_law_crock_here" : Str) ∧ Vis X.env.scope "_law_crock_here" ∧ FnOk X.prog X.w X.K X.mg X.base CX0 2 fa fda psa spScoop ∧ Room 2 X.A ∧ Gl X "_law_scoop" ∧ X.mg "_law_scoop" = some (.ref fa) ∧ PySem.W.keepIn X.K (.ref fa) = true ∧ Binds X.K fda psa [] := fun X hX =>
    ⟨hX.K, by rw [hX.N]; rfl, fam_vis hX (by decide +kernel), by rw [hX.P, hX.w, hX.K, hX.mg, hX.base]; exact a5, hX.room, fam_gl hX (by decide +kernel), by rw [hX.mg]; exact a2, by rw [hX.K]; exact a3, by rw [hX.K]; exact a4⟩
  have sc : ∀ {n : Int} {kk : Nat} {p p1 p2 pos : Pos}, 0 < n → n < 1073741824 → SCi (Fam (g.ctx 2 wN) wSc true) g.K (fun _ => True) (.Call (.Name "_law_scoop" p) [.Name "_law_crock_here" p1, .Constant (.int n) kk p2] [] pos) 0 (n - 1) := fun {n kk p p1 p2 pos} h0 h1 =>
    SCi.scoop hs (f := fConst (.int n)) SE.int rfl (fun _ _ _ _ _ => rfl) h0 h1
  have co : ∀ {n : Int} {kk : Nat} {p2 : Pos}, SCi (Fam (g.ctx 2 wN) wSc true) g.K (fun _ => True) (.Constant (.int n) kk p2) n n := fun {n kk p2} => SCi.pure (f := fConst (.int n)) SE.int (fun _ _ _ _ _ => rfl)
  obtain ⟨t0, p0, q0⟩ : SCi (Fam (g.ctx 2 wN) wSc true) g.K (fun _ => True) (asgV (stA s__law_drawn 0)) 0 (4 - 1) := sc (by decide) (by decide)
  obtain ⟨c1, pc1, qc1⟩ := (sound ok 40).t wSc true (ifC (stA s__law_drawn 1))
  obtain ⟨c2, pc2, qc2⟩ := (sound ok 40).t wSc true (ifC (stA s__law_drawn 2))
  obtain ⟨c3, pc3, qc3⟩ := (sound ok 40).t wSc true (ifC (stA s__law_drawn 3))
  rw [show cT t_drawn (g.ctx 2 wN).N wSc 40 (ifC (stA s__law_drawn 1)) = fT (f2 (cmpD .Eq) (fVar 1) (fConst (.int 0))) by kernel_rfl] at qc1
  rw [show cT t_drawn (g.ctx 2 wN).N wSc 40 (ifC (stA s__law_drawn 2)) = fT (f2 (cmpD .Eq) (fVar 1) (fConst (.int 1))) by kernel_rfl] at qc2
  rw [show cT t_drawn (g.ctx 2 wN).N wSc 40 (ifC (stA s__law_drawn 3)) = fT (f2 (cmpD .Eq) (fVar 1) (fConst (.int 2))) by kernel_rfl] at qc3
  obtain ⟨t1, p1, q1⟩ : SCt (Fam (g.ctx 2 wN) wSc true) g.K (fun _ => True) (retV (ifA (stA s__law_drawn 1) 0)) (InB 4) := SCt.small (k := 2) (fa := fm) (fd := fdm) (ps := psm) (f := fConst (.int 4))
    (fun X hX => ⟨hX.K, by rw [hX.N]; rfl, fam_vis hX (by decide +kernel), by rw [hX.P, hX.w, hX.K, hX.mg, hX.base]; exact m5, hX.room, fam_gl hX (by decide +kernel), by rw [hX.mg]; exact m2, by rw [hX.K]; exact m3, by rw [hX.K]; exact m4⟩) SE.int rfl (fun _ _ _ _ _ => rfl)
  obtain ⟨t2, p2, q2⟩ : SCt (Fam (g.ctx 2 wN) wSc true) g.K (fun _ => True) (retV (ifA (stA s__law_drawn 2) 0)) (InB 4) :=
    SCt.tup (SCi.add co (sc (by decide) (by decide))) (sc (by decide) (by decide)) (SCi.sub (sc (by decide) (by decide)) co) (SCi.sub (sc (by decide) (by decide)) co) rfl rfl rfl rfl (fun a b c d _ _ _ _ _ _ _ _ => by unfold InB; dsimp only; omega)
  obtain ⟨t3, p3, q3⟩ : SCt (Fam (g.ctx 2 wN) wSc true) g.K (fun _ => True) (retV (ifA (stA s__law_drawn 3) 0)) (InB 4) :=
    SCt.tup co (sc (by decide) (by decide)) (SCi.sub (sc (by decide) (by decide)) co) (SCi.sub (sc (by decide) (by decide)) co) rfl rfl rfl rfl (fun a b c d _ _ _ _ _ _ _ _ => by unfold InB; dsimp only; omega)
  obtain ⟨t4, p4, q4⟩ : SCt (Fam (g.ctx 2 wN) wSc true) g.K (fun _ => True) (retV (stA s__law_drawn 4)) (InB 4) :=
    SCt.tup co co (SCi.sub (sc (by decide) (by decide)) co) (SCi.sub (sc (by decide) (by decide)) co) rfl rfl rfl rfl (fun a b c d _ _ _ _ _ _ _ _ => by unfold InB; dsimp only; omega)
  have pl : Place X 1 "_law_way" := place_of hXg ok.nd rfl (by decide +kernel)
  have s0 : PS X (stA s__law_drawn 0) (tAsg t0 (gName 1)) := ps_set pl.nd pl.at_ pl.loc (p0 X hXg) (swaps_no rfl _ _ _) pl.ok
  have s1 : PS X (stA s__law_drawn 1) (tIfS c1 (tSeq (tRet t1) tNext) tNext) := ps_if (pc1 X hXg) (pss_cons (ps_ret (p1 X hXg)) pss_nil) pss_nil
  have s2 : PS X (stA s__law_drawn 2) (tIfS c2 (tSeq (tRet t2) tNext) tNext) := ps_if (pc2 X hXg) (pss_cons (ps_ret (p2 X hXg)) pss_nil) pss_nil
  have s3 : PS X (stA s__law_drawn 3) (tIfS c3 (tSeq (tRet t3) tNext) tNext) := ps_if (pc3 X hXg) (pss_cons (ps_ret (p3 X hXg)) pss_nil) pss_nil
  have s4 : PS X (stA s__law_drawn 4) (tRet t4) := ps_ret (p4 X hXg)
  refine ⟨_, pss_cons s0 (pss_cons s1 (pss_cons s2 (pss_cons s3 (pss_cons s4 pss_nil)))), ?_⟩
  rintro vs H Q E ⟨c, x, y, z, us, ds, rfl, hl, hd, hfl, rfl, hc, hQ⟩
  match us, hl with
  | [], _ =>
    have he : CE g.K c H (L2.start wN [.ref c]) x y z [none] := ⟨⟨rfl, fun i d e => by
      match i with
      | 0 => cases e; exact ⟨_, rfl, c, _, rfl, hc, DenL.of_ints (ns := [x, y, z])⟩
      | 1 => cases e
      | i + 2 => simp at e⟩, rfl, hc, rfl⟩
    refine q0 c H _ x y z _ _ he True.intro fun r H1 x1 y1 z1 o1 ce1 l1 h1 => ?_
    have he1 := ce1.set (i := 0) (d := .int r) (v := .int r) rfl rfl
    have out : ∀ {t : TE} {H2 : Hp}, (∀ c H σ x y z rest Q, CE g.K c H σ x y z rest → (fun _ => True) rest → (∀ f a H' x' y' z', OffC c H H' → Crk H' c x' y' z' → InB 4 f → Den g.K H' (enc4 f) (.ref a) → Q (.ref a) H') → t σ H Q) → OffC c H H2 → CE g.K c H2 ((L2.start wN [.ref c]).set 1 (some (.int r))) x1 y1 z1 [some (.int r)] → t ((L2.start wN [.ref c]).set 1 (some (.int r))) H2 Q := fun {t H2} q o2 ce2 =>
      q c H2 _ x1 y1 z1 _ Q ce2 True.intro fun f a H3 x3 y3 z3 o3 c3 hP hd => hQ H3 f a x3 y3 z3 (o2.trans o3) c3 hP hd
    refine qc1 _ H1 _ _ _ he1.env rfl fun H2 s2 => ?_
    have he2 := he1.same s2
    have o2 := o1.trans (OffC.of s2)
    by_cases w0 : r = 0
    · rw [if_pos (decide_eq_true w0)]
      exact out q1 o2 he2
    rw [if_neg (by simpa using w0)]
    refine qc2 _ H2 _ _ _ he2.env rfl fun H3 s3 => ?_
    have he3 := he2.same s3
    have o3 := o2.trans (OffC.of s3)
    by_cases w1 : r = 1
    · rw [if_pos (decide_eq_true w1)]
      exact out q2 o3 he3
    rw [if_neg (by simpa using w1)]
    refine qc3 _ H3 _ _ _ he3.env rfl fun H4 s4 => ?_
    have he4 := he3.same s4
    have o4 := o3.trans (OffC.of s4)
    by_cases w2 : r = 2
    · rw [if_pos (decide_eq_true w2)]
      exact out q3 o4 he4
    rw [if_neg (by simpa using w2)]
    exact out q4 o4 he4
end FR
end
section
set_option Elab.async false
set_option linter.all false
set_option maxRecDepth 100000
set_option maxHeartbeats 4000000
/-! _law_crock. -/
namespace FR
open PySem PySem.Spec PyProof.Rows L2 DV
abbrev rN : List Str := n__law_crock
def rSc : Scope := defScope s__law_crock
def t_crock : Tab := { consts := consts0, fns := [] }
theorem seqL_same {K : PySem.W.Frag} {H H' : Hp} {a : Addr} {xs : List V} (e : Same H H') (h : SqL K H a xs) : SqL K H' a xs := by
  rcases h with (h | ⟨o, h⟩) | h
  · exact .inl (.inl (e _ _ h))
  · exact .inl (.inr ⟨o, e _ _ h⟩)
  · exact .inr h
theorem cut_ints (ns : List Int) (lo hi : Option Int) : ∃ ms : List Int, cutV (ns.map V.int) lo hi = ms.map V.int := by
  unfold cutV
  exact ⟨_, by rw [List.map_take, List.map_drop]⟩
/-- where the crock's making stands -/
structure RE (K : PySem.W.Frag) (l : Addr) (ns : List Int) (j : Nat) (H : Hp) (σ : DV.St) (r2 r3 : Option D) : Prop where
  env : EnvD K H σ [none, some (.int j), r2, r3]
  s0 : σ[0]? = some (some (.ref l))
  sc : SqL K H l (ns.map V.int)
theorem RE.same {K : PySem.W.Frag} {l : Addr} {ns : List Int} {j : Nat} {H H' : Hp} {σ : DV.St} {r2 r3 : Option D} (h : RE K l ns j H σ r2 r3) (s : Same H H') : RE K l ns j H' σ r2 r3 := ⟨h.env.same s, h.s0, seqL_same s h.sc⟩
/-- an int, from the script -/
def SCr (F : Cx → Prop) (K : PySem.W.Frag) (e : Expr) (C : List Int → Nat → Prop) : Prop := ∃ t : TE, (∀ X, F X → PE X e t) ∧ ∀ l ns j H σ r2 r3 Q, RE K l ns j H σ r2 r3 → C ns j → (∀ r H', Same H H' → Q (.int r) H') → t σ H Q
section
variable {F : Cx → Prop} {K : PySem.W.Frag} {e a b : Expr} {pos : Pos} {C : List Int → Nat → Prop}
theorem SCr.pure {f : DEnv → Option D} (he : SE F K e f) (hf : ∀ (j : Nat) r2 r3, ∃ i, f [none, some (.int j), r2, r3] = some (.int i)) : SCr F K e C := by
  obtain ⟨t, p, q⟩ := he
  refine ⟨t, p, fun l ns j H σ r2 r3 Q re c hQ => ?_⟩
  obtain ⟨i, hi⟩ := hf j r2 r3
  refine q σ H _ _ _ re.env hi fun v H' s d => ?_
  cases d
  exact hQ i H' s
theorem SCr.add (ha : SCr F K a C) (hb : SCr F K b C) : SCr F K (.BinOp a .Add b pos) C := by
  obtain ⟨ta, pa, qa⟩ := ha
  obtain ⟨tb, pb, qb⟩ := hb
  refine ⟨tOp (rI0 fun i j => .int (i + j)) ta tb, fun X hX => pe_op op_add (pa X hX) (pb X hX), fun l ns j H σ r2 r3 Q re c hQ => ?_⟩
  refine qa l ns j H σ r2 r3 _ re c fun i1 H1 s1 => ?_
  exact qb l ns j H1 σ r2 r3 _ (re.same s1) c fun i2 H2 s2 => ⟨i1, i2, rfl, rfl, hQ _ H2 (s1.trans s2)⟩
theorem SCr.mod {k : Nat} {n : Int} {p2 : Pos} (hn : n ≠ 0) (ha : SCr F K a C) : SCr F K (.BinOp a .Mod (.Constant (.int n) k p2) pos) C := by
  obtain ⟨ta, pa, qa⟩ := ha
  refine ⟨tOp (rI (fun _ j => j ≠ 0) fun i j => .int (i.fmod j)) ta (tC (.int n)), fun X hX => pe_op op_modN (pa X hX) pe_int, fun l ns j H σ r2 r3 Q re c hQ => ?_⟩
  exact qa l ns j H σ r2 r3 _ re c fun i1 H1 s1 => ⟨i1, n, rfl, rfl, hn, hQ _ H1 s1⟩
theorem SCr.int {p : Pos} (hg : ∀ X, F X → Gl X "int" ∧ X.mg "int" = none) (hs : isStar a = false) (ha : SCr F K a C) : SCr F K (.Call (.Name "int" p) [a] [] pos) C := by
  obtain ⟨ta, pa, qa⟩ := ha
  obtain ⟨r, pr, qr⟩ := callS_int (F := F) (K := K)
  refine ⟨tCB r (tCons ta tNil), fun X hX => pe_callTy (pr X hX) (hg X hX).1 (hg X hX).2 (by decide +kernel) (pa_cons (pa X hX) pa_nil (star_cons hs _ _)) (by decide) (by decide) (star_cons hs _ _) (star_none (by rfl)), fun l ns j H σ r2 r3 Q re c hQ => ?_⟩
  exact qa l ns j H σ r2 r3 _ re c fun i1 H1 s1 => qr [.int i1] [.int i1] (.int i1) H1 _ (DenL.of_ints (ns := [i1])) rfl fun v H2 s2 d => by cases d; exact hQ i1 H2 (s1.trans s2)
/-- script[turn] -/
theorem SCr.cell {p1 p2 : Pos} (hX : ∀ X, F X → X.K = K ∧ X.N[0]? = some ("_law_script" : Str) ∧ Vis X.env.scope "_law_script" ∧ X.N[1]? = some ("_law_turn" : Str) ∧ Vis X.env.scope "_law_turn") (hC : ∀ ns j, C ns j → j < ns.length) : SCr F K (.Subscript (.Name "_law_script" p1) (.Name "_law_turn" p2) pos) C := by
  refine ⟨tOp (rIx K) (tVar 0) (tVar 1), fun X hx => ?_, fun l ns j H σ r2 r3 Q re c hQ => ?_⟩
  · obtain ⟨e0, e1, e2, e3, e4⟩ := hX X hx
    subst e0
    exact pe_ix ix_seq (pe_var e1 e2 (by decide) (by decide)) (pe_var e3 e4 (by decide) (by decide)) fun _ _ => rfl
  · obtain ⟨v, e1, d1⟩ := re.env.2 1 _ rfl
    cases d1
    exact ⟨_, re.s0, ⟨_, e1, .inl ⟨l, _, _, _, rfl, rfl, re.sc, atI_cell (hC ns j c), hQ _ H (Same.refl H)⟩⟩⟩
/-- sum(script[:1]) -/
theorem SCr.sum {k : Nat} {p0 p1 p2 p3 p4 : Pos} (hX : ∀ X, F X → X.K = K ∧ X.N[0]? = some ("_law_script" : Str) ∧ Vis X.env.scope "_law_script" ∧ Gl X "sum" ∧ X.mg "sum" = none ∧ X.calm = true) : SCr F K (.Call (.Name "sum" p0) [.Subscript (.Name "_law_script" p1) (.Slice none (some (.Constant (.int 1) k p2)) none p3) p4] [] pos) C := by
  refine ⟨tCB (rSum K) (tCons (tSl (rSlL K) (tVar 0) tNoPart (tPart (tC (.int 1)))) tNil), fun X hx => ?_, fun l ns j H σ r2 r3 Q re c hQ => ?_⟩
  · obtain ⟨e0, e1, e2, e3, e4, e5⟩ := hX X hx
    subst e0
    exact pe_callB (cr_sum e5) e3 e4 (by decide +kernel) (pa_cons (pe_slice sl_list (pe_var e1 e2 (by decide) (by decide)) po_none (po_some pe_int)) pa_nil)
  · refine ⟨.ref l, re.s0, ?_⟩
    refine ⟨1, rfl, l, _, rfl, re.sc, fun p hp => ?_⟩
    obtain ⟨ms, hms⟩ := cut_ints ns none (some 1)
    exact ⟨p, ms, rfl, .inl (.inl (by rw [← hms]; exact upd_same)), hQ _ _ (same_new hp)⟩
end
/-- the turn is in the script, or the script is empty -/
def CrC (ns : List Int) (j : Nat) : Prop := j < 2
theorem SCr.ite {F : Cx → Prop} {K : PySem.W.Frag} {a b : Expr} {pos p1 p2 p3 p4 p5 : Pos} (hX : ∀ X, F X → X.K = K ∧ X.N[0]? = some ("_law_script" : Str) ∧ Vis X.env.scope "_law_script" ∧ X.N[1]? = some ("_law_turn" : Str) ∧ Vis X.env.scope "_law_turn" ∧ Gl X "len" ∧ X.mg "len" = none)
    (ha : SCr F K a (fun ns j => CrC ns j ∧ j < ns.length)) (hb : SCr F K b CrC) : SCr F K (.IfExp (.Compare (.Name "_law_turn" p1) [.Lt] [.Call (.Name "len" p2) [.Name "_law_script" p3] [] p4] p5) a b pos) CrC := by
  obtain ⟨ta, pa, qa⟩ := ha
  obtain ⟨tb, pb, qb⟩ := hb
  refine ⟨tIf (tB (tLt (tVar 1) (tCB (rLen K) (tCons (tVar 0) tNil)))) ta tb, fun X hx => ?_, fun l ns j H σ r2 r3 Q re c hQ => ?_⟩
  · obtain ⟨e0, e1, e2, e3, e4, e5, e6⟩ := hX X hx
    subst e0
    exact pe_ifExp (pt_cmp (pc_lt (pe_var e3 e4 (by decide) (by decide)) (pe_callB call_len e5 e6 boot_len (pa_cons (pe_var e1 e2 (by decide) (by decide)) pa_nil)))) (pa X hx) (pb X hx)
  · obtain ⟨v, e1, d1⟩ := re.env.2 1 _ rfl
    cases d1
    refine ⟨_, e1, ⟨_, re.s0, ⟨V.ref l, (ns.map V.int).length, rfl, .inl ⟨_, re.sc, rfl⟩, ⟨(j : Nat), ((ns.map V.int).length : Nat), rfl, rfl, ⟨_, rfl, ?_⟩⟩⟩⟩⟩
    show if decide (((j : Nat) : Int) < (((ns.map V.int).length : Nat) : Int)) = true then _ else _
    by_cases hj : j < ns.length
    · rw [if_pos (decide_eq_true (by rw [List.length_map]; omega))]
      exact qa l ns j H σ r2 r3 Q re ⟨c, hj⟩ hQ
    · rw [if_neg (fun z => by have z2 := of_decide_eq_true z; rw [List.length_map] at z2; omega)]
      exact qb l ns j H σ r2 r3 Q re c hQ
/-! ### the crock -/
def spCrock (K : PySem.W.Frag) : Sp := fun vs H Q _ => ∃ (l : Addr) (ns : List Int) (j : Nat), vs = [.ref l, .int j] ∧ SqL K H l (ns.map V.int) ∧ CrC ns j ∧ ∀ c H' x y z, Same H H' → H c = none → Crk H' c x y z → Q (.ref c) H'
def v_great : DEnv → Option D := f2 (binD .Mod) (fCall (aCons (fVar 2) aNil) absF) (f2 (binD .Pow) (f2 (binD .Pow) (fConst (.int 10)) (fConst (.int 57))) (fConst (.int 6)))
def v_0 : DEnv → Option D := fCall (aCons (fConst (.int 0)) (aCons (f2 (binD .Sub) (fVar 3) (f2 (binD .Pow) (fConst (.int 10)) (fConst (.int 17)))) aNil)) (fun ds => (max2F ds).or (max3F ds))
def v_1 : DEnv → Option D := f2 (binD .Add) (f2 (binD .Add) (f2 (binD .Add) (f2 (binD .Mult) (f2 (binD .Mod) (fVar 3) (fConst (.int 1000000000177))) (fConst (.int 73))) (f2 (binD .Mult) (fConst (.int 1153)) (fVar 1))) (f2 (binD .Mult) (fConst (.int 23)) (fCall (aCons (f2 (cmpD .Lt) (fVar 2) (fConst (.int 0))) aNil) intF))) (fConst (.int 5))
def big1 : Int := 10 ^ (57 : Int).toNat
def big : Int := big1 ^ (6 : Int).toNat
theorem pow_57 : powD (.int 10) (.int 57) = some (.int big1) := by
  show (if powOk 10 57 = true then some (D.int (10 ^ (57 : Int).toNat)) else none) = _
  rw [if_pos (by decide +kernel)]
  rfl
theorem pow_6 : powD (.int big1) (.int 6) = some (.int big) := by
  show (if powOk big1 6 = true then some (D.int (big1 ^ (6 : Int).toNat)) else none) = _
  rw [if_pos (by decide +kernel)]
  rfl
theorem big_nz : big ≠ 0 := by decide +kernel
theorem pow17 : powD (.int 10) (.int 17) = some (.int (10 ^ 17)) := by
  have h1 : powOk 10 17 = true := by decide +kernel
  simp [powD, intC, h1]
theorem crock_ok {g : G} (B : Base g) (hsum : g.mg "sum" = none) (h : ∃ f fd, Has g "_law_crock" s__law_crock f fd) : SpO g 1 "_law_crock" 2 (spCrock g.K) := by
  obtain ⟨f, fd, h⟩ := h
  refine ⟨f, fd, p__law_crock, rfl, h.mg, h.kp, h.fn.binds1 (ps := p__law_crock) (fun kV doc pm an cdv ct us h => match us, h with | [_, _], _ => rfl), ?_⟩
  refine def_sp (k := 0) h.fn sc__law_crock (fun vs H Q E q => by obtain ⟨l, ns, j, rfl, _⟩ := q; rfl) fun X hX => ?_
  have hXg : Fam (g.ctx 0 rN) rSc true X := hX
  have ok : TabOk (g.ctx 0 rN) t_crock := tab_ok B (by decide) .nil
  have bl : ∀ x, x ∈ bltNames → ∀ X, Fam (g.ctx 0 rN) rSc true X → X.mg x = none := fun x hx X hX => by rw [hX.mg]; exact B.blt x hx
  have hint : ∀ X, Fam (g.ctx 0 rN) rSc true X → Gl X "int" ∧ X.mg "int" = none := fun X hX => ⟨fam_gl hX (by decide +kernel), bl _ (by decide) X hX⟩
  have hvis : ∀ X, Fam (g.ctx 0 rN) rSc true X → X.N[0]? = some ("_law_script" : Str) ∧ Vis X.env.scope "_law_script" ∧ X.N[1]? = some ("_law_turn" : Str) ∧ Vis X.env.scope "_law_turn" := fun X hX => ⟨by rw [hX.N]; rfl, fam_vis hX (by decide +kernel), by rw [hX.N]; rfl, fam_vis hX (by decide +kernel)⟩
  have e0 : SCr (Fam (g.ctx 0 rN) rSc true) g.K (asgV (stA s__law_crock 0)) CrC := by
    refine SCr.ite (fun X hX => ⟨hX.K, (hvis X hX).1, (hvis X hX).2.1, (hvis X hX).2.2.1, (hvis X hX).2.2.2, fam_gl hX (by decide +kernel), bl _ (by decide) X hX⟩)
      (SCr.int hint rfl (SCr.cell (fun X hX => ⟨hX.K, hvis X hX⟩) fun ns j h => h.2)) (SCr.add (SCr.pure (f := f2 (binD .Add) (f2 (binD .Mult) (fConst (.int 2237)) (fVar 1)) (fConst (.int 61))) ?_ ?_)
        (SCr.mod (by decide) (SCr.int hint rfl (SCr.sum fun X hX => ⟨hX.K, (hvis X hX).1, (hvis X hX).2.1, fam_gl hX (by decide +kernel), by rw [hX.mg]; exact hsum, hX.calm⟩))))
    · have := (sound ok 40).e rSc true (argA (argA (asgV (stA s__law_crock 0)) 2) 0)
      rw [show cE t_crock (g.ctx 0 rN).N rSc 40 (argA (argA (asgV (stA s__law_crock 0)) 2) 0) = f2 (binD .Add) (f2 (binD .Mult) (fConst (.int 2237)) (fVar 1)) (fConst (.int 61)) by kernel_rfl] at this
      exact this
    · intro j r2 r3
      have : Sm 2237 := by decide
      exact ⟨2237 * j + 61, by simp [f2, fConst, fVar, binD, mul_l this, add_ii]⟩
  obtain ⟨t0, p0, q0⟩ := e0
  obtain ⟨t1, p1, q1⟩ := (sound ok 40).e rSc true (asgV (stA s__law_crock 1))
  obtain ⟨t2, p2, q2⟩ := (sound ok 40).e rSc true (tupA (retV (stA s__law_crock 2)) 0)
  obtain ⟨t3, p3, q3⟩ := (sound ok 40).e rSc true (tupA (retV (stA s__law_crock 2)) 1)
  rw [show cE t_crock (g.ctx 0 rN).N rSc 40 (asgV (stA s__law_crock 1)) = v_great by kernel_rfl] at q1
  rw [show cE t_crock (g.ctx 0 rN).N rSc 40 (tupA (retV (stA s__law_crock 2)) 0) = v_0 by kernel_rfl] at q2
  rw [show cE t_crock (g.ctx 0 rN).N rSc 40 (tupA (retV (stA s__law_crock 2)) 1) = v_1 by kernel_rfl] at q3
  have pl2 : Place X 2 "_law_cell" := place_of hXg ok.nd rfl (by decide +kernel)
  have pl3 : Place X 3 "_law_great" := place_of hXg ok.nd rfl (by decide +kernel)
  have s0 : PS X (stA s__law_crock 0) (tAsg t0 (gName 2)) := ps_set pl2.nd pl2.at_ pl2.loc (p0 X hXg) (swaps_no rfl _ _ _) pl2.ok
  have s1 : PS X (stA s__law_crock 1) (tAsg t1 (gName 3)) := ps_set pl3.nd pl3.at_ pl3.loc (p1 X hXg) (swaps_no rfl _ _ _) pl3.ok
  have s2 : PS X (stA s__law_crock 2) (tRet (tLst (tCons t2 (tCons t3 (tCons (tC (.int 0)) tNil))))) := ps_ret (pe_lst (pa_cons (p2 X hXg) (pa_cons (p3 X hXg) (pa_cons pe_int pa_nil))))
  refine ⟨_, pss_cons s0 (pss_cons s1 (pss_cons s2 pss_nil)), ?_⟩
  rintro vs H Q E ⟨l, ns, j, rfl, hs, hc, hQ⟩
  have he : RE g.K l ns j H (L2.start rN [.ref l, .int j]) none none := ⟨⟨rfl, fun i d e => by
    match i with
    | 0 => cases e
    | 1 => cases e; exact ⟨_, rfl, rfl⟩
    | 2 => cases e
    | 3 => cases e
    | i + 4 => simp at e⟩, rfl, hs⟩
  refine q0 l ns j H _ _ _ _ he hc fun r H1 a1 => ?_
  have e1 : EnvD g.K H1 ((L2.start rN [.ref l, .int j]).set 2 (some (.int r))) [none, some (.int j), some (.int r), none] := (he.same a1).env.set 2 (d := .int r) (v := .int r) rfl
  refine q1 _ H1 _ (.int ((if r < 0 then -r else r).fmod big)) _ e1 ?_ fun v H2 a2 d2 => ?_
  · show ((some (D.int (if r < 0 then -r else r))).bind fun x => ((powD (.int 10) (.int 57)).bind fun x => powD x (.int 6)).bind fun y => modD x y) = _
    rw [pow_57]
    show ((powD (.int big1) (.int 6)).bind fun y => modD (.int (if r < 0 then -r else r)) y) = _
    rw [pow_6]
    exact mod_ii big_nz
  cases d2
  generalize (if r < 0 then -r else r).fmod big = gr
  have e2 := (e1.same a2).set 3 (d := .int gr) (v := .int gr) rfl
  refine q2 _ H2 _ (.int (if gr - 10 ^ 17 > 0 then gr - 10 ^ 17 else 0)) _ e2 ?_ fun v H3 a3 d3 => ?_
  · show ((((powD (.int 10) (.int 17)).bind fun y => subD (.int gr) y).bind fun x => some [x]).bind fun xs => some (D.int 0 :: xs)).bind (fun ds => (max2F ds).or (max3F ds)) = _
    rw [pow17]
    rfl
  cases d3
  have w1 : ∃ y : Int, v_1 [none, some (.int j), some (.int r), some (.int gr)] = some (.int y) := by
    have a73 : Sm 73 := by decide
    have a1153 : Sm 1153 := by decide
    have a23 : Sm 23 := by decide
    by_cases hr : r < 0
    · exact ⟨gr.fmod 1000000000177 * 73 + 1153 * ↑j + 23 + 5, by simp [v_1, f2, fConst, fVar, fCall, aCons, aNil, binD, mod_ii, mul_r a73, mul_l a1153, mul_l a23, add_ii, cmp_lt, intF, hr]⟩
    · exact ⟨gr.fmod 1000000000177 * 73 + 1153 * ↑j + 5, by simp [v_1, f2, fConst, fVar, fCall, aCons, aNil, binD, mod_ii, mul_r a73, mul_l a1153, mul_l a23, add_ii, cmp_lt, intF, hr]⟩
  obtain ⟨y, ey⟩ := w1
  refine q3 _ H3 _ (.int y) _ (e2.same a3) ey fun v H4 a4 d4 => ?_
  cases d4
  refine ⟨le1000 (by simp), fun p hp => ?_⟩
  have a14 := a1.trans (a2.trans (a3.trans a4))
  exact hQ p _ _ _ _ (a14.trans (same_new hp)) (by cases q : H p with | none => rfl | some u => rw [a14 _ _ q] at hp; cases hp) upd_same
end FR
end
section
set_option Elab.async false
set_option linter.all false
set_option maxRecDepth 100000
set_option maxHeartbeats 4000000
/-! _law_right and law. -/
namespace FR
open PySem PySem.Spec PyProof.Rows L2 DV
def eqR (A : Ads) : D → D → Option D := fun d e => (cmpD .Eq d e).or (eqOb A.CF (f_Form_eq A) d e)
def t_right (A : Ads) : Tab := { consts := consts0, fns := [("_law_is_due", 1, f__law_is_due), ("least_form", 1, f_least_form A), ("is_least", 1, f_is_least A)], cls := clT A, slots := slT A, prop := [("coefficients", A.CF, f_Form_coefficients A)], makes := [("Form", 1, A.CF, m_form A)], eq := some (A.CF, f_Form_eq A) }
def r_right (A : Ads) : FS := (sSeq (sSet 2 (fCall (aCons (fVar 1) aNil) f__law_is_due)) (sSeq (sIf (tOr2 (fT (f2 (cmpD .NotEq) (fCall (aCons (fMake A.CF (aCons (fVar 1) aNil) (m_form A)) aNil) (f_is_least A)) (fVar 2))) (fT (f2 (cmpD .NotEq) (f2 (eqR A) (fCall (aCons (fMake A.CF (aCons (fVar 1) aNil) (m_form A)) aNil) (f_least_form A)) (fMake A.CF (aCons (fVar 1) aNil) (m_form A))) (fVar 2)))) (sSeq (sRet (fConst (.bl false))) sNil) sNil) (sSeq (sRet (fOr (fCall (aCons (fAttrP (slT A) "coefficients" A.CF (f_Form_coefficients A) (fCall (aCons (fMake A.CF (aCons (fVar 1) aNil) (m_form A)) aNil) (f_least_form A))) aNil) f__law_is_due) (f2 (cmpD .Gt) (fCall (aCons (fComp (iSeq (fVar 1)) [3] (gVar 3) tTrue (fCall (aCons (fVar 3) aNil) absF)) aNil) (fun ds => (max2F ds).or (max3F ds))) (fConst (.int 9))))) sNil)))
def r_rows (A : Ads) : FS := (sSeq (sSet 2 (fLst (aCons (fTup (aCons (fConst (.int 1)) (aCons (fConst (.int 1)) (aCons (fConst (.int 2)) (aCons (fConst (.int 1)) aNil))))) (aCons (fTup (aCons (fConst (.int 1)) (aCons (fConst (.int 2)) (aCons (fNeg (fConst (.int 1))) (aCons (fNeg (fConst (.int 1))) aNil))))) (aCons (fTup (aCons (fConst (.int 0)) (aCons (fConst (.int 1)) (aCons (fConst (.int 1)) (aCons (fConst (.int 0)) aNil))))) (aCons (fTup (aCons (fConst (.int 1)) (aCons (fConst (.int 0)) (aCons (fConst (.int 0)) (aCons (fNeg (fConst (.int 2))) aNil))))) (aCons (fTup (aCons (fConst (.int 1)) (aCons (fConst (.int 3)) (aCons (fConst (.int 3)) (aCons (fConst (.int 3)) aNil))))) (aCons (fTup (aCons (fConst (.int 0)) (aCons (fConst (.int 1)) (aCons (fConst (.int 1)) (aCons (fConst (.int 6)) aNil))))) (aCons (fTup (aCons (fConst (.int 0)) (aCons (fConst (.int 1)) (aCons (fNeg (fConst (.int 1))) (aCons (fConst (.int 6)) aNil))))) (aCons (fTup (aCons (fConst (.int 0)) (aCons (fConst (.int 0)) (aCons (fConst (.int 2)) (aCons (fConst (.int 1)) aNil))))) aNil)))))))))) (sSeq (sRet (f2 (cmpD .Eq) (fComp (iSeq (fVar 2)) [5] (gVar 5) tTrue (fCall (aCons (fMake A.CF (aCons (fVar 5) aNil) (m_form A)) aNil) (f_is_least A))) (fLst (aCons (fConst (.bl true)) (aCons (fConst (.bl true)) (aCons (fConst (.bl true)) (aCons (fConst (.bl false)) (aCons (fConst (.bl true)) (aCons (fConst (.bl true)) (aCons (fConst (.bl false)) (aCons (fConst (.bl true)) aNil))))))))))) sNil))
/-- what the plain law must say -/
structure Chk (A : Ads) : Prop where
  right : ∀ f, InB 4 f → r_right A [none, some (enc4 f), none, none] = some (.rt (.bl true))
  rows : r_rows A [none, none, none, none, none, none] = some (.rt (.bl true))
abbrev jN : List Str := n__law_right
def jSc : Scope := defScope s__law_right
theorem q_right (A : Ads) : cSs (t_right A) jN jSc 60 ((defBody s__law_right).drop 1) = r_right A := by kernel_rfl
def spRight : Sp := fun vs H Q _ => ∃ (c : Addr) (x y z : Int), vs = [.ref c] ∧ Crk H c x y z ∧ ∀ H' x' y' z', OffC c H H' → Crk H' c x' y' z' → Q (.bl true) H'
theorem tab_right {g : G} {A : Ads} {k : Nat} (B : Base g) (O : Objs g A) (g1 : Got g (k + 3) "_law_is_due" 1 f__law_is_due) (g2 : Got g (k + 3) "least_form" 1 (f_least_form A)) (g3 : Got g (k + 3) "is_least" 1 (f_is_least A)) (gm : MkO g (k + 2) "Form" 1 A.CF (m_form A)) : TabOk (g.ctx (k + 3) jN) (t_right A) where
  nd := by show jN.Nodup; decide
  const := B.const
  fn := fun x n m e => by
    obtain ⟨h0, f, fd, ps, h1, h2, h3, h4, h5⟩ := (AllG.cons g1 (.cons g2 (.cons g3 .nil))).get x n m e
    exact ⟨h0, k + 3, f, fd, ps, h1, Nat.le_refl _, h2, h3, h4, h5⟩
  blt := B.blt
  gcd := B.gcd
  sqrt := B.sqrt
  cls := clT_ok O
  slot := slT_ok O
  prop := fun f C m e => by
    have e : List.lookup f [(("coefficients" : Str), A.CF, f_Form_coefficients A)] = some (C, m) := e
    rw [List.lookup_cons] at e
    split at e
    · rename_i q
      cases e
      rw [beq_iff_eq.mp q]
      obtain ⟨pa, ga, fd, h1, h2, h3, h4, h5⟩ := O.prop
      exact ⟨O.form.c.cls, pa, ga, k + 2, h1, h2, h3, h4, Nat.le_refl _, fnr_Form_coefficients (k := k) B O h5⟩
    · cases e
  make := fun x n C m e => by
    obtain ⟨h0, f, fd, ps, h1, h2, h3, h4, h5⟩ := (AllM.cons gm .nil).get x n C m e
    exact ⟨h0, k + 2, f, fd, ps, h1, Nat.le_refl _, h2, h3, h4, h5⟩
  eq := fun C m e => by
    cases e
    obtain ⟨ga, fd, h1, h2, h3, h4⟩ := O.eq
    exact ⟨ga, k + 2, h1, h2, h3, Nat.le_succ _, fnr_Form_eq (k := k) B O h4⟩
theorem right_ok {g : G} {A : Ads} {k : Nat} (B : Base g) (O : Objs g A) (C : Chk A) (h : ∃ f fd, Has g "_law_right" s__law_right f fd) (g0 : SpO g (k + 3) "_law_drawn" 1 (spDraw g.K 0 (fun ds => ds = []) (InB 4)))
    (g1 : Got g (k + 3) "_law_is_due" 1 f__law_is_due) (g2 : Got g (k + 3) "least_form" 1 (f_least_form A)) (g3 : Got g (k + 3) "is_least" 1 (f_is_least A)) (gm : MkO g (k + 2) "Form" 1 A.CF (m_form A)) : SpO g (k + 4) "_law_right" 1 spRight := by
  obtain ⟨f, fd, h⟩ := h
  refine ⟨f, fd, p__law_right, rfl, h.mg, h.kp, h.fn.binds1 (ps := p__law_right) (fun kV doc pm an cdv ct us h => match us, h with | [_], _ => rfl), ?_⟩
  refine def_sp (k := k + 3) h.fn sc__law_right (fun vs H Q E q => by obtain ⟨c, x, y, z, rfl, _⟩ := q; rfl) fun X hX => ?_
  have hXg : Fam (g.ctx (k + 3) jN) jSc true X := hX
  have ok := tab_right B O g1 g2 g3 gm
  obtain ⟨t1, p1, q1⟩ := (soundS ok jSc 60).ss ((defBody s__law_right).drop 1)
  rw [show cSs (t_right A) (g.ctx (k + 3) jN).N jSc 60 ((defBody s__law_right).drop 1) = r_right A from q_right A] at q1
  obtain ⟨fm, fdm, psm, m1, m2, m3, m4, m5⟩ := g0
  have v0 : X.N[0]? = some ("_law_crock_here" : Str) := by rw [hX.N]; rfl
  have pl : Place X 1 "_law_form" := place_of hXg ok.nd rfl (by decide +kernel)
  have s0 : PS X (stA s__law_right 0) (tAsg (tCall (spDraw g.K 0 (fun ds => ds = []) (InB 4)) [] E0 (tCons (tVar 0) tNil)) (gName 1)) :=
    ps_set pl.nd pl.at_ pl.loc (pe_call (by rw [hX.P, hX.w, hX.K, hX.mg, hX.base]; exact m5) hX.room (fam_gl hXg (by decide +kernel)) (by rw [hX.mg]; exact m2) (by rw [hX.K]; exact m3) (by rw [hX.K]; exact m4) .nil pass0 (pa_cons (pe_var v0 (fam_vis hXg (by decide +kernel)) (by decide) (by decide)) pa_nil)) (swaps_no rfl _ _ _) pl.ok
  refine ⟨_, pss_cons s0 (p1 X hXg), ?_⟩
  rintro vs H Q E ⟨c, x, y, z, rfl, hc, hQ⟩
  refine ⟨.ref c, rfl, c, x, y, z, [], [], rfl, rfl, DenL.nil, rfl, rfl, hc, fun H1 f a x1 y1 z1 o1 c1 hP hd => ?_⟩
  have he : EnvD g.K H1 ((L2.start jN [.ref c]).set 1 (some (.ref a))) [none, some (enc4 f), none, none] := ⟨rfl, fun i d e => by
    match i with
    | 0 => cases e
    | 1 => cases e; exact ⟨_, rfl, hd⟩
    | 2 => cases e
    | 3 => cases e
    | i + 4 => simp at e⟩
  refine q1 _ H1 _ (.rt (.bl true)) _ he (C.right f hP) fun v H2 s2 d2 => ?_
  cases d2
  exact hQ H2 x1 y1 z1 (o1.trans (OffC.of s2)) (s2 _ _ c1)
/-! ### law -/
abbrev vN : List Str := n_law
def vSc : Scope := defScope s_law
def t_law (A : Ads) : Tab := { consts := consts0, fns := [("is_least", 1, f_is_least A)], cls := clT A, slots := slT A, makes := [("Form", 1, A.CF, m_form A)] }
theorem q_rows (A : Ads) : cSs (t_law A) vN vSc 60 ((defBody s_law).drop 1) = r_rows A := by kernel_rfl
def spLaw (K : PySem.W.Frag) : Sp := fun vs H Q _ => ∃ (l : Addr) (ns : List Int), vs = [.ref l] ∧ SqL K H l (ns.map V.int) ∧ ∀ H', Q (.bl true) H'
theorem law_ok {g : G} {A : Ads} {k : Nat} (B : Base g) (O : Objs g A) (C : Chk A) {f : Addr} {fd : FuncData} (h : Has g "law" s_law f fd) (g1 : SpO g (k + 4) "_law_crock" 2 (spCrock g.K)) (g2 : SpO g (k + 4) "_law_right" 1 spRight) (g3 : Got g (k + 4) "is_least" 1 (f_is_least A)) (gm : MkO g (k + 3) "Form" 1 A.CF (m_form A)) :
    FnOk g.P g.w g.K g.mg g.base CX0 (k + 5) f fd p_law (spLaw g.K) := by
  refine def_sp (k := k + 4) h.fn sc_law (fun vs H Q E q => by obtain ⟨l, ns, rfl, _⟩ := q; rfl) fun X hX => ?_
  have hXg : Fam (g.ctx (k + 4) vN) vSc true X := hX
  have ok : TabOk (g.ctx (k + 4) vN) (t_law A) := tab_okO (k := k + 3) B O (by decide) (.cons g3 .nil) (.cons gm .nil)
  have bl : ∀ x, x ∈ bltNames → X.mg x = none := fun x hx => by rw [hX.mg]; exact B.blt x hx
  obtain ⟨t9, p9, q9⟩ := (soundS ok vSc 60).ss ((defBody s_law).drop 1)
  rw [show cSs (t_law A) (g.ctx (k + 4) vN).N vSc 60 ((defBody s_law).drop 1) = r_rows A from q_rows A] at q9
  obtain ⟨rx, prx, qrx⟩ := callS_max (F := Fam (g.ctx (k + 4) vN) vSc true) (K := g.K) (fun X hX => hX.calm)
  obtain ⟨rm, prm, qrm⟩ := callS_min (F := Fam (g.ctx (k + 4) vN) vSc true) (K := g.K) (fun X hX => hX.calm)
  obtain ⟨fc, fdc, psc, c1, c2, c3, c4, c5⟩ := g1
  obtain ⟨fr, fdr, psr, r1, r2, r3, r4, r5⟩ := g2
  have pv := fun (i : Nat) (x : Str) (hi : X.N[i]? = some x) (hv : isVar (vSc.names.lookup x) = true) (ho : okName x = true) (p : Pos) => pe_var (X := X) (pos := p) hi (fam_vis hXg hv) (okName_ok ho).1 (okName_ok ho).2.1
  have v0 := pv 0 "_law_script" (by rw [hX.N]; rfl) (by decide +kernel) (by decide +kernel)
  have v1 := pv 1 "_law_turn" (by rw [hX.N]; rfl) (by decide +kernel) (by decide +kernel)
  have v3 := pv 3 "_law_crock_here" (by rw [hX.N]; rfl) (by decide +kernel) (by decide +kernel)
  have pl1 : Place X 1 "_law_turn" := place_of hXg ok.nd rfl (by decide +kernel)
  have pl3 : Place X 3 "_law_crock_here" := place_of hXg ok.nd rfl (by decide +kernel)
  have pl4 : Place X 4 "_law_case" := place_of hXg ok.nd rfl (by decide +kernel)
  have sc : PS X (ifA (stA s_law 0) 0) (tAsg (tCall (spCrock g.K) [] E0 (tCons (tVar 0) (tCons (tVar 1) tNil))) (gName 3)) :=
    ps_set pl3.nd pl3.at_ pl3.loc (pe_call (by rw [hX.P, hX.w, hX.K, hX.mg, hX.base]; exact c5) hX.room (fam_gl hXg (by decide +kernel)) (by rw [hX.mg]; exact c2) (by rw [hX.K]; exact c3) (by rw [hX.K]; exact c4) .nil pass0 (pa_cons (v0 _) (pa_cons (v1 _) pa_nil))) (swaps_no rfl _ _ _) pl3.ok
  have er : PE X (argA (ifC (ifA (ifA (stA s_law 0) 1) 0)) 0) (tCall spRight [] E0 (tCons (tVar 3) tNil)) :=
    pe_call (by rw [hX.P, hX.w, hX.K, hX.mg, hX.base]; exact r5) hX.room (fam_gl hXg (by decide +kernel)) (by rw [hX.mg]; exact r2) (by rw [hX.K]; exact r3) (by rw [hX.K]; exact r4) .nil pass0 (pa_cons (v3 _) pa_nil)
  obtain ⟨tr, ptr, _⟩ := (soundS ok vSc 60).ss (ifB (ifA (ifA (stA s_law 0) 1) 0))
  have sif : PS X (ifA (ifA (stA s_law 0) 1) 0) (tIfS (tNot (tB (tCall spRight [] E0 (tCons (tVar 3) tNil)))) tr tNext) := ps_if (pt_not (pt_val er fun _ => rfl)) (ptr X hXg) pss_nil
  have sin : PS X (ifA (stA s_law 0) 1) (tFor (iRng1 (tCons (tC (.int 15)) tNil)) (gName 4) (tSeq (tIfS (tNot (tB (tCall spRight [] E0 (tCons (tVar 3) tNil)))) tr tNext) tNext)) :=
    ps_for hX.po hX.calm (pi_range1 (fam_gl hXg (by decide +kernel)) (bl _ (by decide)) (pa_cons pe_int pa_nil)) (pg_name pl4.nd pl4.at_ pl4.loc pl4.ok) (pss_cons sif pss_nil)
  have it : PI X (forT (stA s_law 0)) (forI (stA s_law 0)) (iRng1 (tCons (tCB rx (tCons (tC (.int 1)) (tCons (tCB rm (tCons (tC (.int 2)) (tCons (tCB (rLen X.K) (tCons (tVar 0) tNil)) tNil))) tNil))) tNil)) :=
    pi_range1 (fam_gl hXg (by decide +kernel)) (bl _ (by decide)) (pa_cons (pe_callB (prx X hXg) (fam_gl hXg (by decide +kernel)) (bl _ (by decide)) (by decide +kernel) (pa_cons pe_int (pa_cons (pe_callB (prm X hXg) (fam_gl hXg (by decide +kernel)) (bl _ (by decide)) (by decide +kernel) (pa_cons pe_int (pa_cons (pe_callB call_len (fam_gl hXg (by decide +kernel)) (bl _ (by decide)) boot_len (pa_cons (v0 _) pa_nil)) pa_nil))) pa_nil))) pa_nil)
  have sout : PS X (stA s_law 0) (tFor (iRng1 (tCons (tCB rx (tCons (tC (.int 1)) (tCons (tCB rm (tCons (tC (.int 2)) (tCons (tCB (rLen X.K) (tCons (tVar 0) tNil)) tNil))) tNil))) tNil)) (gName 1) (tSeq (tAsg (tCall (spCrock g.K) [] E0 (tCons (tVar 0) (tCons (tVar 1) tNil))) (gName 3)) (tSeq (tFor (iRng1 (tCons (tC (.int 15)) tNil)) (gName 4) (tSeq (tIfS (tNot (tB (tCall spRight [] E0 (tCons (tVar 3) tNil)))) tr tNext) tNext)) tNext))) :=
    ps_for hX.po hX.calm it (pg_name pl1.nd pl1.at_ pl1.loc pl1.ok) (pss_cons sc (pss_cons sin pss_nil))
  refine ⟨_, pss_cons sout (p9 X hXg), ?_⟩
  rintro vs H Q E ⟨l, ns, rfl, hs, hQ⟩
  have eK : X.K = g.K := hX.K
  refine ⟨.ref l, rfl, ⟨V.ref l, (ns.map V.int).length, rfl, .inl ⟨_, by rw [eK]; exact hs, rfl⟩, ?_⟩⟩
  refine qrm [.int 2, .int ((ns.map V.int).length : Nat)] [.int 2, .int ((ns.map V.int).length : Nat)] _ H _ (DenL.of_ints (ns := [2, ((ns.map V.int).length : Nat)])) rfl fun w H1 a1 d1 => ?_
  cases d1
  refine qrx [.int 1, .int _] [.int 1, .int _] _ H1 _ (DenL.of_ints (ns := [1, _])) rfl fun w H2 a2 d2 => ?_
  cases d2
  generalize hn : (if (if (((ns.map V.int).length : Nat) : Int) < 2 then (((ns.map V.int).length : Nat) : Int) else 2) > 1 then (if (((ns.map V.int).length : Nat) : Int) < 2 then (((ns.map V.int).length : Nat) : Int) else 2) else 1) = n
  have hn2 : 1 ≤ n ∧ n ≤ 2 := by
    rw [← hn]
    split
    · split at * <;> omega
    · omega
  refine ⟨n, rfl, by omega, by omega, ?_⟩
  have aH := a1.trans a2
  refine ⟨fun i m σ H4 => m = n.toNat - i ∧ i ≤ n.toNat ∧ Same H H4 ∧ σ.length = 6 ∧ σ[0]? = some (some (.ref l)), ⟨n.toNat, rfl, Nat.zero_le _, aH, rfl, rfl⟩, ?_⟩
  rintro i m σ H4 ⟨rfl, hi, s4, hl, h0⟩
  by_cases hlt : i < n.toNat
  · refine .inr ⟨hlt, fun σ' H5 => n.toNat - (i + 1) < n.toNat - i ∧ i + 1 ≤ n.toNat ∧ Same H H5 ∧ σ'.length = 6 ∧ σ'[0]? = some (some (.ref l)), fun σ' H5 h => ⟨_, h.1, rfl, h.2⟩, ?_⟩
    rintro v H5 ⟨rfl, rfl⟩
    have l1 : (σ.set 1 (some (.int (0 + (i : Int))))).length = 6 := by rw [List.length_set]; exact hl
    have e0 : (σ.set 1 (some (.int (0 + (i : Int)))))[0]? = some (some (.ref l)) := by rw [List.getElem?_set_ne (by decide)]; exact h0
    have e1 : (σ.set 1 (some (.int (0 + (i : Int)))))[1]? = some (some (.int (i : Int))) := by rw [List.getElem?_set_self (by omega), Int.zero_add]
    refine ⟨_, e0, _, e1, ?_⟩
    refine ⟨l, ns, i, rfl, seqL_same s4 hs, by unfold CrC; omega, fun c H6 x y z s6 hc hcr => ?_⟩
    have s46 : Same H H6 := s4.trans s6
    have h6n : H c = none := by cases q : H c with | none => rfl | some u => have := s4 _ _ q; rw [hc] at this; cases this
    -- the inner loop
    refine ⟨15, rfl, by decide, by decide, ?_⟩
    refine ⟨fun j k σ' H7 => k = 15 - j ∧ j ≤ 15 ∧ OffC c H6 H7 ∧ (∃ x y z, Crk H7 c x y z) ∧ σ'.length = 6 ∧ σ'[0]? = some (some (.ref l)) ∧ σ'[3]? = some (some (.ref c)), ⟨15, rfl, Nat.zero_le _, OffC.refl, ⟨x, y, z, hcr⟩, by rw [List.length_set]; exact l1, by rw [List.getElem?_set_ne (by decide)]; exact e0, List.getElem?_set_self (by omega)⟩, ?_⟩
    rintro j k' σ' H7 ⟨rfl, hj, o7, ⟨x7, y7, z7, c7⟩, l7, f0, f3⟩
    by_cases hj2 : j < 15
    · refine .inr ⟨hj2, fun σ8 H8 => 15 - (j + 1) < 15 - j ∧ j + 1 ≤ 15 ∧ OffC c H6 H8 ∧ (∃ x y z, Crk H8 c x y z) ∧ σ8.length = 6 ∧ σ8[0]? = some (some (.ref l)) ∧ σ8[3]? = some (some (.ref c)), fun σ8 H8 h => ⟨_, h.1, rfl, h.2⟩, ?_⟩
      rintro v H8 ⟨rfl, rfl⟩
      refine ⟨.ref c, by rw [List.getElem?_set_ne (by decide)]; exact f3, ?_⟩
      refine ⟨c, x7, y7, z7, rfl, c7, fun H9 x9 y9 z9 o9 c9 => ⟨true, rfl, ?_⟩⟩
      exact ⟨by omega, by omega, o7.trans o9, ⟨x9, y9, z9, c9⟩, by rw [List.length_set]; exact l7, by rw [List.getElem?_set_ne (by decide)]; exact f0, by rw [List.getElem?_set_ne (by decide)]; exact f3⟩
    · refine .inl ⟨by show 15 ≤ j; omega, ?_⟩
      refine ⟨by omega, by omega, fun b o e => ?_, l7, f0⟩
      exact o7 b o (fun q => by rw [q, h6n] at e; cases e) (s46 _ _ e)
  · refine .inl ⟨by show n.toNat ≤ i; omega, ?_⟩
    have he : EnvD g.K H4 σ [none, none, none, none, none, none] := ⟨hl, fun i d e => by
      match i with
      | 0 => cases e
      | 1 => cases e
      | 2 => cases e
      | 3 => cases e
      | 4 => cases e
      | 5 => cases e
      | i + 6 => simp at e⟩
    refine q9 σ H4 _ (.rt (.bl true)) _ he C.rows fun v H5 s5 d5 => ?_
    cases d5
    exact hQ H5
theorem got_greatest {g : G} {k : Nat} (B : Base g) (h : ∃ f fd, Has g "_law_is_greatest" s__law_is_greatest f fd) (g1 : Got g k "_law_hessian" 1 z_hessian_of) (g2 : Got g k "_law_led" 2 z_form_led) : Got g (k + 1) "_law_is_greatest" 1 (m_greatest t__law_is_greatest) := by
  obtain ⟨f, fd, h⟩ := h
  refine ⟨fun ds d q => ?_, f, fd, ["_law_form"], rfl, h.mg, h.kp, h.fn.binds1 (ps := ["_law_form"]) (fun kV doc pm an cdv ct us h => match us, h with | [_], _ => rfl), ok_greatest h.fn (tab_ok B (by decide) (.cons g1 (.cons g2 .nil)))⟩
  unfold m_greatest at q
  split at q
  · assumption
  · cases q
end FR
end
section
set_option Elab.async false
set_option linter.all false
set_option maxRecDepth 100000
set_option maxHeartbeats 4000000
/-! The whole walk, from the facts of the module behind its top. Printed by wip/gen7.py. -/
namespace FR
open PySem PySem.Spec PyProof.Rows L2 DV
/-- the defs -/
def defsL : List (Str × Stmt) := [(("is_whole" : Str), s_is_whole), (("is_integer" : Str), s_is_integer), (("common_of" : Str), s_common_of), (("joined_in" : Str), s_joined_in), (("are_integers" : Str), s_are_integers), (("content_of" : Str), s_content_of), (("lowest_place" : Str), s_lowest_place), (("places_of_double" : Str), s_places_of_double), (("monic_at" : Str), s_monic_at), (("bisected" : Str), s_bisected), (("form_at" : Str), s_form_at), (("form_led" : Str), s_form_led), (("discriminant_of" : Str), s_discriminant_of), (("hessian_of" : Str), s_hessian_of), (("small_changes" : Str), s_small_changes), (("way_to_small" : Str), s_way_to_small), (("led_above" : Str), s_led_above), (("bezout" : Str), s_bezout), (("end_change" : Str), s_end_change), (("is_small" : Str), s_is_small), (("is_between" : Str), s_is_between), (("is_not_past" : Str), s_is_not_past), (("best_shift" : Str), s_best_shift), (("double_place" : Str), s_double_place), (("with_first" : Str), s_with_first), (("last_way" : Str), s_last_way), (("led_zero" : Str), s_led_zero), (("require_short" : Str), s_require_short), (("_law_lines" : Str), s__law_lines), (("_law_led" : Str), s__law_led), (("_law_discriminant" : Str), s__law_discriminant), (("_law_at" : Str), s__law_at), (("_law_has_root" : Str), s__law_has_root), (("_law_is_mathews" : Str), s__law_is_mathews), (("_law_hessian" : Str), s__law_hessian), (("monic_roots" : Str), s_monic_roots), (("places_of_cubic" : Str), s_places_of_cubic), (("lead_with_root" : Str), s_lead_with_root), (("lead_without_root" : Str), s_lead_without_root), (("led_below" : Str), s_led_below), (("form_told" : Str), s_form_told), (("made_form" : Str), s_made_form), (("require_form" : Str), s_require_form), (("least_of" : Str), s_least_of), (("least_row" : Str), s_least_row), (("least_made" : Str), s_least_made), (("is_least" : Str), s_is_least), (("least_form" : Str), s_least_form), (("_law_is_greatest" : Str), s__law_is_greatest), (("_law_is_due" : Str), s__law_is_due), (("_law_scoop" : Str), s__law_scoop), (("_law_small" : Str), s__law_small), (("_law_drawn" : Str), s__law_drawn), (("_law_crock" : Str), s__law_crock), (("_law_right" : Str), s__law_right), (("law" : Str), s_law)]
structure Facts (g : G) (A : Ads) : Prop where
  B : Base g
  O : Objs g A
  sorted : g.mg "sorted" = none
  sum : g.mg "sum" = none
  has : ∀ (i : Nat) (q : Str × Stmt), defsL[i]? = some q → ∃ f fd, Has g q.1 q.2 f fd
theorem law_all {g : G} {A : Ads} (F : Facts g A) (C : Chk A) {f : Addr} {fd : FuncData} (hL : Has g "law" s_law f fd) : FnOk g.P g.w g.K g.mg g.base CX0 20 f fd p_law (spLaw g.K) := by
  have B := F.B
  have O := F.O
  have g_is_whole := (got_is_whole B (F.has 0 _ rfl))
  have g_is_integer := (got_is_integer B (F.has 1 _ rfl) (g_is_whole.mono (by decide)))
  have g_common_of := (got_common_of B (F.has 2 _ rfl))
  have g_joined_in := (zot_joined_in B (F.has 3 _ rfl))
  have g_are_integers := (got_are_integers B (F.has 4 _ rfl) (g_is_integer.mono (by decide)))
  have g_content_of := (got_content_of B (F.has 5 _ rfl) (g_common_of.mono (by decide)))
  have g_lowest_place := (got_lowest_place B (F.has 6 _ rfl) (g_common_of.mono (by decide)))
  have g_places_of_double := (got_places_of_double B (F.has 7 _ rfl) (g_lowest_place.mono (by decide)))
  have g_monic_at := (zot_monic_at B (F.has 8 _ rfl))
  have g_bisected := (got_bisected B (F.has 9 _ rfl) (g_monic_at.mono (by decide)))
  have sb := fresh_bisected B (F.has 9 _ rfl) g_monic_at
  have g_form_at := (zot_form_at B (F.has 10 _ rfl))
  have g_form_led := (zot_form_led B (F.has 11 _ rfl) (g_form_at.mono (by decide)))
  have g_discriminant_of := (zot_discriminant_of B (F.has 12 _ rfl))
  have g_hessian_of := (zot_hessian_of B (F.has 13 _ rfl))
  have g_small_changes := (got_small_changes B (F.has 14 _ rfl))
  have g_way_to_small := (got_way_to_small B (F.has 15 _ rfl) (g_joined_in.mono (by decide)) (g_hessian_of.mono (by decide)))
  have g_led_above := (got_led_above B (F.has 16 _ rfl) (g_joined_in.mono (by decide)) (g_small_changes.mono (by decide)) (g_hessian_of.mono (by decide)) (g_form_led.mono (by decide)) (g_way_to_small.mono (by decide))).imp k_led_above
  have g_bezout := (got_bezout B (F.has 17 _ rfl))
  have g_end_change := (got_end_change B (F.has 18 _ rfl) (g_bezout.mono (by decide)))
  have g_is_small := (zot_is_small B (F.has 19 _ rfl))
  have g_is_between := (zot_is_between B (F.has 20 _ rfl))
  have g_is_not_past := (zot_is_not_past B (F.has 21 _ rfl) (g_form_at.mono (by decide)))
  have g_best_shift := (got_best_shift B (F.has 22 _ rfl) (g_is_not_past.mono (by decide)))
  have g_double_place := (got_double_place B (F.has 23 _ rfl) (g_content_of.mono (by decide)) (g_hessian_of.mono (by decide)))
  have g_with_first := (got_with_first B (F.has 24 _ rfl))
  have g_last_way := (got_last_way B (F.has 25 _ rfl) (g_joined_in.mono (by decide)))
  have g_led_zero := (got_led_zero B (F.has 26 _ rfl) (g_form_led.mono (by decide)) (g_joined_in.mono (by decide)) (g_last_way.mono (by decide)) (g_with_first.mono (by decide)) (g_double_place.mono (by decide)))
  have g_require_short := (got_require_short B (F.has 27 _ rfl))
  have g__law_lines := (got__law_lines B (F.has 28 _ rfl))
  have g__law_led := (zot__law_led B (F.has 29 _ rfl) (g__law_lines.mono (by decide)))
  have g__law_discriminant := (zot__law_discriminant B (F.has 30 _ rfl))
  have g__law_at := (zot__law_at B (F.has 31 _ rfl))
  have g__law_has_root := (got__law_has_root B (F.has 32 _ rfl) (g__law_at.mono (by decide)))
  have g__law_is_mathews := (zot__law_is_mathews B (F.has 33 _ rfl))
  have g__law_hessian := (zot__law_hessian B (F.has 34 _ rfl))
  have g_monic_roots := got_monic_roots B (F.has 35 _ rfl) sb
  have g_cubic := got_places_of_cubic B F.sorted (F.has 36 _ rfl) (g_lowest_place.mono (by decide)) g_monic_roots (g_places_of_double.mono (by decide))
  have st : StepF g A 4 := step_ok (k := 2) B O (g_form_led.mono (by decide)) (g_joined_in.mono (by decide))
  have wr := lwr_sws (k := 3) B O st (g_end_change.mono (by decide))
  have wo := lwo_sws (k := 3) B O st (g_is_between.mono (by decide)) (g_is_small.mono (by decide)) (g_best_shift.mono (by decide))
  have lr : SpO g 5 "lead_with_root" 2 (spW g.K A.CW 1 m_lwr) := lead_ok (p := "walk") (ps := ["place"]) (F.has 37 _ rfl) sc_lead_with_root (fun kV doc pm an cdv ct us h => match us, h with | [_, _], _ => rfl) wr (mw_lwr A O.ne)
  have lo : SpO g 5 "lead_without_root" 1 (spW g.K A.CW 0 m_lwo) := lead_ok (p := "walk") (ps := []) (F.has 38 _ rfl) sc_lead_without_root (fun kV doc pm an cdv ct us h => match us, h with | [_], _ => rfl) wo (mw_lwo A O.ne)
  have g_led_below := got_led_below (k := 4) B O (F.has 39 _ rfl) (mk_walk (k := 3) B O) (g_cubic.mono (by decide)) lr lo
  have g_form_told := got_form_told (k := 2) B O (F.has 40 _ rfl) (g_are_integers.mono (by decide))
  have mF := mk_form (k := 3) B O g_form_told
  have mK := mk_kept (k := 3) (g := g) B O
  have g_made_form := got_made_form (k := 5) B O (F.has 41 _ rfl) mF mK
  have g_require_form := got_require_form (k := 0) B O (F.has 42 _ rfl)
  have g_least_of := got_least_of (k := 7) B O (F.has 43 _ rfl) (g_led_above.mono (by decide)) (g_led_below.mono (by decide)) (g_led_zero.mono (by decide)) (g_discriminant_of.mono (by decide))
  have g_least_row := got_least_row (k := 8) B O (F.has 44 _ rfl) g_least_of
  have g_least_made := got_least_made (k := 9) B O (F.has 45 _ rfl) (g_made_form.mono (by decide)) g_least_row
  have g_is_least := got_is_least (k := 10) B O (F.has 46 _ rfl) (g_least_of.mono (by decide)) (g_require_short.mono (by decide)) (g_require_form.mono (by decide))
  have g_least_form := got_least_form (k := 10) B O (F.has 47 _ rfl) g_least_made (g_require_short.mono (by decide)) (g_require_form.mono (by decide))
  have g_greatest : Got g 12 "_law_is_greatest" 1 (m_greatest t__law_is_greatest) := got_greatest (k := 11) B (F.has 48 _ rfl) (g__law_hessian.mono (by decide)) (g__law_led.mono (by decide))
  have g_due := got__law_is_due (k := 11) B (F.has 49 _ rfl) (g__law_is_mathews.mono (by decide)) (g__law_has_root.mono (by decide)) g_greatest (g__law_discriminant.mono (by decide))
  have sc := scoop_ok B (F.has 50 _ rfl)
  have sm := law_small_ok (b := 4) B (F.has 51 _ rfl) sc (by decide) (by decide)
  have dr := drawn_ok B (F.has 52 _ rfl) (sc.mono (by decide)) sm
  have cr := crock_ok B F.sum (F.has 53 _ rfl)
  have ri := right_ok (k := 10) B O C (F.has 54 _ rfl) (dr.mono (by decide)) g_due (g_least_form.mono (by decide)) (g_is_least.mono (by decide)) (mF.mono (by decide))
  exact (law_ok (k := 10) B O C hL (cr.mono (by decide)) ri (g_is_least.mono (by decide)) (mF.mono (by decide))).mono (by decide)
end FR
end
section
set_option Elab.async false
set_option linter.all false
set_option maxRecDepth 100000
set_option maxHeartbeats 4000000
/-! From the head's answers to the facts of the walk. -/
namespace FR
open PySem PySem.Spec PyProof.Rows L2 DV He
mutual
theorem isD_ok {K : PySem.W.Frag} : ∀ (d : D) (v : Value), isD K d v = true → ∃ x, RelV x v ∧ ∀ H, Den K H d x
  | .int i, .int j t, h => by
    have e : j = i := of_decide_eq_true h
    subst e
    exact ⟨.int j, ⟨t, rfl⟩, fun _ => rfl⟩
  | .tup ds, .ref a, h => by
    unfold isD at h
    cases q : K.lookup a with
    | none => rw [q] at h; cases h
    | some o =>
      obtain ⟨oc, od, dt, osl⟩ := o
      rw [q] at h
      cases oc with
      | type c =>
        cases dt with
        | seq its n =>
          have h : (decide (c = "tuple") && (decide (its.size ≤ sizeLine) && isDL K ds its.toList)) = true := h
          obtain ⟨h1, h2⟩ := ba h
          obtain ⟨h3, h4⟩ := ba h2
          have e1 : c = "tuple" := of_decide_eq_true h1
          subst e1
          obtain ⟨xs, rv, dd⟩ := isDL_ok ds its.toList h4
          exact ⟨.ref a, rfl, fun H => ⟨a, xs, rfl, .inr ⟨_, its, n, q, rfl, rfl, of_decide_eq_true h3, rv⟩, dd H⟩⟩
        | _ => cases h
      | _ => cases h
  | .non, v, h => by cases v <;> cases h
  | .bl _, v, h => by cases v <;> cases h
  | .lst _, v, h => by cases v <;> cases h
  | .ob _ _, v, h => by cases v <;> cases h
  | .pt _ _ _ _, v, h => by cases v <;> cases h
  | .int _, .none, h => by cases h
  | .int _, .bool _, h => by cases h
  | .int _, .float _ _, h => by cases h
  | .int _, .str _ _, h => by cases h
  | .int _, .bytes _ _, h => by cases h
  | .int _, .ref _, h => by cases h
  | .int _, .type _, h => by cases h
  | .int _, .builtin _, h => by cases h
  | .tup _, .none, h => by cases h
  | .tup _, .bool _, h => by cases h
  | .tup _, .int _ _, h => by cases h
  | .tup _, .float _ _, h => by cases h
  | .tup _, .str _ _, h => by cases h
  | .tup _, .bytes _ _, h => by cases h
  | .tup _, .type _, h => by cases h
  | .tup _, .builtin _, h => by cases h
theorem isDL_ok {K : PySem.W.Frag} : ∀ (ds : List D) (us : List Value), isDL K ds us = true → ∃ xs, Vals xs us ∧ ∀ H, DenL K H ds xs
  | [], [], _ => ⟨[], .nil, fun _ => rfl⟩
  | d :: ds, u :: us, h => by
    unfold isDL at h
    obtain ⟨h1, h2⟩ := ba h
    obtain ⟨x, r, dx⟩ := isD_ok d u h1
    obtain ⟨xs, rs, dxs⟩ := isDL_ok ds us h2
    exact ⟨x :: xs, .cons r rs, fun H => ⟨x, xs, rfl, dx H, dxs H⟩⟩
  | [], _ :: _, h => by cases h
  | _ :: _, [], h => by cases h
end
section
variable {P : Program} {w : World} {K : PySem.W.Frag} {h : Heap} {mg : Str → Option Value} {base : Heap}
theorem const_ok (X : K.In h) (G : h.Ns mainGlobals mg) {q : Str × D} (c : constB K q = true) : ∃ v u, mg q.1 = some u ∧ RelV v u ∧ ∀ H, Den K H q.2 v := by
  unfold constB at c
  cases e : PySem.W.nsIn K mainGlobals q.1 with
  | none => rw [e] at c; cases c
  | some o =>
    rw [e] at c
    cases o with
    | none => cases c
    | some v =>
      obtain ⟨x, r, d⟩ := isD_ok q.2 v c
      exact ⟨x, v, PySem.W.mg_of X G e, r, d⟩
theorem clsB_ok {C : Addr} (c : clsB K C = true) : SlX.SCls K C := by
  unfold clsB at c
  obtain ⟨h1, c⟩ := ba c
  obtain ⟨h2, c⟩ := ba c
  obtain ⟨h3, h4⟩ := ba c
  exact ⟨h1, h2, h3, eqO_ok h4⟩
theorem isiB_ok {C : Addr} (c : isiB K C = true) : SlX.SIsi K C ∧ PySem.W.kitOne K (.ref C) (.ref C) = some true ∧ PySem.W.kitOne K (.type "tuple") (.ref C) = some false := by
  unfold isiB at c
  obtain ⟨h1, c⟩ := ba c
  obtain ⟨h2, c⟩ := ba c
  obtain ⟨h3, c⟩ := ba c
  obtain ⟨h4, c⟩ := ba c
  obtain ⟨h5, h6⟩ := ba c
  exact ⟨⟨eqO_ok h1, eqO_ok h2, of_decide_eq_true h3, of_decide_eq_true h4⟩, of_decide_eq_true h5, of_decide_eq_true h6⟩
theorem slotB_ok {C : Addr} {f : Str} {i : Nat} (hi : i < 1000) (c : slotB K C f i = true) : SlX.Slot1 K C f (ma K C f) i := by
  unfold slotB at c
  obtain ⟨h1, c⟩ := ba c
  obtain ⟨h2, c⟩ := ba c
  obtain ⟨h3, c⟩ := ba c
  obtain ⟨h4, h5⟩ := ba c
  exact ⟨eqO_ok h1, eqO_ok h2, of_decide_eq_true h3, of_decide_eq_true h4, of_decide_eq_true h5, hi⟩
end
end FR
end
section
set_option Elab.async false
set_option linter.all false
set_option maxRecDepth 100000
set_option maxHeartbeats 4000000
/-! The facts of the walk. -/
namespace FR
open PySem PySem.Spec PyProof.Rows L2 DV He
def mets : List DefD := [dme "Form" "__init__" "Form.__init__" s_Form_init, dme "KeptForm" "__init__" "KeptForm.__init__" s_KeptForm_init, dme "Walk" "__init__" "Walk.__init__" s_Walk_init, dme "Walk" "step" "Walk.step" s_Walk_step, dme "Form" "__eq__" "Form.__eq__" s_Form_eq]
theorem hfn_eq : hfn = defsL.map (fun q => dfn q.1 q.2) ++ mets := rfl
theorem hfa_eq : hfa = defsL.map (fun q => Fa.glo q.1) ++ hfa.drop 56 := rfl
theorem get_app {α : Type} {l m : List α} {i : Nat} {x : α} (h : l[i]? = some x) : (l ++ m)[i]? = some x := by
  have hlt : i < l.length := by
    apply Classical.byContradiction
    intro q
    rw [List.getElem?_eq_none (by omega)] at h
    cases h
  rw [List.getElem?_append_left hlt, h]
def pgV : FnW := some ("coefficients", "Form.coefficients", defArgs s_Form_coefficients, .stmts (defBody s_Form_coefficients), defScope s_Form_coefficients, mainGlobals, [], builtinsNs)
def adsOf (K : PySem.W.Frag) : Ads := ⟨ga K "Form", ga K "KeptForm", ga K "Walk"⟩
section
variable {P : Program} {w : World} {K : PySem.W.Frag} {h : Heap} {mg : Str → Option Value} {base : Heap}
theorem facts_ok (X : K.In h) (G : h.Ns mainGlobals mg) (c : obsH K = valH) : Facts ⟨P, w, K, mg, base⟩ (adsOf K) := by
  have c1 : SaysD hfa hfn K := congrArg (fun z : AlH => z.1) c
  have c2 : fnA K (pgA K) = pgV := congrArg (fun z : AlH => z.2.1) c
  have c3 : (exL K).all id = true := congrArg (fun z : AlH => z.2.2) c
  have ex : ∀ (i : Nat) (b : Bool), (exL K)[i]? = some b → b = true := fun i b e => by
    have := List.all_eq_true.mp c3 b (List.mem_of_getElem? e)
    exact this
  have fr : ∀ (i : Nat) (x : Str), hfa[i]? = some (.free x) → mg x = none := fun i x e => free_ok X G (c1.fact i e)
  have blt : ∀ x, x ∈ bltNames → mg x = none := fun x hx => by
    simp only [bltNames, List.mem_cons, List.not_mem_nil, or_false] at hx
    rcases hx with rfl | rfl | rfl | rfl | rfl | rfl | rfl | rfl | rfl | rfl | rfl | rfl | rfl
    · exact fr 56 _ rfl
    · exact fr 57 _ rfl
    · exact fr 58 _ rfl
    · exact fr 59 _ rfl
    · exact fr 60 _ rfl
    · exact fr 61 _ rfl
    · exact fr 62 _ rfl
    · exact fr 63 _ rfl
    · exact fr 64 _ rfl
    · exact fr 65 _ rfl
    · exact fr 66 _ rfl
    · exact fr 67 _ rfl
    · exact fr 68 _ rfl
  have cs : ∀ x d, consts0.lookup x = some d → ∃ v u, mg x = some u ∧ RelV v u ∧ ∀ H, Den K H d v := fun x d e => by
    have hm : (x, d) ∈ consts0 := by
      have key : ∀ l : List (Str × D), l.lookup x = some d → (x, d) ∈ l := fun l => by
        induction l with
        | nil => exact fun z => nomatch z
        | cons q l ih =>
          intro z
          obtain ⟨y, dy⟩ := q
          rw [List.lookup_cons] at z
          split at z
          · rename_i hq
            cases z
            rw [beq_iff_eq.mp hq]
            exact List.mem_cons_self
          · exact List.mem_cons_of_mem _ (ih z)
      exact key _ e
    have hb : constB K (x, d) = true := by
      have : constB K (x, d) ∈ exL K := by
        unfold exL
        exact List.mem_append_left _ (List.mem_map.mpr ⟨(x, d), hm, rfl⟩)
      exact List.all_eq_true.mp c3 _ this
    exact const_ok X G hb
  have e13 : ∀ (i : Nat) (b : Bool), (exL K)[13 + i]? = some b → b = true := fun i b e => ex _ b e
  have gg : mg "gcd" = some (.builtin "math.gcd") := PySem.W.mg_of X G (eqO_ok (ex 13 _ rfl))
  have gs : mg "isqrt" = some (.builtin "math.isqrt") := PySem.W.mg_of X G (eqO_ok (ex 14 _ rfl))
  have cF : ClsF ⟨P, w, K, mg, base⟩ "Form" (ga K "Form") := ⟨glo_ok X G (c1.fact 71 rfl), clsB_ok (ex 15 _ rfl)⟩
  have cK : ClsF ⟨P, w, K, mg, base⟩ "KeptForm" (ga K "KeptForm") := ⟨glo_ok X G (c1.fact 72 rfl), clsB_ok (ex 16 _ rfl)⟩
  have cW : ClsF ⟨P, w, K, mg, base⟩ "Walk" (ga K "Walk") := ⟨glo_ok X G (c1.fact 73 rfl), clsB_ok (ex 17 _ rfl)⟩
  obtain ⟨i1, i2, i3⟩ := isiB_ok (ex 18 _ rfl)
  obtain ⟨j1, j2, j3⟩ := isiB_ok (ex 19 _ rfl)
  obtain ⟨f1, F1⟩ := c1.def_ 56 rfl
  obtain ⟨f2, F2⟩ := c1.def_ 57 rfl
  obtain ⟨f3, F3⟩ := c1.def_ 58 rfl
  obtain ⟨f4, F4⟩ := c1.def_ 59 rfl
  obtain ⟨f5, F5⟩ := c1.def_ 60 rfl
  have pr : ∃ (pa gaA : Addr) (fd : FuncData), PySem.W.findIn K (.ref (ga K "Form")) "coefficients" = some (some (.ref pa)) ∧ PySem.W.specialIn K (.ref pa) "__get__" = some (some (.builtin "property.__get__")) ∧ PySem.W.takesIn K (.ref pa) = some true ∧
      (∃ rest, PySem.W.recIn K pa "property" = some (.ref gaA :: rest)) ∧ FnP K "coefficients" "Form.coefficients" s_Form_coefficients gaA fd := by
    obtain ⟨h1, hb⟩ := ba (show propB K = true from ex 24 _ rfl)
    obtain ⟨h2, hb⟩ := ba hb
    obtain ⟨h3, h4⟩ := ba hb
    have hg : getB K = true := ex 25 _ rfl
    have hg : (PySem.W.keepIn K (.ref (pgA K)) && (match K.lookup (pgA K) with
      | some ⟨_, _, .func fd, _⟩ => PySem.W.codeIn K fd.code "Form.coefficients" && (dflB K fd.defaults [] && kwdB K fd.kwdefaults [])
      | _ => false)) = true := hg
    obtain ⟨kp, c4⟩ := ba hg
    have rest : ∃ rest, PySem.W.recIn K (ma K (ga K "Form") "coefficients") "property" = some (.ref (pgA K) :: rest) := by
      unfold pgA
      split at h4
      · rename_i a r e
        exact ⟨r, by rw [e]⟩
      · cases h4
    have c2 : fnA K (pgA K) = pgV := c2
    unfold fnA pgV at c2
    generalize hpg : pgA K = pg at *
    cases q : K.lookup pg with
    | none => rw [q] at c4; cases c4
    | some o =>
      obtain ⟨oc, od, dt, osl⟩ := o
      rw [q] at c2 c4
      cases dt with
      | func fd =>
        obtain ⟨n1, n2, n3, n4, n5, n6, n7, n8, n9, n10, n11, n12, n13, n14, n15⟩ := fd
        simp only [Option.some.injEq, Prod.mk.injEq] at c2
        obtain ⟨e1, e2, e3, e4, e5, e6, e7, e8⟩ := c2
        subst e1 e2 e3 e4 e5 e6 e7 e8
        obtain ⟨k1, k2⟩ := ba c4
        obtain ⟨k3, k4⟩ := ba k2
        exact ⟨_, pg, _, eqO_ok h1, eqO_ok h2, of_decide_eq_true h3, rest, ⟨⟨oc, od, n8, n9, n10, n11, n12, n13, n14, osl, rfl, q, k1, dflB_ok k3, kwdB_ok k4⟩, kp⟩⟩
      | _ => cases c4
  refine ⟨⟨blt, gg, gs, cs⟩, ⟨?_, ⟨cF, i1, i2, i3⟩, ⟨cK, j1, j2, j3⟩, cW, ⟨cF, _, f1, mkr_ok (c1.fact 74 rfl), F1⟩, ⟨cK, _, f2, mkr_ok (c1.fact 75 rfl), F2⟩, ⟨cW, _, f3, mkr_ok (c1.fact 76 rfl), F3⟩,
    ⟨_, slotB_ok (by decide) (ex 20 _ rfl)⟩, ⟨_, slotB_ok (by decide) (ex 21 _ rfl)⟩, ⟨_, slotB_ok (by decide) (ex 22 _ rfl)⟩, ⟨_, slotB_ok (by decide) (ex 23 _ rfl)⟩, ⟨_, f4, meth_ok (c1.fact 77 rfl), F4⟩, pr,
    ⟨_, f5, (meth_ok (c1.fact 78 rfl)).at_, (meth_ok (c1.fact 78 rfl)).fn, ex 26 _ rfl, F5⟩⟩, fr 69 _ rfl, fr 70 _ rfl, fun i q e => ?_⟩
  · exact of_decide_eq_true (ex 27 _ rfl)
  · have e1 : hfn[i]? = some (dfn q.1 q.2) := by
      rw [hfn_eq]
      exact get_app (by rw [List.getElem?_map, e]; rfl)
    have e2 : hfa[i]? = some (.glo q.1) := by
      rw [hfa_eq]
      exact get_app (by rw [List.getElem?_map, e]; rfl)
    obtain ⟨fd, F⟩ := c1.def_ i e1
    exact ⟨ga K q.1, fd, glo_ok X G (c1.fact i e2), F.kp, F⟩
end
end FR
end
section
set_option Elab.async false
set_option linter.all false
set_option maxRecDepth 100000
set_option maxHeartbeats 0
open PySem PySem.W PySem.Calls PyProof.Rows
theorem fin_test (C : ∀ A : FR.Ads, A.CK ≠ A.CW → FR.Chk A) : PySem.Challenge.rw_formrings_k25_whole_least_forms_judged.Holds := by
  w_on; o_law
  refine HandSHeadRun.head_imp (r := OpenLaw.row PySem.Challenge.rw_formrings_k25_whole_least_forms_judged) (q := FR.qv) (H := FR.hookH) (ob := FR.obT) (M := 9000) (loose := FR.looseA) (d := HandSHeadRun.topDef (OpenLaw.row PySem.Challenge.rw_formrings_k25_whole_least_forms_judged).prog 114) (kwd := [])
    FR.obT_eq FR.run0 (by kernel_rfl) (by kernel_rfl) (by kernel_rfl) (by rfl) (by first | assumption | decide +kernel) (by decide +kernel) ⟨rfl, rfl, rfl, rfl, rfl, by decide +kernel⟩ ?hw ?hc
  case hw => w_witness2
  case hc =>
    refine L2.walk_ofE (l := PySem.Challenge.rw_formrings_k25_whole_least_forms_judged) (n := 63) (k := 20) (x := "_law_script") (CX := L2.CX0) rfl (by decide) (by kernel_rfl) ⟨rfl, by decide, by decide⟩ ?F (fun _ _ _ _ z => z)
    intro w mg fa h Y G hmg0
    obtain ⟨K, KX, c⟩ := Y
    have hmg : mg ("law" : PySem.Str) = some (.ref fa) := by
      have e : (HandSHeadRun.topDef (OpenLaw.row PySem.Challenge.rw_formrings_k25_whole_least_forms_judged).prog 114).name = ("law" : PySem.Str) := by kernel_rfl
      rw [← e]
      exact hmg0
    have F0 := FR.facts_ok (P := (PySem.Challenge.rw_formrings_k25_whole_least_forms_judged).prog) (w := w) (base := h) KX G c
    obtain ⟨f, fd, hL⟩ := F0.has 55 _ rfl
    have e : f = fa := by
      have z := hL.mg.symm.trans hmg
      cases z
      rfl
    subst e
    have b := L2.FunD.bindsA (ps := FR.p_law) hL.fn fun _ _ _ _ _ _ us hl => match us, hl with | [_], _ => rfl
    refine ⟨K, fd, FR.spLaw K, KX, fun s v => b s [v] rfl, fun H a ns hl _ hS => ⟨a, ns, rfl, hS, fun _ => rfl⟩, fun base KB GB => ?_⟩
    have F1 := FR.facts_ok (P := (PySem.Challenge.rw_formrings_k25_whole_least_forms_judged).prog) (w := w) (base := base) KX G c
    exact FR.law_all F1 (C _ F1.O.ne) ⟨hL.mg, hL.kp, hL.fn⟩
end
section
set_option Elab.async false
set_option linter.all false
set_option maxRecDepth 100000
set_option maxHeartbeats 4000000
/-! The plain law, form by form. -/
namespace FR
open PySem PySem.Spec PyProof.Rows L2 DV
def A0 : Ads := ⟨0, 1, 2⟩
def dueOf (f : Q4) : Option Bool := (f__law_is_due [enc4 f]).bind asB
def leastD (f : Q4) : Option D := f_least_of A0 [enc4 f]
def fstD : D → Option Q4
  | .tup [l, _] => dec4 l
  | _ => none
def leastOf (f : Q4) : Option Q4 := (leastD f).bind fstD
/-- taken by Form(..), short -/
def fit (f : Q4) : Bool := (match f_are_integers [enc4 f, .int 4] with
  | some (.bl b) => b
  | _ => false) && (f_require_short [enc4 f]).isSome
theorem fit_ok {f : Q4} (h : fit f = true) : f_are_integers [enc4 f, .int 4] = some (.bl true) ∧ ∃ d, f_require_short [enc4 f] = some d := by
  unfold fit at h
  rw [Bool.and_eq_true] at h
  obtain ⟨h1, h2⟩ := h
  refine ⟨?_, Option.isSome_iff_exists.mp h2⟩
  split at h1
  · rename_i b e
    rw [e, h1]
  · cases h1
section
variable {A : Ads} {f l : Q4}
theorem slot_coef : slotIx (slT A) "own_coefficients" A.CF = some 0 := by
  simp [slotIx, slT, List.find?]
theorem slot_kept : slotIx (slT A) "own_numbers" A.CK = some 0 := by
  have e1 : decide (("own_coefficients" : Str) = "own_numbers") = false := by decide +kernel
  simp [slotIx, slT, List.find?, e1]
theorem told_tup (h : f_are_integers [enc4 f, .int 4] = some (.bl true)) : f_form_told A [enc4 f] = some (enc4 f) := by
  have e0 : isOwn A.CK (enc4 f) = some false := rfl
  simp [f_form_told, runB, r_form_told, sSeq, sIf, sRet, fT, fIsi, fVar, fConst, e0, asB, tNot1, fCall, aCons, aNil, h, sNil, outD]
theorem told_kept : f_form_told A [.ob A.CK [enc4 l]] = some (enc4 l) := by
  have e0 : isOwn A.CK (.ob A.CK [enc4 l]) = some true := by simp [isOwn]
  simp [f_form_told, runB, r_form_told, sSeq, sIf, sRet, fT, fIsi, fVar, fConst, e0, asB, fAttr, fSlot, slot_kept, sNil, outD]
theorem m_form_tup (h : f_are_integers [enc4 f, .int 4] = some (.bl true)) : m_form A [enc4 f] = some [enc4 f] := by
  have e0 : noOb (enc4 f) = true := rfl
  simp [m_form, initOne, fCall, aCons, aNil, fVar, told_tup h, e0]
theorem m_form_kept : m_form A [.ob A.CK [enc4 l]] = some [enc4 l] := by
  have e0 : noOb (enc4 l) = true := rfl
  simp [m_form, initOne, fCall, aCons, aNil, fVar, told_kept, e0]
theorem m_kept_tup : m_kept [enc4 l] = some [enc4 l] := rfl
theorem made : f_made_form A [enc4 l] = some (.ob A.CF [enc4 l]) := by
  simp [f_made_form, runB, r_made_form, sSeq, sRet, fMake, aCons, aNil, fVar, m_kept_tup, m_form_kept, sNil, outD]
theorem req : f_require_form A [.ob A.CF [enc4 f]] = some .non := by
  have e0 : isOwn A.CF (.ob A.CF [enc4 f]) = some true := by simp [isOwn]
  simp [f_require_form, runB, r_require_form, sSeq, sIf, fT, fIsi, fVar, e0, asB, tNot1, sNil, outD]
theorem least_A : f_least_of A = f_least_of A0 := rfl
theorem eq4 (l f : Q4) : cmpD .Eq (enc4 l) (enc4 f) = some (.bl (decide (l = f))) := by
  obtain ⟨a, b, c, d⟩ := l
  obtain ⟨p, q, r, s⟩ := f
  have sh : SeqAt.shaped (py (enc4 (a, b, c, d))) = true := rfl
  have sh2 : SeqAt.shaped (py (enc4 (p, q, r, s))) = true := rfl
  show (eqD false (enc4 (a, b, c, d)) (enc4 (p, q, r, s))) = _
  unfold eqD
  rw [sh, sh2]
  simp [enc4, py, pyL, PyData.eqv]
  show ((a == p) && ((b == q) && ((c == r) && ((d == s) && true)))) = _
  rw [Bool.and_true]
  rfl
theorem is_least_ob {ch : D} (hf : fit f = true) (hl : leastD f = some (.tup [enc4 l, ch])) : f_is_least A [.ob A.CF [enc4 f]] = some (.bl (decide (l = f))) := by
  obtain ⟨h1, d, h2⟩ := fit_ok hf
  have hl : f_least_of A [enc4 f] = some (.tup [enc4 l, ch]) := hl
  have ix : ixD (.tup [enc4 l, ch]) (.int 0) = some (enc4 l) := rfl
  simp [f_is_least, runB, r_is_least, sSeq, sDrop, sRet, fCall, aCons, aNil, fVar, fConst, req, fAttr, fSlot, slot_coef, h2, hl, f2, ix, eq4, sNil, outD]
theorem least_form_ob {ch : D} (hf : fit f = true) (hl : leastD f = some (.tup [enc4 l, ch])) : f_least_form A [.ob A.CF [enc4 f]] = some (.ob A.CF [enc4 l]) := by
  obtain ⟨h1, d, h2⟩ := fit_ok hf
  have hl : f_least_of A [enc4 f] = some (.tup [enc4 l, ch]) := hl
  have ix : ixD (.tup [enc4 l, ch]) (.int 0) = some (enc4 l) := rfl
  have hr : f_least_row A [enc4 f] = some (enc4 l) := by
    simp [f_least_row, runB, r_least_row, sSeq, sRet, fCall, aCons, aNil, fVar, fConst, hl, f2, ix, sNil, outD]
  have hm : f_least_made A [enc4 f] = some (.ob A.CF [enc4 l]) := by
    simp [f_least_made, runB, r_least_made, sSeq, sRet, fCall, aCons, aNil, fVar, hr, made, sNil, outD]
  simp [f_least_form, runB, r_least_form, sSeq, sDrop, sRet, fCall, aCons, aNil, fVar, fConst, req, fAttr, fSlot, slot_coef, h2, hm, sNil, outD]
theorem eq_ob : eqR A (.ob A.CF [enc4 l]) (.ob A.CF [enc4 f]) = some (.bl (decide (l = f))) := by
  have e0 : isOwn A.CF (.ob A.CF [enc4 f]) = some true := by simp [isOwn]
  have e1 : f_Form_eq A [.ob A.CF [enc4 l], .ob A.CF [enc4 f]] = some (.bl (decide (l = f))) := by
    simp [f_Form_eq, runB, r_Form_eq, sSeq, sRet, fAnd, fIsi, fVar, e0, asB, f2, fAttr, fSlot, slot_coef, eq4, sNil, outD]
  have e2 : cmpD .Eq (.ob A.CF [enc4 l]) (.ob A.CF [enc4 f]) = none := by
    show (eqD false (.ob A.CF [enc4 l]) (.ob A.CF [enc4 f])) = none
    rfl
  simp [eqR, e2, eqOb, e1]
theorem coef_ob : (fSlot (slT A) "coefficients" (.ob A.CF [enc4 l])).or (fProp A.CF (f_Form_coefficients A) (.ob A.CF [enc4 l])) = some (enc4 l) := by
  have e1 : slotIx (slT A) "coefficients" A.CF = none := by
    have q1 : decide (("own_coefficients" : Str) = "coefficients") = false := by decide +kernel
    have q2 : decide (("own_numbers" : Str) = "coefficients") = false := by decide +kernel
    have q3 : decide (("own_change" : Str) = "coefficients") = false := by decide +kernel
    simp [slotIx, slT, List.find?, q1, q2, q3]
  have e2 : f_Form_coefficients A [.ob A.CF [enc4 l]] = some (enc4 l) := by
    simp [f_Form_coefficients, runB, r_Form_coefficients, sSeq, sRet, fAttr, fSlot, fVar, slot_coef, sNil, outD]
  simp [fSlot, e1, fProp, e2]
theorem ne_bl (a b : Bool) : cmpD .NotEq (.bl a) (.bl b) = some (.bl (a != b)) := by
  cases a <;> cases b <;> rfl
/-- the form is judged rightly -/
theorem right_of {ch : D} {b : Bool} (hf : fit f = true) (hl : leastD f = some (.tup [enc4 l, ch])) (hd : f__law_is_due [enc4 f] = some (.bl b)) (hb : b = decide (l = f)) (hd2 : f__law_is_due [enc4 l] = some (.bl true)) :
    r_right A [none, some (enc4 f), none, none] = some (.rt (.bl true)) := by
  obtain ⟨h1, d, h2⟩ := fit_ok hf
  subst hb
  simp [r_right, sSeq, sSet, sIf, sRet, fCall, aCons, aNil, fVar, fConst, hd, fMake, m_form_tup h1, is_least_ob hf hl, least_form_ob hf hl, f2, ne_bl, eq_ob, fT, asB, tOr2, fOr, fAttrP, coef_ob, hd2, sNil]
end
end FR
end
section
set_option Elab.async false
set_option linter.all false
set_option maxRecDepth 100000
set_option maxHeartbeats 4000000
/-! The eight fixed rows; what is to be checked. -/
namespace FR
open PySem PySem.Spec PyProof.Rows L2 DV
theorem leastOf_ok {f l : Q4} (h : leastOf f = some l) : ∃ ch, leastD f = some (.tup [enc4 l, ch]) := by
  unfold leastOf at h
  rw [Option.bind_eq_some_iff] at h
  obtain ⟨d, e1, e2⟩ := h
  unfold fstD at e2
  split at e2
  · rename_i x ch
    rw [dec4_ok e2] at e1
    exact ⟨ch, e1⟩
  · cases e2
/-- one fixed row -/
def rowOk (f : Q4) (b : Bool) : Bool := fit f && (match leastOf f with
  | some l => decide (l = f) == b
  | none => false)
theorem rowOk_ok {A : Ads} {f : Q4} {b : Bool} (h : rowOk f b = true) : m_form A [enc4 f] = some [enc4 f] ∧ f_is_least A [.ob A.CF [enc4 f]] = some (.bl b) := by
  unfold rowOk at h
  rw [Bool.and_eq_true] at h
  obtain ⟨h1, h2⟩ := h
  refine ⟨m_form_tup (fit_ok h1).1, ?_⟩
  split at h2
  · rename_i l e
    obtain ⟨ch, e1⟩ := leastOf_ok e
    rw [is_least_ob h1 e1, beq_iff_eq.mp h2]
  · cases h2
def rowsT : List (Q4 × Bool) := [((1, 1, 2, 1), true), ((1, 2, -1, -1), true), ((0, 1, 1, 0), true), ((1, 0, 0, -2), false), ((1, 3, 3, 3), true), ((0, 1, 1, 6), true), ((0, 1, -1, 6), false), ((0, 0, 2, 1), true)]
theorem rows_of {A : Ads} (h : (rowsT.all fun q => rowOk q.1 q.2) = true) : r_rows A [none, none, none, none, none, none] = some (.rt (.bl true)) := by
  simp only [rowsT, List.all_cons, List.all_nil, Bool.and_true, Bool.and_eq_true] at h
  obtain ⟨h1, h2, h3, h4, h5, h6, h7, h8⟩ := h
  obtain ⟨a1, b1⟩ := rowOk_ok (A := A) h1
  obtain ⟨a2, b2⟩ := rowOk_ok (A := A) h2
  obtain ⟨a3, b3⟩ := rowOk_ok (A := A) h3
  obtain ⟨a4, b4⟩ := rowOk_ok (A := A) h4
  obtain ⟨a5, b5⟩ := rowOk_ok (A := A) h5
  obtain ⟨a6, b6⟩ := rowOk_ok (A := A) h6
  obtain ⟨a7, b7⟩ := rowOk_ok (A := A) h7
  obtain ⟨a8, b8⟩ := rowOk_ok (A := A) h8
  unfold enc4 at a1 a2 a3 a4 a5 a6 a7 a8 b1 b2 b3 b4 b5 b6 b7 b8
  have fin : cmpD .Eq (.lst [.bl true, .bl true, .bl true, .bl false, .bl true, .bl true, .bl false, .bl true]) (.lst [.bl true, .bl true, .bl true, .bl false, .bl true, .bl true, .bl false, .bl true]) = some (.bl true) := rfl
  simp [r_rows, sSeq, sSet, sRet, fLst, fTup, aCons, aNil, fConst, fNeg, neg_i, fVar, f2, fComp, iSeq, seqOf, compD, wipeD, gVar, tTrue, fCall, fMake, a1, b1, a2, b2, a3, b3, a4, b4, a5, b5, a6, b6, a7, b7, a8, b8, flat, flatL, fin, sNil]
end FR
end
section
set_option Elab.async false
set_option linter.all false
set_option maxRecDepth 100000
set_option maxHeartbeats 4000000
/-! What is to be checked of each form, and that it is enough. -/
namespace FR
open PySem PySem.Spec PyProof.Rows L2 DV
def chkF (f : Q4) : Bool := fit f && (match leastOf f with
  | some l => (match dueOf f with
    | some b => b == decide (l = f)
    | none => false) && (match dueOf l with
    | some b => b
    | none => false)
  | none => false)
theorem dueOf_ok {f : Q4} {b : Bool} (h : dueOf f = some b) : f__law_is_due [enc4 f] = some (.bl b) := by
  unfold dueOf at h
  rw [Option.bind_eq_some_iff] at h
  obtain ⟨d, e1, e2⟩ := h
  rw [e1]
  cases d <;> cases e2
  rfl
theorem chkF_ok {A : Ads} {f : Q4} (h : chkF f = true) : r_right A [none, some (enc4 f), none, none] = some (.rt (.bl true)) := by
  unfold chkF at h
  rw [Bool.and_eq_true] at h
  obtain ⟨h1, h2⟩ := h
  split at h2
  · rename_i l el
    rw [Bool.and_eq_true] at h2
    obtain ⟨h3, h4⟩ := h2
    obtain ⟨ch, e1⟩ := leastOf_ok el
    split at h3
    · rename_i b eb
      split at h4
      · rename_i b2 eb2
        subst h4
        exact right_of h1 e1 (dueOf_ok eb) (beq_iff_eq.mp h3) (dueOf_ok eb2)
      · cases h4
    · cases h3
  · cases h2
theorem chk_of {A : Ads} (h : ∀ f, InB 4 f → chkF f = true) (hr : (rowsT.all fun q => rowOk q.1 q.2) = true) : Chk A := ⟨fun f hf => chkF_ok (h f hf), rows_of hr⟩
end FR
end
section
set_option Elab.async false
set_option linter.all false
set_option maxRecDepth 100000
set_option maxHeartbeats 4000000
/-! _law_has_root, typed. -/
namespace FR
open PySem PySem.Spec PyProof.Rows L2 DV
theorem forD_cons {g : D → DEnv → Option DEnv} {b : FS} {d : D} {ds : List D} {δ δ1 : DEnv} (h : g d δ = some δ1) : forD g b (d :: ds) δ = (b δ1).bind fun o => match o with
    | .nx δ2 => forD g b ds δ2
    | .rt z => some (.rt z) := by
  show ((g d δ).bind _) = _
  rw [h]
  rfl
def rngI (lo : Int) (n : Nat) : List Int := (List.range n).map fun (i : Nat) => lo + i
theorem rngI_enc (lo : Int) (n : Nat) : rangeL lo n = (rngI lo n).map D.int := by
  simp [rangeL, rngI]
theorem rngI_lt {lo : Int} {n : Nat} {x : Int} (h : x ∈ rngI lo n) : lo ≤ x ∧ x < lo + n := by
  unfold rngI at h
  rw [List.mem_map] at h
  obtain ⟨i, hi, rfl⟩ := h
  rw [List.mem_range] at hi
  omega
def primesL : List Int := [2, 3, 5, 7, 11, 13, 17, 19, 23, 29, 31, 37, 41, 43]
def noHit (f : Q4) (p : Int) : List Int → Bool
  | [] => true
  | x :: xs => if (at4 f x 1).fmod p = 0 then false else noHit f p xs
def barL (f : Q4) : List Int → Bool
  | [] => false
  | p :: ps => if f.1.fmod p = 0 then barL f ps else if noHit f p (rngI 0 p.toNat) = true then true else barL f ps
def seekX (f : Q4) (y : Int) : List Int → Bool
  | [] => false
  | x :: xs => if at4 f x y = 0 then true else if at4 f (0 - x) y = 0 then true else seekX f y xs
def seekY (f : Q4) (xs : List Int) : List Int → Bool
  | [] => false
  | y :: ys => if seekX f y xs = true then true else seekY f xs ys
def rooted (f : Q4) : Bool := if f.1 = 0 ∨ f.2.2.2 = 0 then true else if barL f primesL = true then false else seekY f (rngI 1 f.2.2.2.natAbs) (rngI 1 f.1.natAbs)
def z__law_has_root : List D → Option D
  | [x] => (dec4 x).bind fun f => if Sm4 f ∧ f.1.natAbs < 1000 ∧ f.2.2.2.natAbs < 1000 then some (.bl (rooted f)) else none
  | _ => none
theorem canInts : ∀ ys : List Int, PyData.canLayAll0 (pyL (ys.map D.int)) = true ∧ PyData.depthAll (pyL (ys.map D.int)) = 0
  | [] => ⟨rfl, rfl⟩
  | y :: ys => by
    have h := canInts ys
    simp [pyL, py, PyData.canLayAll0, PyData.canLay0, PyData.depthAll, PyData.depth, h.1, h.2]
theorem eq_nil (ys : List Int) : cmpD .Eq (.lst (ys.map D.int)) (.lst []) = some (.bl ys.isEmpty) := by
  have h := canInts ys
  have sh : SeqAt.shaped (py (.lst (ys.map D.int))) = true := by
    simp [SeqAt.shaped, py, PyData.canLay0, PyData.depth, h.1, h.2]
  show (eqD false (.lst (ys.map D.int)) (.lst [])) = _
  unfold eqD
  rw [sh]
  cases ys with
  | nil => rfl
  | cons y ys => rfl
theorem noHit_filter (f : Q4) (p : Int) : ∀ l : List Int, (l.filter fun x => decide ((at4 f x 1).fmod p = 0)).isEmpty = noHit f p l
  | [] => rfl
  | x :: xs => by
    unfold noHit
    by_cases h : (at4 f x 1).fmod p = 0
    · simp [h]
    · simp [h, ← noHit_filter f p xs]
def hrT : DEnv → Option Bool := fT (f2 (cmpD .Eq) (f2 (binD .Mod) (fCall (aCons (fCall (aCons (fVar 0) (aCons (fVar 3) (aCons (fConst (.int 1)) aNil))) z__law_at) aNil) intF) (fVar 1)) (fConst (.int 0)))
theorem modz_ii {i j : Int} (h : j ≠ 0) : modD (.int i) (.int j) = some (.int (i.fmod j)) := by
  have : modOk i j = true := by simp [modOk, h]
  simp [modD, intC, this]
theorem sm1 : Sm 1 := by decide
theorem z_at {f : Q4} {x y : Int} (h : Sm4 f) (h1 : Sm x) (h2 : Sm y) : z__law_at [enc4 f, .int x, .int y] = some (.int (at4 f x y)) := by
  show (if Sm4 f ∧ Sm x ∧ Sm y then some (D.int (at4 f x y)) else none) = _
  rw [if_pos ⟨h, h1, h2⟩]
theorem hrT_ok {f : Q4} {p x : Int} {y : Option D} (h : Sm4 f) (hx : Sm x) (hp : p ≠ 0) : hrT [some (enc4 f), some (.int p), y, some (.int x)] = some (decide ((at4 f x 1).fmod p = 0)) := by
  simp [hrT, fT, f2, fCall, aCons, aNil, fVar, fConst, z_at h hx sm1, intF, binD, modz_ii hp, cmp_eq, asB]
theorem hrC_ok {f : Q4} {p : Int} {y : Option D} (h : Sm4 f) (hp : p ≠ 0) : ∀ l : List Int, (∀ x ∈ l, Sm x) →
    compD (gVar 3) hrT (fVar 3) [some (enc4 f), some (.int p), y, none] (l.map D.int) = some ((l.filter fun x => decide ((at4 f x 1).fmod p = 0)).map D.int)
  | [], _ => rfl
  | x :: xs, hs => by
    have ih := hrC_ok (y := y) h hp xs fun z hz => hs z (List.mem_cons_of_mem _ hz)
    show ((gVar 3 (D.int x) [some (enc4 f), some (.int p), y, none]).bind fun δ1 => (hrT δ1).bind fun b => if b = true then (fVar 3 δ1).bind fun y1 => if flat y1 = true then (compD (gVar 3) hrT (fVar 3) [some (enc4 f), some (.int p), y, none] (xs.map D.int)).bind fun r => some (y1 :: r) else none else compD (gVar 3) hrT (fVar 3) [some (enc4 f), some (.int p), y, none] (xs.map D.int)) = _
    rw [ih]
    show ((hrT [some (enc4 f), some (.int p), y, some (.int x)]).bind _) = _
    rw [hrT_ok h (hs x (List.mem_cons_self ..)) hp]
    by_cases c : (at4 f x 1).fmod p = 0
    · simp [c, fVar, flat]
    · simp [c]
def hrB : FS := (sSeq (sIf (tAnd2 (fT (f2 (cmpD .NotEq) (f2 (binD .Mod) (f2 ixD (fVar 0) (fConst (.int 0))) (fVar 1)) (fConst (.int 0)))) (fT (f2 (cmpD .Eq) (fComp (iBind (aCons (fVar 1) aNil) iRange1) [3] (gVar 3) hrT (fVar 3)) (fLst aNil)))) (sSeq (sRet (fConst (.bl false))) sNil) sNil) sNil)
theorem hrB_ok {f : Q4} {p : Int} {y x : Option D} (h : Sm4 f) (hp : 0 < p ∧ p ≤ 1000) : hrB [some (enc4 f), some (.int p), y, x] = some (if (if f.1.fmod p = 0 then false else noHit f p (rngI 0 p.toNat)) = true then .rt (.bl false) else .nx [some (enc4 f), some (.int p), y, x]) := by
  have hp0 : p ≠ 0 := by omega
  have i0 : ixD (enc4 f) (.int 0) = some (.int f.1) := rfl
  have e1 : fT (f2 (cmpD .NotEq) (f2 (binD .Mod) (f2 ixD (fVar 0) (fConst (.int 0))) (fVar 1)) (fConst (.int 0))) [some (enc4 f), some (.int p), y, x] = some (!decide (f.1.fmod p = 0)) := by
    simp [fT, f2, fVar, fConst, i0, binD, modz_ii hp0, cmp_ne, asB]
  have e2 : fComp (iBind (aCons (fVar 1) aNil) iRange1) [3] (gVar 3) hrT (fVar 3) [some (enc4 f), some (.int p), y, x] = some (.lst (((rngI 0 p.toNat).filter fun x => decide ((at4 f x 1).fmod p = 0)).map D.int)) := by
    have sm : ∀ x ∈ rngI 0 p.toNat, Sm x := fun x hx => by
      have := rngI_lt hx
      unfold Sm
      omega
    have len : ((rngI 0 p.toNat).filter fun x => decide ((at4 f x 1).fmod p = 0)).length ≤ 1000 := by
      refine Nat.le_trans (List.length_filter_le _ _) ?_
      simp [rngI]
      omega
    have it : iBind (aCons (fVar 1) aNil) iRange1 [some (enc4 f), some (.int p), y, x] = some ((rngI 0 p.toNat).map D.int) := by
      show (if 0 ≤ p ∧ p ≤ 1000 then some (rangeL 0 p.toNat) else none) = _
      rw [if_pos ⟨by omega, hp.2⟩, rngI_enc]
    unfold fComp
    rw [it]
    show ((compD (gVar 3) hrT (fVar 3) [some (enc4 f), some (.int p), y, none] ((rngI 0 p.toNat).map D.int)).bind _) = _
    rw [hrC_ok h hp0 _ sm]
    simp [len]
  by_cases c : f.1.fmod p = 0
  · simp [hrB, sSeq, sIf, tAnd2, e1, c, sNil]
  · have e3 : fT (f2 (cmpD .Eq) (fComp (iBind (aCons (fVar 1) aNil) iRange1) [3] (gVar 3) hrT (fVar 3)) (fLst aNil)) [some (enc4 f), some (.int p), y, x] = some (noHit f p (rngI 0 p.toNat)) := by
      unfold fT f2
      rw [e2]
      show ((cmpD .Eq (.lst (((rngI 0 p.toNat).filter fun x => decide ((at4 f x 1).fmod p = 0)).map D.int)) (.lst [])).bind asB) = _
      rw [eq_nil, noHit_filter]
      rfl
    cases n : noHit f p (rngI 0 p.toNat) <;> simp [hrB, sSeq, sIf, tAnd2, e1, e3, c, n, sNil, sRet, fConst]
theorem hrP_ok {f : Q4} {y x : Option D} (h : Sm4 f) : ∀ (l : List Int) (p : Option D), (∀ p ∈ l, 0 < p ∧ p ≤ 1000) → ∃ p', forD (gVar 1) hrB (l.map D.int) [some (enc4 f), p, y, x] = some (if barL f l = true then .rt (.bl false) else .nx [some (enc4 f), p', y, x])
  | [], p, _ => ⟨p, rfl⟩
  | p :: ps, q, hs => by
    have st : gVar 1 (D.int p) [some (enc4 f), q, y, x] = some [some (enc4 f), some (.int p), y, x] := rfl
    rw [List.map_cons, forD_cons st, hrB_ok h (hs p (List.mem_cons_self ..))]
    obtain ⟨p', ih⟩ := hrP_ok (y := y) (x := x) h ps (some (.int p)) fun z hz => hs z (List.mem_cons_of_mem _ hz)
    unfold barL
    by_cases c : f.1.fmod p = 0
    · rw [if_pos c, if_pos c]
      exact ⟨p', ih⟩
    · rw [if_neg c, if_neg c]
      by_cases n : noHit f p (rngI 0 p.toNat) = true
      · rw [if_pos n, if_pos n]
        exact ⟨p', rfl⟩
      · rw [if_neg n, if_neg n]
        exact ⟨p', ih⟩
def hrX : FS := (sSeq (sIf (tOr2 (fT (f2 (cmpD .Eq) (fCall (aCons (fVar 0) (aCons (fVar 3) (aCons (fVar 2) aNil))) z__law_at) (fConst (.int 0)))) (fT (f2 (cmpD .Eq) (fCall (aCons (fVar 0) (aCons (f2 (binD .Sub) (fConst (.int 0)) (fVar 3)) (aCons (fVar 2) aNil))) z__law_at) (fConst (.int 0))))) (sSeq (sRet (fConst (.bl true))) sNil) sNil) sNil)
theorem hrX_ok {f : Q4} {p : Option D} {y x : Int} (h : Sm4 f) (hx : Sm x) (hy : Sm y) : hrX [some (enc4 f), p, some (.int y), some (.int x)] = some (if (if at4 f x y = 0 then true else if at4 f (0 - x) y = 0 then true else false) = true then .rt (.bl true) else .nx [some (enc4 f), p, some (.int y), some (.int x)]) := by
  have hx' : Sm (0 - x) := by unfold Sm at hx ⊢; omega
  have e1 : fT (f2 (cmpD .Eq) (fCall (aCons (fVar 0) (aCons (fVar 3) (aCons (fVar 2) aNil))) z__law_at) (fConst (.int 0))) [some (enc4 f), p, some (.int y), some (.int x)] = some (decide (at4 f x y = 0)) := by
    simp [fT, f2, fVar, fConst, fCall, aCons, aNil, z_at h hx hy, cmp_eq, asB]
  have e2 : fT (f2 (cmpD .Eq) (fCall (aCons (fVar 0) (aCons (f2 (binD .Sub) (fConst (.int 0)) (fVar 3)) (aCons (fVar 2) aNil))) z__law_at) (fConst (.int 0))) [some (enc4 f), p, some (.int y), some (.int x)] = some (decide (at4 f (0 - x) y = 0)) := by
    have := z_at h hx' hy
    rw [Int.zero_sub] at this
    simp [fT, f2, fVar, fConst, fCall, aCons, aNil, binD, sub_ii, this, cmp_eq, asB]
  generalize at4 f x y = u at e1 ⊢
  generalize at4 f (0 - x) y = v at e2 ⊢
  by_cases c : u = 0
  · simp [hrX, sSeq, sIf, tOr2, e1, e2, c, sNil, sRet, fConst]
  · by_cases c2 : v = 0
    · simp [hrX, sSeq, sIf, tOr2, e1, e2, c, c2, sNil, sRet, fConst]
    · simp [hrX, sSeq, sIf, tOr2, e1, e2, c, c2, sNil, sRet, fConst]
theorem hrXs_ok {f : Q4} {p : Option D} {y : Int} (h : Sm4 f) (hy : Sm y) : ∀ (l : List Int) (x : Option D), (∀ z ∈ l, Sm z) → ∃ x', forD (gVar 3) hrX (l.map D.int) [some (enc4 f), p, some (.int y), x] = some (if seekX f y l = true then .rt (.bl true) else .nx [some (enc4 f), p, some (.int y), x'])
  | [], x, _ => ⟨x, rfl⟩
  | z :: zs, x, hs => by
    have st : gVar 3 (D.int z) [some (enc4 f), p, some (.int y), x] = some [some (enc4 f), p, some (.int y), some (.int z)] := rfl
    rw [List.map_cons, forD_cons st, hrX_ok h (hs z (List.mem_cons_self ..)) hy]
    obtain ⟨x', ih⟩ := hrXs_ok (p := p) (y := y) h hy zs (some (.int z)) fun w hw => hs w (List.mem_cons_of_mem _ hw)
    unfold seekX
    by_cases c : at4 f z y = 0
    · rw [if_pos c, if_pos c]
      exact ⟨x', rfl⟩
    · rw [if_neg c, if_neg c]
      by_cases c2 : at4 f (0 - z) y = 0
      · rw [if_pos c2, if_pos c2]
        exact ⟨x', rfl⟩
      · rw [if_neg c2, if_neg c2]
        exact ⟨x', ih⟩
def hrI (k : Int) : FA := iBind (aCons (fConst (.int 1)) (aCons (f2 (binD .Add) (fCall (aCons (f2 ixD (fVar 0) (fConst (.int k))) aNil) absF) (fConst (.int 1))) aNil)) iRange2
def hrY : FS := (sSeq (sFor (hrI 3) (gVar 3) hrX) sNil)
theorem rng_abs {i : Int} (h : i.natAbs < 1000) : iRange2 [.int 1, .int ((if i < 0 then -i else i) + 1)] = some ((rngI 1 i.natAbs).map D.int) := by
  show (if -1000 ≤ (1 : Int) ∧ (1 : Int) ≤ 1000 ∧ -1000 ≤ (if i < 0 then -i else i) + 1 ∧ (if i < 0 then -i else i) + 1 ≤ 1000 then some (rangeL 1 ((if i < 0 then -i else i) + 1 - 1).toNat) else none) = _
  have e : (if i < 0 then -i else i) = (i.natAbs : Int) := by split <;> omega
  rw [e, if_pos (by omega), show ((i.natAbs : Int) + 1 - 1).toNat = i.natAbs by omega, rngI_enc]
theorem hrY_ok {f : Q4} {p x : Option D} {y : Int} (h : Sm4 f) (hd : f.2.2.2.natAbs < 1000) (hy : Sm y) : ∃ x', hrY [some (enc4 f), p, some (.int y), x] = some (if seekX f y (rngI 1 f.2.2.2.natAbs) = true then .rt (.bl true) else .nx [some (enc4 f), p, some (.int y), x']) := by
  have it : hrI 3 [some (enc4 f), p, some (.int y), x] = some ((rngI 1 f.2.2.2.natAbs).map D.int) := rng_abs hd
  obtain ⟨x', e⟩ := hrXs_ok (p := p) (y := y) h hy (rngI 1 f.2.2.2.natAbs) x fun z hz => by
    have := rngI_lt hz
    unfold Sm
    omega
  refine ⟨x', ?_⟩
  unfold hrY sSeq sFor
  rw [it]
  show ((forD (gVar 3) hrX _ _).bind _) = _
  rw [e]
  cases seekX f y (rngI 1 f.2.2.2.natAbs) <;> rfl
theorem hrYs_ok {f : Q4} {p : Option D} (h : Sm4 f) (hd : f.2.2.2.natAbs < 1000) : ∀ (l : List Int) (y x : Option D), (∀ z ∈ l, Sm z) → ∃ y' x', forD (gVar 2) hrY (l.map D.int) [some (enc4 f), p, y, x] = some (if seekY f (rngI 1 f.2.2.2.natAbs) l = true then .rt (.bl true) else .nx [some (enc4 f), p, y', x'])
  | [], y, x, _ => ⟨y, x, rfl⟩
  | z :: zs, y, x, hs => by
    have st : gVar 2 (D.int z) [some (enc4 f), p, y, x] = some [some (enc4 f), p, some (.int z), x] := rfl
    obtain ⟨x1, e⟩ := hrY_ok (p := p) (x := x) h hd (hs z (List.mem_cons_self ..))
    rw [List.map_cons, forD_cons st, e]
    obtain ⟨y', x', ih⟩ := hrYs_ok (p := p) h hd zs (some (.int z)) x1 fun w hw => hs w (List.mem_cons_of_mem _ hw)
    unfold seekY
    by_cases c : seekX f z (rngI 1 f.2.2.2.natAbs) = true
    · rw [if_pos c, if_pos c]
      exact ⟨y', x', rfl⟩
    · rw [if_neg c, if_neg c]
      exact ⟨y', x', ih⟩
theorem k__law_has_root : ∀ ds d, z__law_has_root ds = some d → f__law_has_root ds = some d := fun ds d hz => by
  unfold z__law_has_root at hz
  split at hz <;> try (cases hz; done)
  rename_i x
  rw [Option.bind_eq_some_iff] at hz
  obtain ⟨f, e1, hz⟩ := hz
  obtain ⟨⟨h1, h2, h3⟩, rfl⟩ := if_some hz
  rw [dec4_ok e1]
  have i0 : ixD (enc4 f) (.int 0) = some (.int f.1) := rfl
  have i3 : ixD (enc4 f) (.int 3) = some (.int f.2.2.2) := rfl
  have c0 : tOr2 (fT (f2 (cmpD .Eq) (f2 ixD (fVar 0) (fConst (.int 0))) (fConst (.int 0)))) (fT (f2 (cmpD .Eq) (f2 ixD (fVar 0) (fConst (.int 3))) (fConst (.int 0)))) [some (enc4 f), none, none, none] = some (decide (f.1 = 0 ∨ f.2.2.2 = 0)) := by
    by_cases c : f.1 = 0 <;> simp [tOr2, fT, f2, fVar, fConst, i0, i3, cmp_eq, asB, c]
  show ((r__law_has_root [some (enc4 f), none, none, none]).bind fun o => some (outD o)) = _
  unfold rooted
  by_cases c : f.1 = 0 ∨ f.2.2.2 = 0
  · rw [if_pos c]
    rw [show decide (f.1 = 0 ∨ f.2.2.2 = 0) = true by simpa using c] at c0
    unfold r__law_has_root sSeq sIf
    rw [c0]
    rfl
  · rw [if_neg c]
    rw [show decide (f.1 = 0 ∨ f.2.2.2 = 0) = false by simpa using c] at c0
    obtain ⟨p', e2⟩ := hrP_ok (y := none) (x := none) h1 primesL none (by decide)
    obtain ⟨y', x', e3⟩ := hrYs_ok (p := p') h1 h3 (rngI 1 f.1.natAbs) none none fun z hz => by
      have := rngI_lt hz
      unfold Sm
      omega
    have it : hrI 0 [some (enc4 f), p', none, none] = some ((rngI 1 f.1.natAbs).map D.int) := rng_abs h2
    have body : r__law_has_root = sSeq (sIf (tOr2 (fT (f2 (cmpD .Eq) (f2 ixD (fVar 0) (fConst (.int 0))) (fConst (.int 0)))) (fT (f2 (cmpD .Eq) (f2 ixD (fVar 0) (fConst (.int 3))) (fConst (.int 0))))) (sSeq (sRet (fConst (.bl true))) sNil) sNil) (sSeq (fun δ => forD (gVar 1) hrB (primesL.map D.int) δ) (sSeq (sFor (hrI 0) (gVar 2) hrY) (sSeq (sRet (fConst (.bl false))) sNil))) := rfl
    rw [body]
    unfold sSeq sIf
    rw [c0]
    show (((forD (gVar 1) hrB (primesL.map D.int) [some (enc4 f), none, none, none]).bind _).bind _) = _
    rw [e2]
    by_cases b : barL f primesL = true
    · rw [if_pos b, if_pos b]
      rfl
    · rw [if_neg b, if_neg b]
      show (((sFor (hrI 0) (gVar 2) hrY [some (enc4 f), p', none, none]).bind _).bind _) = _
      unfold sFor
      rw [it]
      show (((forD (gVar 2) hrY _ _).bind _).bind _) = _
      rw [e3]
      cases seekY f (rngI 1 f.2.2.2.natAbs) (rngI 1 f.1.natAbs) <;> rfl
end FR
end
section
set_option Elab.async false
set_option linter.all false
set_option maxRecDepth 100000
set_option maxHeartbeats 4000000
/-! _law_is_greatest, typed. -/
namespace FR
open PySem PySem.Spec PyProof.Rows L2 DV
abbrev P2 := Int × Int
def enc2 (p : P2) : D := .tup [.int p.1, .int p.2]
def pairs9 : List P2 := [(-1, -1), (-1, 0), (-1, 1), (0, -1), (0, 0), (0, 1), (1, -1), (1, 0), (1, 1)]
/-- found: a greater one with the same Hessian -/
def grIn (f : Q4) (h : Int × Int × Int) (p q : Int) : List P2 → Option Bool
  | [] => some false
  | rs :: l => if Sm p ∧ Sm q then (if p * rs.2 - q * rs.1 = 1 ∨ p * rs.2 - q * rs.1 = -1 then
      (if Sm4 f ∧ Sm4 (p, q, rs.1, rs.2) ∧ Sm (det4 (p, q, rs.1, rs.2)) then (if lexGt (l4 (led4 f (p, q, rs.1, rs.2))) (l4 f) = true then
        (if Sm4 (led4 f (p, q, rs.1, rs.2)) then (if hess4 (led4 f (p, q, rs.1, rs.2)) = h then some true else grIn f h p q l) else none) else grIn f h p q l) else none) else grIn f h p q l) else none
def grOut (f : Q4) (h : Int × Int × Int) : List P2 → Option Bool
  | [] => some false
  | pq :: l => (grIn f h pq.1 pq.2 pairs9).bind fun b => if b = true then some true else grOut f h l
def z_greatest : List D → Option D
  | [x] => (dec4 x).bind fun f => if Sm4 f then (if 0 ≤ (hess4 f).2.1 ∧ (hess4 f).2.1 ≤ (hess4 f).1 ∧ (hess4 f).1 ≤ (hess4 f).2.2 then (grOut f (hess4 f) pairs9).bind fun b => some (.bl !b) else some (.bl false)) else none
  | _ => none
def giBody : FS := (sSeq (sIf (fT (f2 (cmpD .In) (f2 (binD .Sub) (f2 (binD .Mult) (fVar 4) (fVar 7)) (f2 (binD .Mult) (fVar 5) (fVar 6))) (fTup (aCons (fConst (.int 1)) (aCons (fNeg (fConst (.int 1))) aNil))))) (sSeq (sSet 8 (fCall (aCons (fVar 0) (aCons (fTup (aCons (fTup (aCons (fVar 4) (aCons (fVar 5) aNil))) (aCons (fTup (aCons (fVar 6) (aCons (fVar 7) aNil))) aNil))) aNil)) z_form_led)) (sSeq (sIf (tAnd2 (fT (f2 (cmpD .Gt) (fVar 8) (fVar 0))) (fT (f2 (cmpD .Eq) (fCall (aCons (fVar 8) aNil) z_hessian_of) (fVar 1)))) (sSeq (sRet (fConst (.bl false))) sNil) sNil) sNil)) sNil) sNil)
def gTg (i j : Nat) : D → DEnv → Option DEnv := gTupL 2 (gMore (gVar i) (gMore (gVar j) gNone))
def goBody : FS := (sSeq (sFor (iSeq (fVar 3)) (gTg 6 7) giBody) sNil)
def gAll : FS := (sSeq (sFor (iSeq (fVar 3)) (gTg 4 5) goBody) (sSeq (sRet (fConst (.bl true))) sNil))
theorem q_g0 : cE t__law_is_greatest gN gSc 40 (tupA (asgV gS1) 0) = fCall (aCons (fVar 0) aNil) z_hessian_of := by kernel_rfl
theorem q_g1 : cE t__law_is_greatest gN gSc 40 (tupA (asgV gS1) 1) = fTup (aCons (fNeg (fConst (.int 1))) (aCons (fConst (.int 0)) (aCons (fConst (.int 1)) aNil))) := by kernel_rfl
theorem q_g2 : cT t__law_is_greatest gN gSc 40 (ifC gS2) = tNot1 (tChain3 (cmpD .LtE) (cmpD .LtE) (cmpD .LtE) (fConst (.int 0)) (f2 ixD (fVar 1) (fConst (.int 1))) (f2 ixD (fVar 1) (fConst (.int 0))) (f2 ixD (fVar 1) (fConst (.int 2)))) := by kernel_rfl
theorem q_g3 : cSs t__law_is_greatest gN gSc 40 (ifB gS2) = (sSeq (sRet (fConst (.bl false))) sNil) := by kernel_rfl
theorem q_g4 : cE t__law_is_greatest gN gSc 40 (forI gS3) = fVar 2 := by kernel_rfl
theorem q_g5 : cE t__law_is_greatest gN gSc 40 (argA (exprV (ifA gS3 0)) 0) = fComp (iSeq (fVar 2)) [5] (gVar 5) tTrue (fTup (aCons (fVar 4) (aCons (fVar 5) aNil))) := by kernel_rfl
theorem q_g6 : cSs t__law_is_greatest gN gSc 40 gB = gAll := by kernel_rfl
theorem in2 (i : Int) : cmpD .In (.int i) (.tup [.int 1, .int (-1)]) = some (.bl (decide (i = 1 ∨ i = -1))) := by
  show inD false (.int i) (.tup [.int 1, .int (-1)]) = _
  by_cases h1 : i = 1
  · subst h1; rfl
  · by_cases h2 : i = -1
    · subst h2; rfl
    · simp [inD, intsOf, h1, h2]
def gE (f : Q4) (h : Int × Int × Int) (sz rows : D) (p q r t o : Option D) : DEnv := [some (enc4 f), some (enc3 h), some sz, some rows, p, q, r, t, o]
theorem giBody_no {f : Q4} {h : Int × Int × Int} {sz rows : D} {p q r t : Int} {o : Option D} (m1 : Sm p) (m2 : Sm q) (hd : ¬ (p * t - q * r = 1 ∨ p * t - q * r = -1)) : giBody (gE f h sz rows (some (.int p)) (some (.int q)) (some (.int r)) (some (.int t)) o) = some (.nx (gE f h sz rows (some (.int p)) (some (.int q)) (some (.int r)) (some (.int t)) o)) := by
  simp [giBody, gE, sSeq, sIf, fT, f2, fVar, fConst, fNeg, neg_i, fTup, aCons, aNil, binD, mul_l m1, mul_l m2, sub_ii, in2, hd, asB, sNil]
theorem giBody_yes {f : Q4} {h : Int × Int × Int} {sz rows : D} {p q r t : Int} {o : Option D} (m1 : Sm p) (m2 : Sm q) (hd : p * t - q * r = 1 ∨ p * t - q * r = -1) (k : Sm4 f ∧ Sm4 (p, q, r, t) ∧ Sm (det4 (p, q, r, t))) {b : Bool}
    (hb : (if lexGt (l4 (led4 f (p, q, r, t))) (l4 f) = true then (if Sm4 (led4 f (p, q, r, t)) then (if hess4 (led4 f (p, q, r, t)) = h then some true else some false) else none) else some false) = some b) :
    giBody (gE f h sz rows (some (.int p)) (some (.int q)) (some (.int r)) (some (.int t)) o) = some (if b = true then .rt (.bl false) else .nx (gE f h sz rows (some (.int p)) (some (.int q)) (some (.int r)) (some (.int t)) (some (enc4 (led4 f (p, q, r, t)))))) := by
  have e1 : z_form_led [enc4 f, .tup [.tup [.int p, .int q], .tup [.int r, .int t]]] = some (enc4 (led4 f (p, q, r, t))) := by
    show (if Sm4 f ∧ Sm4 (p, q, r, t) ∧ Sm (det4 (p, q, r, t)) then some (enc4 (led4 f (p, q, r, t))) else none) = _
    rw [if_pos k]
  generalize led4 f (p, q, r, t) = x at hb e1
  by_cases g : lexGt (l4 x) (l4 f) = true
  · rw [if_pos g] at hb
    split at hb
    · rename_i so
      have e2 : z_hessian_of [enc4 x] = some (enc3 (hess4 x)) := by
        show (if Sm4 x then some (enc3 (hess4 x)) else none) = _
        rw [if_pos so]
      by_cases y : hess4 x = h
      · rw [if_pos y] at hb
        cases hb
        simp [giBody, gE, sSeq, sIf, sSet, sRet, fT, f2, fVar, fConst, fNeg, neg_i, fTup, aCons, aNil, fCall, binD, mul_l m1, mul_l m2, sub_ii, in2, hd, asB, sNil, e1, e2, gt4, eq3, g, y, tAnd2]
      · rw [if_neg y] at hb
        cases hb
        simp [giBody, gE, sSeq, sIf, sSet, sRet, fT, f2, fVar, fConst, fNeg, neg_i, fTup, aCons, aNil, fCall, binD, mul_l m1, mul_l m2, sub_ii, in2, hd, asB, sNil, e1, e2, gt4, eq3, g, y, tAnd2]
    · cases hb
  · rw [if_neg g] at hb
    cases hb
    have g' : lexGt (l4 x) (l4 f) = false := by simpa using g
    simp [giBody, gE, sSeq, sIf, sSet, sRet, fT, f2, fVar, fConst, fNeg, neg_i, fTup, aCons, aNil, fCall, binD, mul_l m1, mul_l m2, sub_ii, in2, hd, asB, sNil, e1, gt4, g', tAnd2]
theorem grIn_ok {f : Q4} {h : Int × Int × Int} {sz rows : D} {p q : Int} : ∀ (l : List P2) (b : Bool) (r t o : Option D), grIn f h p q l = some b →
    ∃ r' t' o', forD (gTg 6 7) giBody (l.map enc2) (gE f h sz rows (some (.int p)) (some (.int q)) r t o) = some (if b = true then .rt (.bl false) else .nx (gE f h sz rows (some (.int p)) (some (.int q)) r' t' o'))
  | [], b, r, t, o, e => by
    cases e
    exact ⟨r, t, o, rfl⟩
  | rs :: l, b, r, t, o, e => by
    obtain ⟨r1, t1⟩ := rs
    unfold grIn at e
    dsimp only at e
    split at e <;> try (cases e; done)
    rename_i hm
    have st : gTg 6 7 (enc2 (r1, t1)) (gE f h sz rows (some (.int p)) (some (.int q)) r t o) = some (gE f h sz rows (some (.int p)) (some (.int q)) (some (.int r1)) (some (.int t1)) o) := rfl
    rw [List.map_cons, forD_cons st]
    split at e
    · rename_i hd
      split at e <;> try (cases e; done)
      rename_i hk
      have two : ∃ b1, (if lexGt (l4 (led4 f (p, q, r1, t1))) (l4 f) = true then (if Sm4 (led4 f (p, q, r1, t1)) then (if hess4 (led4 f (p, q, r1, t1)) = h then some true else some false) else none) else some false) = some b1 ∧ (if b1 = true then some true else grIn f h p q l) = some b := by
        split at e
        · rename_i g
          rw [if_pos g]
          split at e
          · rename_i so
            rw [if_pos so]
            split at e
            · rename_i y
              rw [if_pos y]
              exact ⟨true, rfl, e⟩
            · rename_i y
              rw [if_neg y]
              exact ⟨false, rfl, e⟩
          · cases e
        · rename_i g
          rw [if_neg g]
          exact ⟨false, rfl, e⟩
      obtain ⟨b1, e1, e2⟩ := two
      rw [giBody_yes hm.1 hm.2 hd hk e1]
      cases b1 with
      | true =>
        cases e2
        exact ⟨r, t, o, rfl⟩
      | false => exact grIn_ok l b _ _ _ e2
    · rename_i hd
      rw [giBody_no hm.1 hm.2 hd]
      exact grIn_ok l b _ _ _ e
theorem goBody_ok {f : Q4} {h : Int × Int × Int} {sz : D} {p q : Int} {b : Bool} {r t o : Option D} (e : grIn f h p q pairs9 = some b) : ∃ r' t' o', goBody (gE f h sz (.lst (pairs9.map enc2)) (some (.int p)) (some (.int q)) r t o) = some (if b = true then .rt (.bl false) else .nx (gE f h sz (.lst (pairs9.map enc2)) (some (.int p)) (some (.int q)) r' t' o')) := by
  obtain ⟨r', t', o', e1⟩ := grIn_ok (sz := sz) (rows := .lst (pairs9.map enc2)) pairs9 b r t o e
  refine ⟨r', t', o', ?_⟩
  have it : iSeq (fVar 3) (gE f h sz (.lst (pairs9.map enc2)) (some (.int p)) (some (.int q)) r t o) = some (pairs9.map enc2) := rfl
  unfold goBody sSeq sFor
  rw [it]
  rw [Option.bind_some, e1]
  cases b <;> rfl
theorem grOut_ok {f : Q4} {h : Int × Int × Int} {sz : D} : ∀ (l : List P2) (b : Bool) (p q r t o : Option D), grOut f h l = some b →
    ∃ p' q' r' t' o', forD (gTg 4 5) goBody (l.map enc2) (gE f h sz (.lst (pairs9.map enc2)) p q r t o) = some (if b = true then .rt (.bl false) else .nx (gE f h sz (.lst (pairs9.map enc2)) p' q' r' t' o'))
  | [], b, p, q, r, t, o, e => by
    cases e
    exact ⟨p, q, r, t, o, rfl⟩
  | pq :: l, b, p, q, r, t, o, e => by
    obtain ⟨p1, q1⟩ := pq
    unfold grOut at e
    rw [Option.bind_eq_some_iff] at e
    obtain ⟨b1, e1, e2⟩ := e
    have st : gTg 4 5 (enc2 (p1, q1)) (gE f h sz (.lst (pairs9.map enc2)) p q r t o) = some (gE f h sz (.lst (pairs9.map enc2)) (some (.int p1)) (some (.int q1)) r t o) := rfl
    rw [List.map_cons, forD_cons st]
    obtain ⟨r', t', o', e3⟩ := goBody_ok (sz := sz) (r := r) (t := t) (o := o) e1
    rw [e3]
    cases b1 with
    | true =>
      cases e2
      exact ⟨p, q, r, t, o, rfl⟩
    | false => exact grOut_ok l b _ _ _ _ _ e2
def sz3 : D := .tup [.int (-1), .int 0, .int 1]
theorem chain_ok (h : Int × Int × Int) (δ : DEnv) (h1 : δ[1]? = some (some (enc3 h))) : tNot1 (tChain3 (cmpD .LtE) (cmpD .LtE) (cmpD .LtE) (fConst (.int 0)) (f2 ixD (fVar 1) (fConst (.int 1))) (f2 ixD (fVar 1) (fConst (.int 0))) (f2 ixD (fVar 1) (fConst (.int 2)))) δ = some (!decide (0 ≤ h.2.1 ∧ h.2.1 ≤ h.1 ∧ h.1 ≤ h.2.2)) := by
  obtain ⟨a, b, c⟩ := h
  have v : fVar 1 δ = some (enc3 (a, b, c)) := by unfold fVar; rw [h1]; rfl
  have i0 : ixD (enc3 (a, b, c)) (.int 0) = some (.int a) := rfl
  have i1 : ixD (enc3 (a, b, c)) (.int 1) = some (.int b) := rfl
  have i2 : ixD (enc3 (a, b, c)) (.int 2) = some (.int c) := rfl
  by_cases c1 : 0 ≤ b
  · by_cases c2 : b ≤ a
    · by_cases c3 : a ≤ c <;> simp [tNot1, tChain3, fConst, f2, v, i0, i1, i2, cmp_le, asB, c1, c2, c3]
    · simp [tNot1, tChain3, fConst, f2, v, i0, i1, i2, cmp_le, asB, c1, c2]
  · simp [tNot1, tChain3, fConst, f2, v, i0, i1, i2, cmp_le, asB, c1]
theorem k_greatest : ∀ ds d, z_greatest ds = some d → m_greatest t__law_is_greatest ds = some d := fun ds d hz => by
  unfold z_greatest at hz
  split at hz <;> try (cases hz; done)
  rename_i x
  rw [Option.bind_eq_some_iff] at hz
  obtain ⟨f, e1, hz⟩ := hz
  obtain ⟨c1, hz⟩ : Sm4 f ∧ (if 0 ≤ (hess4 f).2.1 ∧ (hess4 f).2.1 ≤ (hess4 f).1 ∧ (hess4 f).1 ≤ (hess4 f).2.2 then (grOut f (hess4 f) pairs9).bind fun b => some (D.bl !b) else some (.bl false)) = some d := by
    split at hz
    · exact ⟨by assumption, hz⟩
    · cases hz
  rw [dec4_ok e1]
  have l2 : z_hessian_of [enc4 f] = some (enc3 (hess4 f)) := by
    show (if Sm4 f then some (enc3 (hess4 f)) else none) = _
    rw [if_pos c1]
  generalize hess4 f = h at hz l2
  unfold m_greatest
  rw [if_pos (show [enc4 f].length = 1 from rfl), q_g0, q_g1, q_g2, q_g3, q_g4, q_g5, q_g6]
  rw [show fCall (aCons (fVar 0) aNil) z_hessian_of ([enc4 f].map some ++ List.replicate 8 none) = some (enc3 h) from l2]
  rw [Option.bind_some, show fTup (aCons (fNeg (fConst (.int 1))) (aCons (fConst (.int 0)) (aCons (fConst (.int 1)) aNil))) (List.map some [enc4 f] ++ List.replicate 8 none) = some sz3 from rfl, Option.bind_some]
  have eSet : (((List.map some [enc4 f] ++ List.replicate 8 none : DEnv).set 1 (some (enc3 h))).set 2 (some sz3) : DEnv) = [some (enc4 f), some (enc3 h), some sz3, none, none, none, none, none, none] := rfl
  rw [eSet]
  unfold ifCut
  rw [chain_ok h _ rfl]
  by_cases hc : 0 ≤ h.2.1 ∧ h.2.1 ≤ h.1 ∧ h.1 ≤ h.2.2
  · rw [if_pos hc, Option.bind_eq_some_iff] at hz
    obtain ⟨b, e3, hz⟩ := hz
    cases hz
    rw [show (!decide (0 ≤ h.2.1 ∧ h.2.1 ≤ h.1 ∧ h.1 ≤ h.2.2)) = false by simpa using hc]
    rw [Option.bind_some, if_neg (by decide), Option.bind_some]
    dsimp only
    rw [if_pos (show flatE [some (enc4 f), some (enc3 h), some sz3, none, none, none, none, none, none] = true from rfl), show tupIt (fVar 2 [some (enc4 f), some (enc3 h), some sz3, none, none, none, none, none, none]) = some [.int (-1), .int 0, .int 1] from rfl, Option.bind_some,
      show extD 4 (fComp (iSeq (fVar 2)) [5] (gVar 5) tTrue (fTup (aCons (fVar 4) (aCons (fVar 5) aNil)))) [.int (-1), .int 0, .int 1] [some (enc4 f), some (enc3 h), some sz3, none, none, none, none, none, none] [] = some ([some (enc4 f), some (enc3 h), some sz3, none, some (.int 1), none, none, none, none], pairs9.map enc2) from rfl, Option.bind_some]
    have eSet2 : (([some (enc4 f), some (enc3 h), some sz3, none, some (.int 1), none, none, none, none] : DEnv).set 3 (some (.lst (pairs9.map enc2))) : DEnv) = gE f h sz3 (.lst (pairs9.map enc2)) (some (.int 1)) none none none none := rfl
    dsimp only
    rw [eSet2]
    obtain ⟨p', q', r', t', o', e4⟩ := grOut_ok (sz := sz3) pairs9 b (some (.int 1)) none none none none e3
    have it : iSeq (fVar 3) (gE f h sz3 (.lst (pairs9.map enc2)) (some (.int 1)) none none none none) = some (pairs9.map enc2) := rfl
    have e5 : gAll (gE f h sz3 (.lst (pairs9.map enc2)) (some (.int 1)) none none none none) = some (.rt (.bl !b)) := by
      unfold gAll sSeq sFor
      rw [it]
      rw [Option.bind_some, e4]
      cases b <;> rfl
    rw [e5]
    rfl
  · rw [if_neg hc] at hz
    cases hz
    rw [show (!decide (0 ≤ h.2.1 ∧ h.2.1 ≤ h.1 ∧ h.1 ≤ h.2.2)) = true by rw [decide_eq_false hc]; rfl]
    rfl
end FR
end
section
set_option Elab.async false
set_option linter.all false
set_option maxRecDepth 100000
set_option maxHeartbeats 4000000
/-! bisected, monic_roots and places_of_cubic, typed. -/
namespace FR
open PySem PySem.Spec PyProof.Rows L2 DV
abbrev I3 := Int × Int × Int
def bisL (f : I3) (s : Int) : Nat → Int → Int → Option (Int × Int)
  | 0, _, _ => none
  | n + 1, lo, hi => if lo < hi then (if Sm ((lo + hi).fdiv 2) then (if 0 ≤ s * monic3 f ((lo + hi).fdiv 2) then bisL f s n lo ((lo + hi).fdiv 2) else bisL f s n ((lo + hi).fdiv 2 + 1) hi) else none) else some (lo, hi)
def bisT (f : I3) (lo hi s : Int) : Option (List Int) := if Sm s then (bisL f s fuelW lo hi).bind fun q => if q.1 = q.2 then (if Sm q.1 then (if monic3 f q.1 = 0 then some [q.1] else some []) else none) else some [] else none
def w_bisB : FS := (sSeq (sSet 4 (f2 (binD .FloorDiv) (f2 (binD .Add) (fVar 1) (fVar 2)) (fConst (.int 2)))) (sSeq (sIf (fT (f2 (cmpD .GtE) (f2 (binD .Mult) (fVar 3) (fCall (aCons (fVar 0) (aCons (fVar 4) aNil)) z_monic_at)) (fConst (.int 0)))) (sSeq (sSet 2 (fVar 4)) sNil) (sSeq (sSet 1 (f2 (binD .Add) (fVar 4) (fConst (.int 1)))) sNil)) sNil))
theorem div_2 {i : Int} : fdivD (.int i) (.int 2) = some (.int (i.fdiv 2)) := rfl
theorem div_3 {i : Int} : fdivD (.int i) (.int 3) = some (.int (i.fdiv 3)) := rfl
theorem z_mon {f : I3} {x : Int} (h : Sm x) : z_monic_at [enc3 f, .int x] = some (.int (monic3 f x)) := by
  show (if Sm x then some (D.int (monic3 f x)) else none) = _
  rw [if_pos h]
theorem w_bisB_ok {f : I3} {lo hi s : Int} {m : Option D} (hs : Sm s) (hm : Sm ((lo + hi).fdiv 2)) : w_bisB [some (enc3 f), some (.int lo), some (.int hi), some (.int s), m] = some (.nx (if 0 ≤ s * monic3 f ((lo + hi).fdiv 2) then [some (enc3 f), some (.int lo), some (.int ((lo + hi).fdiv 2)), some (.int s), some (.int ((lo + hi).fdiv 2))] else [some (enc3 f), some (.int ((lo + hi).fdiv 2 + 1)), some (.int hi), some (.int s), some (.int ((lo + hi).fdiv 2))])) := by
  generalize hk : (lo + hi).fdiv 2 = k at hm ⊢
  by_cases c : 0 ≤ s * monic3 f k
  · simp [w_bisB, sSeq, sSet, sIf, fT, f2, fVar, fConst, fCall, aCons, aNil, binD, add_ii, div_2, hk, z_mon hm, mul_l hs, cmp_ge, asB, sNil, c]
  · simp [w_bisB, sSeq, sSet, sIf, fT, f2, fVar, fConst, fCall, aCons, aNil, binD, add_ii, div_2, hk, z_mon hm, mul_l hs, cmp_ge, asB, sNil, c]
theorem bisL_ok {f : I3} {s : Int} (hs : Sm s) : ∀ (n : Nat) (lo hi : Int) (m : Option D) (q : Int × Int), bisL f s n lo hi = some q → ∃ m', whileD (fT (f2 (cmpD .Lt) (fVar 1) (fVar 2))) w_bisB n [some (enc3 f), some (.int lo), some (.int hi), some (.int s), m] = some (.nx [some (enc3 f), some (.int q.1), some (.int q.2), some (.int s), m'])
  | 0, _, _, _, _, e => nomatch e
  | n + 1, lo, hi, m, q, e => by
    unfold bisL at e
    have t : fT (f2 (cmpD .Lt) (fVar 1) (fVar 2)) [some (enc3 f), some (.int lo), some (.int hi), some (.int s), m] = some (decide (lo < hi)) := rfl
    unfold whileD
    rw [t]
    split at e
    · rename_i c
      split at e <;> try (cases e; done)
      rename_i hm
      rw [show decide (lo < hi) = true from decide_eq_true c]
      split at e
      · rename_i c2
        obtain ⟨m', ih⟩ := bisL_ok hs n lo _ (some (.int ((lo + hi).fdiv 2))) q e
        refine ⟨m', ?_⟩
        show ((w_bisB _).bind _) = _
        rw [w_bisB_ok hs hm, if_pos c2]
        exact ih
      · rename_i c2
        obtain ⟨m', ih⟩ := bisL_ok hs n _ hi (some (.int ((lo + hi).fdiv 2))) q e
        refine ⟨m', ?_⟩
        show ((w_bisB _).bind _) = _
        rw [w_bisB_ok hs hm, if_neg c2]
        exact ih
    · rename_i c
      cases e
      rw [show decide (lo < hi) = false from decide_eq_false c]
      exact ⟨m, rfl⟩
theorem bisT_ok {f : I3} {lo hi s : Int} {xs : List Int} (h : bisT f lo hi s = some xs) : f_bisF [enc3 f, .int lo, .int hi, .int s] = some (.lst (xs.map D.int)) := by
  unfold bisT at h
  split at h <;> try (cases h; done)
  rename_i hs
  rw [Option.bind_eq_some_iff] at h
  obtain ⟨q, e1, h⟩ := h
  obtain ⟨m', e2⟩ := bisL_ok hs fuelW lo hi none q e1
  have e2 : w_bis [some (enc3 f), some (.int lo), some (.int hi), some (.int s), none] = some (.nx [some (enc3 f), some (.int q.1), some (.int q.2), some (.int s), m']) := e2
  show (((w_bis [some (enc3 f), some (.int lo), some (.int hi), some (.int s), none]).bind _).bind _) = _
  rw [e2]
  by_cases c : q.1 = q.2
  · rw [if_pos c] at h
    split at h <;> try (cases h; done)
    rename_i hq
    by_cases c2 : monic3 f q.1 = 0
    · rw [if_pos c2] at h
      cases h
      simp [c_bis, fIf, tAnd2, fT, f2, fVar, fConst, fCall, aCons, aNil, cmp_eq, asB, c, z_mon (show Sm q.2 from c ▸ hq), show monic3 f q.2 = 0 from c ▸ c2, fLst, outD]
    · rw [if_neg c2] at h
      cases h
      simp [c_bis, fIf, tAnd2, fT, f2, fVar, fConst, fCall, aCons, aNil, cmp_eq, asB, c, z_mon (show Sm q.2 from c ▸ hq), show ¬ monic3 f q.2 = 0 from c ▸ c2, fLst, outD]
  · rw [if_neg c] at h
    cases h
    simp [c_bis, fIf, tAnd2, fT, f2, fVar, fConst, fCall, aCons, aNil, cmp_eq, asB, c, fLst, outD]
/-! ### monic_roots -/
def absI (i : Int) : Int := if i < 0 then -i else i
def maxI (i j : Int) : Int := if i < j then j else i
def r_mPre : FS := (sSeq (sAsg (fVar 0) (gTupL 3 (gMore (gVar 1) (gMore (gVar 2) (gMore (gVar 3) gNone))))) (sSeq (sPar2 4 5 (aCons (f2 (binD .Add) (fConst (.int 2)) (fCall (aCons (fCall (aCons (fVar 1) aNil) absF) (aCons (fCall (aCons (fVar 2) aNil) absF) (aCons (fCall (aCons (fVar 3) aNil) absF) aNil))) (fun ds => (max2F ds).or (max3F ds)))) (aCons (f2 (binD .Sub) (f2 (binD .Mult) (fVar 1) (fVar 1)) (f2 (binD .Mult) (fConst (.int 3)) (fVar 2))) aNil)))
  (sSeq (sIf (fT (f2 (cmpD .LtE) (fVar 5) (fConst (.int 0)))) (sSeq (sRet (fCall (aCons (fVar 0) (aCons (fNeg (fVar 4)) (aCons (fVar 4) (aCons (fConst (.int 1)) aNil)))) f_bisF)) sNil) sNil) (sSeq (sSet 6 (fCall (aCons (fVar 5) aNil) sqrtF))
  (sSeq (sPar2 7 8 (aCons (f2 (binD .FloorDiv) (f2 (binD .Sub) (f2 (binD .Sub) (fNeg (fVar 1)) (fVar 6)) (fConst (.int 1))) (fConst (.int 3))) (aCons (f2 (binD .FloorDiv) (f2 (binD .Add) (fNeg (fVar 1)) (fVar 6)) (fConst (.int 3))) aNil))) sNil)))))
def r_m5 : FA := aCons (fVar 0) (aCons (fNeg (fVar 4)) (aCons (fVar 7) (aCons (fConst (.int 1)) aNil)))
def r_m6 : DEnv → Option D := fCall (aCons (fVar 0) (aCons (f2 (binD .Add) (fVar 7) (fConst (.int 1))) (aCons (fVar 8) (aCons (fNeg (fConst (.int 1))) aNil)))) f_bisF
def r_m7 : FS := sSeq (sRet (fLst (aStar (fVar 9) (aStar (fCall (aCons (fVar 0) (aCons (f2 (binD .Add) (fVar 8) (fConst (.int 1))) (aCons (fVar 4) (aCons (fConst (.int 1)) aNil)))) f_bisF) aNil)))) sNil
theorem q_mp : cSs t_monic_roots mN mSc 60 mPre = r_mPre := by kernel_rfl
theorem q_m5 : cA t_monic_roots mN mSc 40 (callAs (asgV mS5)) = r_m5 := by kernel_rfl
theorem q_m6 : cE t_monic_roots mN mSc 40 (argA (exprV mS6) 0) = r_m6 := by kernel_rfl
theorem q_m7 : cSs t_monic_roots mN mSc 40 mS7 = r_m7 := by kernel_rfl
def monicT : I3 → Option (List Int) := fun (u, v, w) =>
  if Sm u then (if u * u - 3 * v ≤ 0 then bisT (u, v, w) (-(2 + maxI (maxI (absI u) (absI v)) (absI w))) (2 + maxI (maxI (absI u) (absI v)) (absI w)) 1
    else if u * u - 3 * v < 18446744073709551616 then
      (bisT (u, v, w) (-(2 + maxI (maxI (absI u) (absI v)) (absI w))) ((-u - (Float64.isqrt (u * u - 3 * v).toNat : Nat) - 1).fdiv 3) 1).bind fun xs =>
      (bisT (u, v, w) ((-u - (Float64.isqrt (u * u - 3 * v).toNat : Nat) - 1).fdiv 3 + 1) ((-u + (Float64.isqrt (u * u - 3 * v).toNat : Nat)).fdiv 3) (-1)).bind fun ys =>
      (bisT (u, v, w) ((-u + (Float64.isqrt (u * u - 3 * v).toNat : Nat)).fdiv 3 + 1) (2 + maxI (maxI (absI u) (absI v)) (absI w)) 1).bind fun zs => if xs.length + ys.length ≤ 1000 ∧ (xs ++ ys ++ zs).length ≤ 1000 then some (xs ++ ys ++ zs) else none
    else none) else none
theorem flatL_ints : ∀ xs : List Int, flatL (xs.map D.int) = true
  | [] => rfl
  | x :: xs => by
    have := flatL_ints xs
    simp [flatL, flat, this]
theorem lst_ints (xs : List Int) : lstOf (some (.lst (xs.map D.int))) = some (xs.map D.int) := by
  show (if flatL (xs.map D.int) = true then some (xs.map D.int) else none) = _
  rw [if_pos (flatL_ints xs)]
theorem abs_i {i : Int} : absF [.int i] = some (.int (absI i)) := rfl
theorem max_3 {i j k : Int} : ((fun ds => (max2F ds).or (max3F ds)) : List D → Option D) [.int i, .int j, .int k] = some (.int (maxI (maxI i j) k)) := rfl
theorem sqrt_i {i : Int} (h : 0 ≤ i ∧ i < 18446744073709551616) : sqrtF [.int i] = some (.int ((Float64.isqrt i.toNat : Nat) : Int)) := by
  show (if 0 ≤ i ∧ i < 18446744073709551616 then some (D.int ((Float64.isqrt i.toNat : Nat) : Int)) else none) = _
  rw [if_pos h]
theorem seq_l {xs : List D} : seqOf (.lst xs) = some xs := rfl
theorem monicT_ok {f : I3} {xs : List Int} (h : monicT f = some xs) : m_monic [enc3 f] = some (.lst (xs.map D.int)) := by
  obtain ⟨u, v, w⟩ := f
  unfold monicT at h
  dsimp only at h
  split at h <;> try (cases h; done)
  rename_i hu
  generalize hb : 2 + maxI (maxI (absI u) (absI v)) (absI w) = most at h
  generalize hp : u * u - 3 * v = part at h
  have m3 : maxI (maxI (absI u) (absI v)) (absI w) = most - 2 := by omega
  unfold m_monic
  rw [if_pos (show [enc3 (u, v, w)].length = 1 from rfl), q_mp]
  show ((r_mPre [some (enc3 (u, v, w)), none, none, none, none, none, none, none, none, none]).bind _) = _
  by_cases c : part ≤ 0
  · rw [if_pos c] at h
    have e1 := bisT_ok h
    have e2 : r_mPre [some (enc3 (u, v, w)), none, none, none, none, none, none, none, none, none] = some (.rt (.lst (xs.map D.int))) := by
      unfold enc3 at e1 ⊢
      simp [r_mPre, sSeq, sAsg, gTupL, gTupD, gMore, gNone, gVar, sPar2, f2, fVar, fConst, fCall, fNeg, neg_i, aCons, aNil, abs_i, max_3, binD, add_ii, sub_ii, mul_l hu, mul_l sm3, hb, hp, sIf, fT, cmp_le, asB, c, e1, sRet]
    rw [e2]
    rfl
  · rw [if_neg c] at h
    split at h <;> try (cases h; done)
    rename_i c2
    generalize hr : ((Float64.isqrt part.toNat : Nat) : Int) = root at h
    generalize hl : (-u - root - 1).fdiv 3 = low at h
    generalize hh : (-u + root).fdiv 3 = high at h
    rw [Option.bind_eq_some_iff] at h
    obtain ⟨x1, e1, h⟩ := h
    rw [Option.bind_eq_some_iff] at h
    obtain ⟨x2, e2, h⟩ := h
    rw [Option.bind_eq_some_iff] at h
    obtain ⟨x3, e3, h⟩ := h
    obtain ⟨⟨l1, l2⟩, rfl⟩ := if_some h
    have b1 := bisT_ok e1
    have b2 := bisT_ok e2
    have b3 := bisT_ok e3
    have pre : r_mPre [some (enc3 (u, v, w)), none, none, none, none, none, none, none, none, none] = some (.nx [some (enc3 (u, v, w)), some (.int u), some (.int v), some (.int w), some (.int most), some (.int part), some (.int root), some (.int low), some (.int high), none]) := by
      unfold enc3
      have cc : ¬ part ≤ 0 := c
      simp [r_mPre, sSeq, sAsg, gTupL, gTupD, gMore, gNone, gVar, sPar2, f2, fVar, fConst, fCall, fNeg, neg_i, aCons, aNil, abs_i, max_3, binD, add_ii, sub_ii, mul_l hu, mul_l sm3, hb, hp, sIf, fT, cmp_le, asB, cc, sNil, sSet, sqrt_i (show 0 ≤ part ∧ part < 18446744073709551616 from ⟨by omega, c2⟩), hr, div_3, hl, hh]
    rw [pre]
    show mK t_monic_roots _ = _
    unfold mK
    rw [q_m5, q_m6, q_m7]
    have i1 : r_m5 [some (enc3 (u, v, w)), some (.int u), some (.int v), some (.int w), some (.int most), some (.int part), some (.int root), some (.int low), some (.int high), none] = some [enc3 (u, v, w), .int (-most), .int low, .int 1] := rfl
    have i2 : r_m6 [some (enc3 (u, v, w)), some (.int u), some (.int v), some (.int w), some (.int most), some (.int part), some (.int root), some (.int low), some (.int high), none] = some (.lst (x2.map D.int)) := by
      simp [r_m6, fCall, aCons, aNil, fVar, f2, fConst, binD, add_ii, fNeg, neg_i, b2]
    have i3 : r_m7 [some (enc3 (u, v, w)), some (.int u), some (.int v), some (.int w), some (.int most), some (.int part), some (.int root), some (.int low), some (.int high), some (.lst (x1.map D.int ++ x2.map D.int))] = some (.rt (.lst ((x1 ++ x2 ++ x3).map D.int))) := by
      have l3 : x1.length + (x2.length + x3.length) ≤ 1000 := by simpa using l2
      simp [r_m7, sSeq, sRet, fLst, aStar, fCall, aCons, aNil, fVar, f2, fConst, binD, add_ii, b3, seq_l, l3]
    rw [if_pos (show (flatE [some (enc3 (u, v, w)), some (.int u), some (.int v), some (.int w), some (.int most), some (.int part), some (.int root), some (.int low), some (.int high), none] && ([some (enc3 (u, v, w)), some (.int u), some (.int v), some (.int w), some (.int most), some (.int part), some (.int root), some (.int low), some (.int high), none][9]?).join.isNone && [some (enc3 (u, v, w)), some (.int u), some (.int v), some (.int w), some (.int most), some (.int part), some (.int root), some (.int low), some (.int high), none].length == 10) = true from rfl), i1]
    show ((lstOf (f_bisF [enc3 (u, v, w), .int (-most), .int low, .int 1])).bind _) = _
    rw [b1]
    rw [lst_ints x1]
    show ((r_m6 _).bind _) = _
    rw [i2]
    show ((lstOf (some (.lst (x2.map D.int)))).bind _) = _
    rw [lst_ints x2]
    show (if (x1.map D.int).length + (x2.map D.int).length ≤ 1000 then _ else none) = _
    rw [if_pos (by simpa using l1)]
    show ((r_m7 [some (enc3 (u, v, w)), some (.int u), some (.int v), some (.int w), some (.int most), some (.int part), some (.int root), some (.int low), some (.int high), some (.lst (x1.map D.int ++ x2.map D.int))]).bind _) = _
    rw [i3]
    rfl
/-! ### places_of_cubic -/
def r_cPre : FS := (sSeq (sAsg (fVar 0) (gTupL 4 (gMore (gVar 1) (gMore (gVar 2) (gMore (gVar 3) (gMore (gVar 4) gNone)))))) (sSeq (sIf (fT (f2 (cmpD .NotEq) (fVar 1) (fConst (.int 0)))) (sSeq (sSet 5 (fComp (iSeq (fCall (aCons (fTup (aCons (fVar 2) (aCons (f2 (binD .Mult) (fVar 1) (fVar 3)) (aCons (f2 (binD .Mult) (f2 (binD .Mult) (fVar 1) (fVar 1)) (fVar 4)) aNil)))) aNil) m_monic)) [6] (gVar 6) tTrue (fCall (aCons (fVar 6) (aCons (fVar 1) aNil)) f_lowest_place))) sNil)
  (sSeq (sSet 5 (fLst (aCons (fConst (tI [1, 0])) (aStar (fIf (fT (f2 (cmpD .NotEq) (fTup (aCons (fVar 2) (aCons (fVar 3) (aCons (fVar 4) aNil)))) (fTup (aCons (fConst (.int 0)) (aCons (fConst (.int 0)) (aCons (fConst (.int 0)) aNil)))))) (fCall (aCons (fTup (aCons (fVar 2) (aCons (fVar 3) (aCons (fVar 4) aNil)))) aNil) f_places_of_double) (fLst aNil)) aNil)))) sNil)) sNil))
def r_cLast : FS := sRet (fCall (aCons (fKeys1 (iSeq (fVar 5)) [7] (gVar 7) (fVar 7) (fConst (.bl true))) aNil) tupF)
theorem q_cp : cSs t_cubic cN cSc 60 cPre = r_cPre := by kernel_rfl
theorem q_cl : cLast t_cubic = r_cLast := by kernel_rfl
def z_cubic : List D → Option D
  | [x] => (dec4 x).bind fun f => if f.1 = 0 then (if f.2.1 ≠ 0 then (if Sm4 f ∧ f.2.2.1 * f.2.2.1 - 4 * f.2.1 * f.2.2.2 < 0 then some (.tup [tI [1, 0]]) else none) else none)
    else if Sm f.1 ∧ Sm f.2.2.2 then (monicT (f.2.1, f.1 * f.2.2.1, f.1 * f.1 * f.2.2.2)).bind fun xs => match xs with
      | [] => some (.tup [])
      | [r] => (f_lowest_place [.int r, .int f.1]).bind fun pl => if isIT pl = true then some (.tup [pl]) else none
      | _ => none
    else none
  | _ => none
theorem isIT_flat {y : D} (h : isIT y = true) : flat y = true := by
  unfold isIT at h
  split at h
  · rename_i ds
    rw [Option.isSome_iff_exists] at h
    obtain ⟨ns, e⟩ := h
    rw [intsOf_eq e]
    show flatL _ = true
    exact flatL_ints ns
  · cases h
theorem k_cubic : ∀ ds d, z_cubic ds = some d → f_cubic ds = some d := fun ds d hz => by
  unfold z_cubic at hz
  split at hz <;> try (cases hz; done)
  rename_i x
  rw [Option.bind_eq_some_iff] at hz
  obtain ⟨f, e1, hz⟩ := hz
  rw [dec4_ok e1]
  obtain ⟨a, b, c, e⟩ := f
  dsimp only at hz
  unfold f_cubic
  rw [q_cp, q_cl]
  show (((sSeq r_cPre r_cLast) [some (enc4 (a, b, c, e)), none, none, none, none, none, none, none]).bind _) = _
  have last : ∀ (xs : List D) (q : List D) (x6 : Option D), keys1 (gVar 7) (fVar 7) (fConst (.bl true)) [some (enc4 (a, b, c, e)), some (.int a), some (.int b), some (.int c), some (.int e), some (.lst xs), x6, none] xs = some q → r_cLast [some (enc4 (a, b, c, e)), some (.int a), some (.int b), some (.int c), some (.int e), some (.lst xs), x6, none] = some (.rt (.tup q)) := fun xs q x6 hq => by
    have hq : keys1 (gVar 7) (fVar 7) (fConst (.bl true)) (wipeD [some (enc4 (a, b, c, e)), some (.int a), some (.int b), some (.int c), some (.int e), some (.lst xs), x6, none] [7]) xs = some q := hq
    simp [r_cLast, sRet, fCall, aCons, aNil, fKeys1, iSeq, fVar, seq_l, hq, tupF]
  by_cases c0 : a = 0
  · rw [if_pos c0] at hz
    split at hz <;> try (cases hz; done)
    rename_i hb
    obtain ⟨⟨hs, hd⟩, rfl⟩ := if_some hz
    obtain ⟨s1, s2, s3, s4⟩ := hs
    dsimp only at s1 s2 s3 s4
    subst c0
    have ne3 : cmpD .NotEq (.tup [.int b, .int c, .int e]) (.tup [.int 0, .int 0, .int 0]) = some (.bl true) := by
      show (eqD true (.tup [.int b, .int c, .int e]) (.tup [.int 0, .int 0, .int 0])) = _
      have sh : SeqAt.shaped (py (.tup [.int b, .int c, .int e])) = true := rfl
      have sh2 : SeqAt.shaped (py (.tup [.int 0, .int 0, .int 0])) = true := rfl
      unfold eqD
      rw [sh, sh2]
      simp [py, pyL, PyData.eqv, PyData.eqvAll, hb]
    have pd : f_places_of_double [.tup [.int b, .int c, .int e]] = some (.lst []) := by
      have hd : c * c - 4 * b * e < 0 := hd
      have hb : b ≠ 0 := hb
      simp [f_places_of_double, runB, r_places_of_double, sSeq, sAsg, gTupL, gTupD, gMore, gNone, gVar, sIf, fT, f2, fVar, fConst, cmp_eq, asB, hb, sNil, sSet, binD, sub_ii, mul_l s3, mul_l sm4, mul_l s2, mul_r s4, mul_r s2, tOr2, cmp_lt, hd, sRet, fLst, aNil, outD, List.replicate]
    have pre : r_cPre [some (enc4 (0, b, c, e)), none, none, none, none, none, none, none] = some (.nx [some (enc4 (0, b, c, e)), some (.int 0), some (.int b), some (.int c), some (.int e), some (.lst [tI [1, 0]]), none, none]) := by
      unfold enc4
      simp [r_cPre, sSeq, sAsg, gTupL, gTupD, gMore, gNone, gVar, sIf, fT, f2, fVar, fConst, cmp_ne, asB, sSet, fLst, aCons, aNil, aStar, fIf, fTup, ne3, fCall, pd, seq_l, sNil]
    unfold sSeq
    rw [pre]
    show ((r_cLast _).bind _) = _
    rw [last [tI [1, 0]] [tI [1, 0]] none rfl]
    rfl
  · rw [if_neg c0] at hz
    split at hz <;> try (cases hz; done)
    rename_i hae
    obtain ⟨ha, he⟩ := hae
    rw [Option.bind_eq_some_iff] at hz
    obtain ⟨xs, e2, hz⟩ := hz
    have e3 := monicT_ok e2
    unfold enc3 at e3
    split at hz
    · cases hz
      have pre : r_cPre [some (enc4 (a, b, c, e)), none, none, none, none, none, none, none] = some (.nx [some (enc4 (a, b, c, e)), some (.int a), some (.int b), some (.int c), some (.int e), some (.lst []), none, none]) := by
        unfold enc4
        simp [r_cPre, sSeq, sAsg, gTupL, gTupD, gMore, gNone, gVar, sIf, fT, f2, fVar, fConst, cmp_ne, asB, c0, sSet, fComp, iSeq, fCall, fTup, aCons, aNil, binD, mul_l ha, mul_r ha, mul_r he, e3, seq_l, compD, sNil]
        first | done | skip
      unfold sSeq
      rw [pre]
      show ((r_cLast _).bind _) = _
      rw [last [] [] none rfl]
      rfl
    · rename_i r
      rw [Option.bind_eq_some_iff] at hz
      obtain ⟨pl, e4, hz⟩ := hz
      split at hz <;> try (cases hz; done)
      rename_i hit
      cases hz
      have pre : r_cPre [some (enc4 (a, b, c, e)), none, none, none, none, none, none, none] = some (.nx [some (enc4 (a, b, c, e)), some (.int a), some (.int b), some (.int c), some (.int e), some (.lst [pl]), none, none]) := by
        unfold enc4
        simp [r_cPre, sSeq, sAsg, gTupL, gTupD, gMore, gNone, gVar, sIf, fT, f2, fVar, fConst, cmp_ne, asB, c0, sSet, fComp, iSeq, fCall, fTup, aCons, aNil, binD, mul_l ha, mul_r ha, mul_r he, e3, seq_l, compD, wipeD, tTrue, e4, isIT_flat hit, sNil]
        first | done | skip
      unfold sSeq
      rw [pre]
      show ((r_cLast _).bind _) = _
      rw [last [pl] [pl] none (by simp [keys1, gVar, fVar, fConst, hit])]
      rfl
    · cases hz
end FR
end
section
set_option Elab.async false
set_option linter.all false
set_option maxRecDepth 100000
set_option maxHeartbeats 4000000
/-! best_shift, typed. -/
namespace FR
open PySem PySem.Spec PyProof.Rows L2 DV
def npT (f : Q4) (t : Int) : Option Bool := if Sm (f.1 - f.2.1 - 2 * t * f.1) then some (past4 f t) else none
def dblL (f : Q4) (w : Bool) : Nat → Int → Option Int
  | 0, _ => none
  | n + 1, t => (npT f t).bind fun b => if b = w then dblL f w n (t * 2) else some t
def halvL (f : Q4) : Nat → Int → Int → Option Int
  | 0, _, _ => none
  | n + 1, lo, hi => if 1 < hi - lo then (npT f ((lo + hi).fdiv 2)).bind fun b => if b = true then halvL f n ((lo + hi).fdiv 2) hi else halvL f n lo ((lo + hi).fdiv 2) else some lo
def bsT (f : Q4) : Option Int := if Sm4 f then (dblL f false fuelW (-1)).bind fun lo => (dblL f true fuelW 1).bind fun hi => halvL f fuelW lo hi else none
theorem dbl_i (t : Int) : intC mulOk (fun i j => .int (i * j)) (.int t) (.int 2) = some (.int (t * 2)) := by
  have : mulOk t 2 = true := by unfold mulOk; simp
  simp [intC, this]
theorem np_ok {f : Q4} {t : Int} {b : Bool} (h : Sm4 f) (e : npT f t = some b) : z_is_not_past [enc4 f, .int t] = some (.bl b) := by
  unfold npT at e
  split at e <;> try (cases e; done)
  rename_i hs
  cases e
  show (if Sm4 f ∧ Sm (f.1 - f.2.1 - 2 * t * f.1) then some (D.bl (past4 f t)) else none) = _
  rw [if_pos ⟨h, hs⟩]
def loT : DEnv → Option Bool := tNot1 (fT (fCall (aCons (fVar 0) (aCons (fVar 1) aNil)) z_is_not_past))
def loB : FS := sSeq (sMul 1 (fConst (.int 2))) sNil
theorem lo_ok {f : Q4} (h : Sm4 f) {x y : Option D} : ∀ (n : Nat) (t q : Int), dblL f false n t = some q → whileD loT loB n [some (enc4 f), some (.int t), x, y] = some (.nx [some (enc4 f), some (.int q), x, y])
  | 0, _, _, e => nomatch e
  | n + 1, t, q, e => by
    unfold dblL at e
    rw [Option.bind_eq_some_iff] at e
    obtain ⟨b, e1, e2⟩ := e
    have z := np_ok h e1
    have tt : loT [some (enc4 f), some (.int t), x, y] = some (!b) := by
      simp [loT, tNot1, fT, fCall, aCons, aNil, fVar, z, asB]
    unfold whileD
    rw [tt]
    cases b with
    | true =>
      cases e2
      rfl
    | false =>
      have e2 : dblL f false n (t * 2) = some q := e2
      show ((loB [some (enc4 f), some (.int t), x, y]).bind _) = _
      rw [show loB [some (enc4 f), some (.int t), x, y] = some (.nx [some (enc4 f), some (.int (t * 2)), x, y]) from by
        have := dbl_i t
        simp [loB, sSeq, sMul, fVar, fConst, this, sNil]]
      exact lo_ok h n _ q e2
def hiT : DEnv → Option Bool := fT (fCall (aCons (fVar 0) (aCons (fVar 2) aNil)) z_is_not_past)
def hiB : FS := sSeq (sMul 2 (fConst (.int 2))) sNil
theorem hi_ok {f : Q4} (h : Sm4 f) {x y : Option D} : ∀ (n : Nat) (t q : Int), dblL f true n t = some q → whileD hiT hiB n [some (enc4 f), x, some (.int t), y] = some (.nx [some (enc4 f), x, some (.int q), y])
  | 0, _, _, e => nomatch e
  | n + 1, t, q, e => by
    unfold dblL at e
    rw [Option.bind_eq_some_iff] at e
    obtain ⟨b, e1, e2⟩ := e
    have z := np_ok h e1
    have tt : hiT [some (enc4 f), x, some (.int t), y] = some b := by
      simp [hiT, fT, fCall, aCons, aNil, fVar, z, asB]
    unfold whileD
    rw [tt]
    cases b with
    | false =>
      cases e2
      rfl
    | true =>
      have e2 : dblL f true n (t * 2) = some q := e2
      show ((hiB [some (enc4 f), x, some (.int t), y]).bind _) = _
      rw [show hiB [some (enc4 f), x, some (.int t), y] = some (.nx [some (enc4 f), x, some (.int (t * 2)), y]) from by
        have := dbl_i t
        simp [hiB, sSeq, sMul, fVar, fConst, this, sNil]]
      exact hi_ok h n _ q e2
def haT : DEnv → Option Bool := fT (f2 (cmpD .Gt) (f2 (binD .Sub) (fVar 2) (fVar 1)) (fConst (.int 1)))
def haB : FS := sSeq (sSet 3 (f2 (binD .FloorDiv) (f2 (binD .Add) (fVar 1) (fVar 2)) (fConst (.int 2)))) (sSeq (sIf (fT (fCall (aCons (fVar 0) (aCons (fVar 3) aNil)) z_is_not_past)) (sSeq (sSet 1 (fVar 3)) sNil) (sSeq (sSet 2 (fVar 3)) sNil)) sNil)
theorem half2 {i : Int} : fdivD (.int i) (.int 2) = some (.int (i.fdiv 2)) := rfl
theorem ha_ok {f : Q4} (h : Sm4 f) : ∀ (n : Nat) (lo hi q : Int) (y : Option D), halvL f n lo hi = some q → ∃ hi' y', whileD haT haB n [some (enc4 f), some (.int lo), some (.int hi), y] = some (.nx [some (enc4 f), some (.int q), some (.int hi'), y'])
  | 0, _, _, _, _, e => nomatch e
  | n + 1, lo, hi, q, y, e => by
    unfold halvL at e
    have tt : haT [some (enc4 f), some (.int lo), some (.int hi), y] = some (decide (1 < hi - lo)) := rfl
    unfold whileD
    rw [tt]
    by_cases c : 1 < hi - lo
    · rw [if_pos c, Option.bind_eq_some_iff] at e
      obtain ⟨b, e1, e2⟩ := e
      have z := np_ok h e1
      rw [show decide (1 < hi - lo) = true from decide_eq_true c]
      have hb : haB [some (enc4 f), some (.int lo), some (.int hi), y] = some (.nx (if b = true then [some (enc4 f), some (.int ((lo + hi).fdiv 2)), some (.int hi), some (.int ((lo + hi).fdiv 2))] else [some (enc4 f), some (.int lo), some (.int ((lo + hi).fdiv 2)), some (.int ((lo + hi).fdiv 2))])) := by
        generalize hk : (lo + hi).fdiv 2 = k at z ⊢
        cases b <;> simp [haB, sSeq, sSet, sIf, f2, binD, add_ii, half2, hk, fVar, fConst, fT, fCall, aCons, aNil, z, asB, sNil]
      cases b with
      | true =>
        obtain ⟨hi', y', ih⟩ := ha_ok h n _ hi q (some (.int ((lo + hi).fdiv 2))) e2
        refine ⟨hi', y', ?_⟩
        show ((haB _).bind _) = _
        rw [hb]
        exact ih
      | false =>
        obtain ⟨hi', y', ih⟩ := ha_ok h n lo _ q (some (.int ((lo + hi).fdiv 2))) e2
        refine ⟨hi', y', ?_⟩
        show ((haB _).bind _) = _
        rw [hb]
        exact ih
    · rw [if_neg c] at e
      cases e
      rw [show decide (1 < hi - lo) = false from decide_eq_false c]
      exact ⟨hi, y, rfl⟩
theorem bsT_ok {f : Q4} {t : Int} (e : bsT f = some t) : f_best_shift [enc4 f] = some (.int t) := by
  unfold bsT at e
  split at e <;> try (cases e; done)
  rename_i h
  rw [Option.bind_eq_some_iff] at e
  obtain ⟨lo, e1, e⟩ := e
  rw [Option.bind_eq_some_iff] at e
  obtain ⟨hi, e2, e⟩ := e
  have w1 := lo_ok h (x := some (.int 1)) (y := none) fuelW (-1) lo e1
  have w2 := hi_ok h (x := some (.int lo)) (y := none) fuelW 1 hi e2
  obtain ⟨hi', y', w3⟩ := ha_ok h fuelW lo hi t none e
  have body : r_best_shift = sSeq (sPar2 1 2 (aCons (fNeg (fConst (.int 1))) (aCons (fConst (.int 1)) aNil))) (sSeq (whileD loT loB fuelW) (sSeq (whileD hiT hiB fuelW) (sSeq (whileD haT haB fuelW) (sSeq (sRet (fVar 1)) sNil)))) := rfl
  show ((r_best_shift [some (enc4 f), none, none, none]).bind _) = _
  rw [body]
  unfold sSeq
  show (((whileD loT loB fuelW [some (enc4 f), some (.int (-1)), some (.int 1), none]).bind _).bind _) = _
  rw [w1]
  show (((whileD hiT hiB fuelW [some (enc4 f), some (.int lo), some (.int 1), none]).bind _).bind _) = _
  rw [w2]
  show (((whileD haT haB fuelW [some (enc4 f), some (.int lo), some (.int hi), none]).bind _).bind _) = _
  rw [w3]
  rfl
end FR
end
section
set_option Elab.async false
set_option linter.all false
set_option maxRecDepth 100000
set_option maxHeartbeats 4000000
/-! A quick check of each form, in plain numbers; it says what the law asks. -/
namespace FR
open PySem PySem.Spec PyProof.Rows L2 DV
/-! ### is it due -/
def greatestT (f : Q4) : Option Bool := if 0 ≤ (hess4 f).2.1 ∧ (hess4 f).2.1 ≤ (hess4 f).1 ∧ (hess4 f).1 ≤ (hess4 f).2.2 then (grOut f (hess4 f) pairs9).bind fun b => some (!b) else some false
def dueZ (f : Q4) : Option Bool := if Sm4 f then (if 0 < disc4 f then greatestT f else if disc4 f = 0 then some (decide (f.1 = 0) && (decide (f.2.1 = 0) && (if 0 < f.2.2.1 then decide (0 ≤ 2 * f.2.2.2) && decide (2 * f.2.2.2 ≤ f.2.2.1) else decide (f.2.2.1 = 0) && decide (0 ≤ f.2.2.2))))
  else if f.1.natAbs < 1000 ∧ f.2.2.2.natAbs < 1000 ∧ Sm (f.1 - f.2.1) ∧ Sm (f.1 + f.2.1) then (if rooted f = true then some (decide (f.1 = 0) && (decide (0 < f.2.1) && (decide (0 ≤ f.2.2.1) && decide (f.2.2.1 ≤ f.2.1)))) else some (mathews4 f)) else none) else none
theorem dueZ_ok {f : Q4} {b : Bool} (h : dueZ f = some b) : f__law_is_due [enc4 f] = some (.bl b) := by
  unfold dueZ at h
  split at h <;> try (cases h; done)
  rename_i hs
  have dz : z_discriminant_of [enc4 f] = some (.int (disc4 f)) := by
    show (if Sm4 f then some (D.int (disc4 f)) else none) = _
    rw [if_pos hs]
  by_cases c1 : 0 < disc4 f
  · rw [if_pos c1] at h
    have g : m_greatest t__law_is_greatest [enc4 f] = some (.bl b) := by
      refine k_greatest _ _ ?_
      unfold greatestT at h
      show (if Sm4 f then (if 0 ≤ (hess4 f).2.1 ∧ (hess4 f).2.1 ≤ (hess4 f).1 ∧ (hess4 f).1 ≤ (hess4 f).2.2 then (grOut f (hess4 f) pairs9).bind fun b => some (D.bl !b) else some (.bl false)) else none) = _
      rw [if_pos hs]
      split at h
      · rename_i c
        rw [if_pos c]
        rw [Option.bind_eq_some_iff] at h
        obtain ⟨b', e1, e2⟩ := h
        rw [e1]
        cases e2
        rfl
      · rename_i c
        rw [if_neg c]
        cases h
        rfl
    simp [f__law_is_due, runB, r__law_is_due, sSeq, sSet, fCall, aCons, aNil, fVar, dz, sIf, fT, f2, fConst, cmp_gt, asB, c1, sRet, g, outD]
  · rw [if_neg c1] at h
    obtain ⟨x, y, z, w⟩ := f
    have e5 : sAsg (fVar 0) (gTupL 4 (gMore (gVar 2) (gMore (gVar 3) (gMore (gVar 4) (gMore (gVar 5) gNone))))) [some (enc4 (x, y, z, w)), some (.int (disc4 (x, y, z, w))), none, none, none, none] = some (.nx [some (enc4 (x, y, z, w)), some (.int (disc4 (x, y, z, w))), some (.int x), some (.int y), some (.int z), some (.int w)]) := rfl
    by_cases c2 : disc4 (x, y, z, w) = 0
    · rw [if_pos c2] at h
      cases h
      dsimp only
      clear hs
      generalize enc4 (x, y, z, w) = E at dz e5 ⊢
      generalize disc4 (x, y, z, w) = n at dz e5 c1 c2
      subst c2
      by_cases d1 : x = 0
      · by_cases d2 : y = 0
        · by_cases d3 : 0 < z
          · by_cases d4 : 0 ≤ 2 * w
            · simp [f__law_is_due, runB, r__law_is_due, sSeq, sSet, fCall, aCons, aNil, dz, sIf, fT, f2, fConst, cmp_gt, cmp_eq, asB, c1, sNil, sRet, fAnd, fIf, fChain, outD, e5, List.replicate, fVar, d1, d2, d3, d4, cmp_le, cmp_ge, binD, mul_l sm2]
            · simp [f__law_is_due, runB, r__law_is_due, sSeq, sSet, fCall, aCons, aNil, dz, sIf, fT, f2, fConst, cmp_gt, cmp_eq, asB, c1, sNil, sRet, fAnd, fIf, fChain, outD, e5, List.replicate, fVar, d1, d2, d3, d4, cmp_le, cmp_ge, binD, mul_l sm2]
          · by_cases d4 : z = 0
            · simp [f__law_is_due, runB, r__law_is_due, sSeq, sSet, fCall, aCons, aNil, dz, sIf, fT, f2, fConst, cmp_gt, cmp_eq, asB, c1, sNil, sRet, fAnd, fIf, fChain, outD, e5, List.replicate, fVar, d1, d2, d3, d4, cmp_le, cmp_ge, binD, mul_l sm2]
            · simp [f__law_is_due, runB, r__law_is_due, sSeq, sSet, fCall, aCons, aNil, dz, sIf, fT, f2, fConst, cmp_gt, cmp_eq, asB, c1, sNil, sRet, fAnd, fIf, fChain, outD, e5, List.replicate, fVar, d1, d2, d3, d4, cmp_le, cmp_ge, binD, mul_l sm2]
        · simp [f__law_is_due, runB, r__law_is_due, sSeq, sSet, fCall, aCons, aNil, dz, sIf, fT, f2, fConst, cmp_gt, cmp_eq, asB, c1, sNil, sRet, fAnd, fIf, fChain, outD, e5, List.replicate, fVar, d1, d2, cmp_le, cmp_ge, binD, mul_l sm2]
      · simp [f__law_is_due, runB, r__law_is_due, sSeq, sSet, fCall, aCons, aNil, dz, sIf, fT, f2, fConst, cmp_gt, cmp_eq, asB, c1, sNil, sRet, fAnd, fIf, fChain, outD, e5, List.replicate, fVar, d1, cmp_le, cmp_ge, binD, mul_l sm2]
    · rw [if_neg c2] at h
      split at h <;> try (cases h; done)
      rename_i hc
      obtain ⟨k1, k2, k3, k4⟩ := hc
      have hr : f__law_has_root [enc4 (x, y, z, w)] = some (.bl (rooted (x, y, z, w))) := by
        refine k__law_has_root _ _ ?_
        show (if Sm4 (x, y, z, w) ∧ x.natAbs < 1000 ∧ w.natAbs < 1000 then some (D.bl (rooted (x, y, z, w))) else none) = _
        rw [if_pos ⟨hs, k1, k2⟩]
      have hm : z__law_is_mathews [enc4 (x, y, z, w)] = some (.bl (mathews4 (x, y, z, w))) := by
        show (if Sm4 (x, y, z, w) ∧ Sm (x - y) ∧ Sm (x + y) then some (D.bl (mathews4 (x, y, z, w))) else none) = _
        rw [if_pos ⟨hs, k3, k4⟩]
      clear hs k1 k2 k3 k4
      generalize mathews4 (x, y, z, w) = mm at h hm
      generalize rooted (x, y, z, w) = rr at h hr
      generalize enc4 (x, y, z, w) = E at dz e5 hr hm ⊢
      generalize disc4 (x, y, z, w) = n at dz e5 c1 c2
      by_cases r : rr = true
      · rw [if_pos r] at h
        rw [r] at hr
        cases h
        dsimp only
        by_cases d1 : x = 0
        · by_cases d2 : 0 < y
          · by_cases d3 : 0 ≤ z
            · simp [f__law_is_due, runB, r__law_is_due, sSeq, sSet, fCall, aCons, aNil, dz, sIf, fT, f2, fConst, cmp_gt, cmp_eq, asB, c1, sNil, sRet, fAnd, fIf, fChain, outD, e5, c2, List.replicate, fVar, hr, d1, d2, d3, cmp_le]
            · simp [f__law_is_due, runB, r__law_is_due, sSeq, sSet, fCall, aCons, aNil, dz, sIf, fT, f2, fConst, cmp_gt, cmp_eq, asB, c1, sNil, sRet, fAnd, fIf, fChain, outD, e5, c2, List.replicate, fVar, hr, d1, d2, d3, cmp_le]
          · simp [f__law_is_due, runB, r__law_is_due, sSeq, sSet, fCall, aCons, aNil, dz, sIf, fT, f2, fConst, cmp_gt, cmp_eq, asB, c1, sNil, sRet, fAnd, fIf, fChain, outD, e5, c2, List.replicate, fVar, hr, d1, d2, cmp_le]
        · simp [f__law_is_due, runB, r__law_is_due, sSeq, sSet, fCall, aCons, aNil, dz, sIf, fT, f2, fConst, cmp_gt, cmp_eq, asB, c1, sNil, sRet, fAnd, fIf, fChain, outD, e5, c2, List.replicate, fVar, hr, d1, cmp_le]
      · rw [if_neg r] at h
        rw [show rr = false by simpa using r] at hr
        cases h
        simp [f__law_is_due, runB, r__law_is_due, sSeq, sSet, fCall, aCons, aNil, dz, sIf, fT, f2, fConst, cmp_gt, cmp_eq, asB, c1, sNil, sRet, fAnd, fIf, fChain, outD, e5, c2, List.replicate, fVar, hr, hm]
/-! ### numbers made small before they go on -/
def frI {α : Type} (i : Int) (k : Int → α) : α := match i with
  | .ofNat 0 => k 0
  | .ofNat (n + 1) => k (.ofNat (n + 1))
  | .negSucc 0 => k (-1)
  | .negSucc (n + 1) => k (.negSucc (n + 1))
theorem frI_eq {α : Type} (i : Int) (k : Int → α) : frI i k = k i := by
  unfold frI
  split <;> rfl
def fr4 {α : Type} (f : Q4) (k : Q4 → α) : α := frI f.1 fun a => frI f.2.1 fun b => frI f.2.2.1 fun c => frI f.2.2.2 fun d => k (a, b, c, d)
theorem fr4_eq {α : Type} (f : Q4) (k : Q4 → α) : fr4 f k = k f := by
  unfold fr4
  rw [frI_eq, frI_eq, frI_eq, frI_eq]
def stpF (s : W4) (c : Q4) : Option W4 := (stp s c).bind fun t => fr4 t.1 fun a => fr4 t.2 fun b => some (a, b)
theorem stpF_eq (s : W4) (c : Q4) : stpF s c = stp s c := by
  unfold stpF
  simp only [fr4_eq]
  cases stp s c <;> rfl
/-- a step by a change that is known: the form and the change behind it are given -/
def stpC (s : W4) (x y : Q4) : Option W4 := if Sm4 s.1 ∧ Sm4 s.2 then fr4 x fun a => fr4 y fun b => some (a, b) else none
theorem stpC_eq {s : W4} {c x y : Q4} (h1 : Sm4 c) (h2 : Sm (det4 c)) (hx : led4 s.1 c = x) (hy : join4 s.2 c = y) : stpC s x y = stp s c := by
  unfold stpC stp
  simp only [fr4_eq]
  rw [hx, hy]
  by_cases h : Sm4 s.1 ∧ Sm4 s.2
  · rw [if_pos h, if_pos ⟨h.1, h1, h2, h.2⟩]
  · rw [if_neg h, if_neg fun q => h ⟨q.1, q.2.2.2⟩]
def stpN (s : W4) : Option W4 := stpC s (-s.1.1, -s.1.2.1, -s.1.2.2.1, -s.1.2.2.2) (-s.2.1, -s.2.2.1, -s.2.2.2.1, -s.2.2.2.2)
def stpM (s : W4) : Option W4 := stpC s (s.1.1, -s.1.2.1, s.1.2.2.1, -s.1.2.2.2) (-s.2.1, -s.2.2.1, s.2.2.2.1, s.2.2.2.2)
def stpW (s : W4) : Option W4 := stpC s (s.1.2.2.2, -s.1.2.2.1, s.1.2.1, -s.1.1) (s.2.2.2.1, s.2.2.2.2, -s.2.1, -s.2.2.1)
def stpT (s : W4) (t : Int) : Option W4 := if Sm t then stpC s (s.1.1, 3 * s.1.1 * t + s.1.2.1, (3 * s.1.1 * t + 2 * s.1.2.1) * t + s.1.2.2.1, ((s.1.1 * t + s.1.2.1) * t + s.1.2.2.1) * t + s.1.2.2.2) (s.2.1, s.2.2.1, t * s.2.1 + s.2.2.2.1, t * s.2.2.1 + s.2.2.2.2) else none
theorem q4_eq {a b c d p q r t : Int} (h1 : a = p) (h2 : b = q) (h3 : c = r) (h4 : d = t) : ((a, b, c, d) : Q4) = (p, q, r, t) := by
  rw [h1, h2, h3, h4]
theorem stpN_eq (s : W4) : stpN s = stp s (-1, 0, 0, -1) := by
  obtain ⟨⟨a, b, c, d⟩, ⟨p, q, r, t⟩⟩ := s
  refine stpC_eq (by decide) (by decide) ?_ ?_
  · refine q4_eq ?_ ?_ ?_ ?_ <;> simp only [at4] <;> grind
  · refine q4_eq ?_ ?_ ?_ ?_ <;> grind
theorem stpM_eq (s : W4) : stpM s = stp s (-1, 0, 0, 1) := by
  obtain ⟨⟨a, b, c, d⟩, ⟨p, q, r, t⟩⟩ := s
  refine stpC_eq (by decide) (by decide) ?_ ?_
  · refine q4_eq ?_ ?_ ?_ ?_ <;> simp only [at4] <;> grind
  · refine q4_eq ?_ ?_ ?_ ?_ <;> grind
theorem stpW_eq (s : W4) : stpW s = stp s (0, 1, -1, 0) := by
  obtain ⟨⟨a, b, c, d⟩, ⟨p, q, r, t⟩⟩ := s
  refine stpC_eq (by decide) (by decide) ?_ ?_
  · refine q4_eq ?_ ?_ ?_ ?_ <;> simp only [at4] <;> grind
  · refine q4_eq ?_ ?_ ?_ ?_ <;> grind
theorem stpT_eq (s : W4) (t : Int) : stpT s t = stp s (1, 0, t, 1) := by
  unfold stpT
  by_cases h : Sm t
  · rw [if_pos h]
    obtain ⟨⟨a, b, c, d⟩, ⟨p, q, r, u⟩⟩ := s
    refine stpC_eq ⟨sm1, (by decide : Sm 0), h, sm1⟩ (by show Sm (1 * 1 - 0 * t); rw [show (1 : Int) * 1 - 0 * t = 1 by omega]; exact sm1) ?_ ?_
    · refine q4_eq ?_ ?_ ?_ ?_ <;> simp only [at4] <;> grind
    · refine q4_eq ?_ ?_ ?_ ?_ <;> grind
  · rw [if_neg h]
    unfold stp
    rw [if_neg fun q => h q.2.1.2.2.1]
def negF (s : W4) : Option W4 := if s.1.1 < 0 then stpN s else some s
theorem negF_eq (s : W4) : negF s = negS s := by
  unfold negF negS
  rw [stpN_eq]
/-! ### loops with small numbers -/
def bisF (f : I3) (s : Int) : Nat → Int → Int → Option (Int × Int)
  | 0, _, _ => none
  | n + 1, lo, hi => if lo < hi then frI ((lo + hi).fdiv 2) fun m => (if Sm m then (if 0 ≤ s * monic3 f m then bisF f s n lo m else frI (m + 1) fun m1 => bisF f s n m1 hi) else none) else some (lo, hi)
theorem bisF_eq (f : I3) (s : Int) : ∀ (n : Nat) (lo hi : Int), bisF f s n lo hi = bisL f s n lo hi
  | 0, _, _ => rfl
  | n + 1, lo, hi => by
    unfold bisF bisL
    simp only [frI_eq, bisF_eq f s n]
def bisG (f : I3) (lo hi s : Int) : Option (List Int) := if Sm s then (bisF f s fuelW lo hi).bind fun q => if q.1 = q.2 then (if Sm q.1 then (if monic3 f q.1 = 0 then some [q.1] else some []) else none) else some [] else none
theorem bisG_eq (f : I3) (lo hi s : Int) : bisG f lo hi s = bisT f lo hi s := by
  unfold bisG bisT
  rw [bisF_eq]
def monicF (u0 v0 w0 : Int) : Option (List Int) := frI u0 fun u => frI v0 fun v => frI w0 fun w =>
  if Sm u then frI (2 + maxI (maxI (absI u) (absI v)) (absI w)) fun most => frI (u * u - 3 * v) fun part => (if part ≤ 0 then bisG (u, v, w) (-most) most 1
    else if part < 18446744073709551616 then frI ((Float64.isqrt part.toNat : Nat) : Int) fun root => frI ((-u - root - 1).fdiv 3) fun low => frI ((-u + root).fdiv 3) fun high =>
      (bisG (u, v, w) (-most) low 1).bind fun xs =>
      (bisG (u, v, w) (low + 1) high (-1)).bind fun ys =>
      (bisG (u, v, w) (high + 1) most 1).bind fun zs => if xs.length + ys.length ≤ 1000 ∧ (xs ++ ys ++ zs).length ≤ 1000 then some (xs ++ ys ++ zs) else none
    else none) else none
theorem monicF_eq (u v w : Int) : monicF u v w = monicT (u, v, w) := by
  unfold monicF monicT
  simp only [frI_eq, bisG_eq]
def cubicF (f : Q4) : Option D := if f.1 = 0 then z_cubic [enc4 f] else if Sm f.1 ∧ Sm f.2.2.2 then (monicF f.2.1 (f.1 * f.2.2.1) (f.1 * f.1 * f.2.2.2)).bind fun xs => match xs with
      | [] => some (.tup [])
      | [r] => (f_lowest_place [.int r, .int f.1]).bind fun pl => if isIT pl = true then some (.tup [pl]) else none
      | _ => none
    else none
theorem cubicF_eq (f : Q4) : cubicF f = z_cubic [enc4 f] := by
  unfold cubicF
  by_cases h : f.1 = 0
  · rw [if_pos h]
  · rw [if_neg h]
    unfold z_cubic
    simp only [dec4_enc, Option.bind_some, monicF_eq]
    rw [if_neg h]
    all_goals (split
               · cases monicT (f.2.1, f.1 * f.2.2.1, f.1 * f.1 * f.2.2.2) with
                 | none => rfl
                 | some xs => match xs with
                   | [] => rfl
                   | [r] => rfl
                   | _ :: _ :: _ => rfl
               · rfl)
def npF (f : Q4) (t : Int) : Option Bool := frI (f.1 - f.2.1 - 2 * t * f.1) fun x => if Sm x then some (decide (0 < at4 f x f.1)) else none
theorem npF_eq (f : Q4) (t : Int) : npF f t = npT f t := by
  unfold npF
  rw [frI_eq]
  rfl
def dblF (f : Q4) (w : Bool) : Nat → Int → Option Int
  | 0, _ => none
  | n + 1, t => (npF f t).bind fun b => if b = w then frI (t * 2) fun u => dblF f w n u else some t
theorem dblF_eq (f : Q4) (w : Bool) : ∀ (n : Nat) (t : Int), dblF f w n t = dblL f w n t
  | 0, _ => rfl
  | n + 1, t => by
    unfold dblF dblL
    simp only [npF_eq, frI_eq, dblF_eq f w n]
def halvF (f : Q4) : Nat → Int → Int → Option Int
  | 0, _, _ => none
  | n + 1, lo, hi => if 1 < hi - lo then frI ((lo + hi).fdiv 2) fun m => (npF f m).bind fun b => if b = true then halvF f n m hi else halvF f n lo m else some lo
theorem halvF_eq (f : Q4) : ∀ (n : Nat) (lo hi : Int), halvF f n lo hi = halvL f n lo hi
  | 0, _, _ => rfl
  | n + 1, lo, hi => by
    unfold halvF halvL
    simp only [npF_eq, frI_eq, halvF_eq f n]
def bsF (f : Q4) : Option Int := if Sm4 f then (dblF f false fuelW (-1)).bind fun lo => (dblF f true fuelW 1).bind fun hi => halvF f fuelW lo hi else none
theorem bsF_eq (f : Q4) : bsF f = bsT f := by
  unfold bsF bsT
  simp only [dblF_eq, halvF_eq]
/-- led_above's loop; where the first number is less, the form is not greater -/
def aboveG (here : Q4) (h : Int × Int × Int) : List Q4 → Q4 × Q4 → Option (Q4 × Q4)
  | [], s => some s
  | c :: cs, s => frI (led4 here c).1 fun a => if a < s.1.1 then aboveG here h cs s else if lexGt (l4 (led4 here c)) (l4 s.1) = true then (if Sm4 (led4 here c) then (if hess4 (led4 here c) = h then aboveG here h cs (led4 here c, c) else aboveG here h cs s) else none) else aboveG here h cs s
theorem aboveG_eq {here : Q4} {h : Int × Int × Int} (hh : Sm4 here) : ∀ (cs : List Q4) (s : Q4 × Q4), (∀ c ∈ cs, Sm4 c ∧ Sm (det4 c)) → aboveG here h cs s = aboveL here h cs s
  | [], _, _ => rfl
  | c :: cs, s, hc => by
    have ih := fun s => aboveG_eq (h := h) hh cs s fun z hz => hc z (List.mem_cons_of_mem _ hz)
    have h1 := hc c (List.mem_cons_self ..)
    unfold aboveG aboveL
    simp only [frI_eq, ih]
    rw [if_pos (show Sm4 here ∧ Sm4 c ∧ Sm (det4 c) from ⟨hh, h1⟩)]
    by_cases l : (led4 here c).1 < s.1.1
    · rw [if_pos l]
      have g : lexGt (l4 (led4 here c)) (l4 s.1) = false := by
        show (if (led4 here c).1 = s.1.1 then _ else decide (s.1.1 < (led4 here c).1)) = false
        rw [if_neg (by omega)]
        exact decide_eq_false (by omega)
      rw [g]
      rfl
    · rw [if_neg l]
theorem chg40_ok : ∀ c ∈ chg40, Sm4 c ∧ Sm (det4 c) := by decide
/-! ### the least form, below -/
def freeBz (s : W4) : Option W4 := (bsF s.1).bind fun u => frI u fun t => (if t ≠ 0 then stpT s t else some s).bind fun s2 => if Sm4 s2.1 then (if small4 s2.1 = true then some s2 else (stpW s2).bind negF) else none
def freeLz : Nat → W4 → Option W4
  | 0, _ => none
  | n + 1, s => (freeT s).bind fun c => if c = true then (freeBz s).bind (freeLz n) else some s
def leadFreeZ (s : W4) : Option W4 := (negF s).bind fun s1 => (freeLz fuelW s1).bind fun s2 => if s2.1.2.1 < 0 ∨ (s2.1.2.1 = 0 ∧ s2.1.2.2.2 < 0) then stpM s2 else some s2
theorem freeBz_ok {s q : W4} (h : freeBz s = some q) : freeB s = some q := by
  unfold freeBz at h
  rw [Option.bind_eq_some_iff] at h
  obtain ⟨t, e1, h⟩ := h
  rw [frI_eq] at h
  simp only [stpT_eq, stpW_eq, funext negF_eq] at h
  rw [bsF_eq] at e1
  unfold freeB bsI
  rw [bsT_ok e1]
  exact h
theorem freeLz_ok : ∀ (n : Nat) {s q : W4}, freeLz n s = some q → freeL n s = some q
  | 0, _, _, h => nomatch h
  | n + 1, s, q, h => by
    unfold freeLz at h
    unfold freeL
    rw [Option.bind_eq_some_iff] at h
    obtain ⟨c, e1, h⟩ := h
    rw [e1]
    cases c with
    | true =>
      have h : (freeBz s).bind (freeLz n) = some q := h
      rw [Option.bind_eq_some_iff] at h
      obtain ⟨s1, e2, h⟩ := h
      show (freeB s).bind (freeL n) = some q
      rw [freeBz_ok e2]
      exact freeLz_ok n h
    | false => exact h
theorem leadFreeZ_ok {s q : W4} (h : leadFreeZ s = some q) : leadFree s = some q := by
  unfold leadFreeZ at h
  simp only [stpM_eq, negF_eq] at h
  unfold leadFree
  rw [Option.bind_eq_some_iff] at h
  obtain ⟨s1, e1, h⟩ := h
  rw [Option.bind_eq_some_iff] at h
  obtain ⟨s2, e2, h⟩ := h
  rw [e1]
  show ((freeL fuelW s1).bind _) = _
  rw [freeLz_ok fuelW e2]
  exact h
def leadRootZ (s : W4) (c0 : Q4) : Option W4 := (stpF s c0).bind fun s1 => (if s1.1.2.1 < 0 then stpM s1 else some s1).bind fun s2 =>
  if divOk (s2.1.2.2.1 + s2.1.2.1 - 1) (2 * s2.1.2.1) = true then
    (frI (-((s2.1.2.2.1 + s2.1.2.1 - 1).fdiv (2 * s2.1.2.1))) fun t => if t ≠ 0 then stpT s2 t else some s2).bind fun s3 => if s3.1.2.2.1 < 0 then stpF s3 (1, 0, 0, -1) else some s3
  else none
theorem leadRootZ_eq (s : W4) (c0 : Q4) : leadRootZ s c0 = leadRoot s c0 := by
  unfold leadRootZ leadRoot
  simp only [stpF_eq, stpM_eq, stpT_eq, frI_eq]
def id4 : Q4 := (1, 0, 0, 1)
def belowZ (f : Q4) : Option Q4 := (cubicF f).bind fun pl => match pl with
  | .tup [] => (leadFreeZ (f, id4)).bind fun s => some s.1
  | .tup [.tup [.int x, .int y]] => ((f_end_change [.tup [.int x, .int y]]).bind decC).bind fun c0 => (leadRootZ (f, id4) c0).bind fun s => some s.1
  | _ => none
theorem idle_id : decC IDLEd = some id4 := rfl
theorem belowZ_ok {f l : Q4} (h : belowZ f = some l) : ∃ ch, f_led_below A0 [enc4 f] = some (.tup [enc4 l, ch]) := by
  unfold belowZ at h
  rw [Option.bind_eq_some_iff] at h
  obtain ⟨pl, e1, h⟩ := h
  rw [cubicF_eq] at e1
  have e1 := k_cubic _ _ e1
  have n0 : noOb (enc4 f) = true := rfl
  have t0 : tupF [enc4 f] = some (enc4 f) := rfl
  split at h
  · rw [Option.bind_eq_some_iff] at h
    obtain ⟨s, e2, h⟩ := h
    cases h
    refine ⟨encC s.2, ?_⟩
    have e3 : m_lead (enc4 f) (.tup []) = some (encC s.2, enc4 s.1) := by
      show ((decC IDLEd).bind fun c => (dec4 (enc4 f)).bind fun f => (leadFree (f, c)).bind fun s => some (encC s.2, enc4 s.1)) = _
      rw [idle_id, dec4_enc]
      show ((leadFree (f, id4)).bind _) = _
      rw [leadFreeZ_ok e2]
      rfl
    show (if noOb (enc4 f) = true then (tupF [enc4 f]).bind fun r2 => if noOb r2 = true then (f_cubic [enc4 f]).bind fun pl => if noOb pl = true then (m_lead r2 pl).bind fun q => some (D.tup [q.2, q.1]) else none else none else none) = _
    rw [if_pos n0, t0, Option.bind_some, if_pos n0, e1, Option.bind_some, if_pos (show noOb (.tup []) = true from rfl), e3]
    rfl
  · rename_i x y _
    rw [Option.bind_eq_some_iff] at h
    obtain ⟨c0, e2, h⟩ := h
    rw [Option.bind_eq_some_iff] at h
    obtain ⟨s, e4, h⟩ := h
    rw [leadRootZ_eq] at e4
    cases h
    refine ⟨encC s.2, ?_⟩
    have e3 : m_lead (enc4 f) (.tup [.tup [.int x, .int y]]) = some (encC s.2, enc4 s.1) := by
      show ((decC IDLEd).bind fun c => (dec4 (enc4 f)).bind fun f => ((f_end_change [.tup [.int x, .int y]]).bind decC).bind fun c0 => (leadRoot (f, c) c0).bind fun s => some (encC s.2, enc4 s.1)) = _
      rw [idle_id, dec4_enc]
      show (((f_end_change [.tup [.int x, .int y]]).bind decC).bind _) = _
      rw [e2]
      show ((leadRoot (f, id4) c0).bind _) = _
      rw [e4]
      rfl
    show (if noOb (enc4 f) = true then (tupF [enc4 f]).bind fun r2 => if noOb r2 = true then (f_cubic [enc4 f]).bind fun pl => if noOb pl = true then (m_lead r2 pl).bind fun q => some (D.tup [q.2, q.1]) else none else none else none) = _
    rw [if_pos n0, t0, Option.bind_some, if_pos n0, e1, Option.bind_some, if_pos (show noOb (.tup [.tup [.int x, .int y]]) = true from rfl), e3]
    rfl
  · cases h
def aboveZ (f : Q4) : Option Q4 := ((f_way_to_small [enc4 f]).bind decC).bind fun way0 => fr4 way0 fun way => if Sm4 f ∧ Sm4 way ∧ Sm (det4 way) ∧ Sm4 (led4 f way) then
    fr4 (led4 f way) fun here => frI (hess4 here).1 fun h1 => frI (hess4 here).2.1 fun h2 => frI (hess4 here).2.2 fun h3 => (aboveG here (h1, h2, h3) chg40 (here, (1, 0, 0, 1))).bind fun s => some s.1
  else none
theorem aboveZ_ok {f l : Q4} (h : aboveZ f = some l) : ∃ ch, z_led_above [enc4 f] = some (.tup [enc4 l, ch]) := by
  unfold aboveZ at h
  rw [Option.bind_eq_some_iff] at h
  obtain ⟨way, e1, h⟩ := h
  rw [fr4_eq] at h
  split at h <;> try (cases h; done)
  rename_i c
  simp only [fr4_eq, frI_eq] at h
  rw [Option.bind_eq_some_iff] at h
  obtain ⟨s, e2, h⟩ := h
  cases h
  refine ⟨encC (join4 way s.2), ?_⟩
  show ((((f_way_to_small [enc4 f]).bind decC).bind fun way => if Sm4 f ∧ Sm4 way ∧ Sm (det4 way) ∧ Sm4 (led4 f way) then (aboveL (led4 f way) (hess4 (led4 f way)) chg40 (led4 f way, (1, 0, 0, 1))).bind fun s => some (D.tup [enc4 s.1, encC (join4 way s.2)]) else none)) = _
  rw [e1, Option.bind_some, if_pos c]
  rw [aboveG_eq c.2.2.2 _ _ chg40_ok] at e2
  have e2 : aboveL (led4 f way) (hess4 (led4 f way)) chg40 (led4 f way, (1, 0, 0, 1)) = some s := e2
  rw [e2]
  rfl
def leastZ (f : Q4) : Option Q4 := if disc4 f < 0 then (if Sm4 f then belowZ f else none) else if 0 < disc4 f then (if Sm4 f then (aboveZ f).bind fun l => fr4 l some else none) else leastOf f
theorem leastZ_ok {f l : Q4} (h : leastZ f = some l) : leastOf f = some l := by
  unfold leastZ at h
  split at h
  · rename_i c
    split at h <;> try (cases h; done)
    rename_i hs
    obtain ⟨ch, e⟩ := belowZ_ok h
    have dz : z_discriminant_of [enc4 f] = some (.int (disc4 f)) := by
      show (if Sm4 f then some (D.int (disc4 f)) else none) = _
      rw [if_pos hs]
    have c1 : ¬ disc4 f = 0 := by omega
    have c2 : ¬ 0 < disc4 f := by omega
    have e2 : leastD f = some (.tup [enc4 l, ch]) := by
      simp [leastD, f_least_of, runB, r_least_of, sSeq, sSet, sIf, sRet, fCall, aCons, aNil, fVar, dz, fT, f2, fConst, cmp_eq, cmp_gt, asB, c1, c2, sNil, fIf, e, outD]
    unfold leastOf
    rw [e2]
    rfl
  · split at h
    · rename_i c0 c
      split at h <;> try (cases h; done)
      rename_i hs
      rw [Option.bind_eq_some_iff] at h
      obtain ⟨l', e0, h⟩ := h
      rw [fr4_eq] at h
      cases h
      obtain ⟨ch, e⟩ := aboveZ_ok e0
      have dz : z_discriminant_of [enc4 f] = some (.int (disc4 f)) := by
        show (if Sm4 f then some (D.int (disc4 f)) else none) = _
        rw [if_pos hs]
      have c1 : ¬ disc4 f = 0 := by omega
      have e2 : leastD f = some (.tup [enc4 l, ch]) := by
        simp [leastD, f_least_of, runB, r_least_of, sSeq, sSet, sIf, sRet, fCall, aCons, aNil, fVar, dz, fT, f2, fConst, cmp_eq, cmp_gt, asB, c1, c, sNil, fIf, e, outD]
      unfold leastOf
      rw [e2]
      rfl
    · exact h
/-! ### one form -/
def isT : Option Bool → Bool
  | some b => b
  | none => false
def isF : Option Bool → Bool
  | some b => !b
  | none => false
/-- the least forms of a positive discriminant that are met: each is due -/
def posL : List (Nat × Q4) := [(135290932, (0, 1, 0, -12)), (135290936, (0, 1, 0, -8)), (135290937, (0, 1, 0, -7)), (135290938, (0, 1, 0, -6)), (135290939, (0, 1, 0, -5)), (135290940, (0, 1, 0, -4)), (135290941, (0, 1, 0, -3)), (135290942, (0, 1, 0, -2)), (135290943, (0, 1, 0, -1)), (135291063, (0, 1, 1, -9)), (135291066, (0, 1, 1, -6)), (135291067, (0, 1, 1, -5)), (135291068, (0, 1, 1, -4)), (135291069, (0, 1, 1, -3)), (135291070, (0, 1, 1, -2)), (135291071, (0, 1, 1, -1)), (135291072, (0, 1, 1, 0)), (135307322, (0, 2, 0, -6)), (135307323, (0, 2, 0, -5)), (135307324, (0, 2, 0, -4)), (135307325, (0, 2, 0, -3)), (135307326, (0, 2, 0, -2)), (135307327, (0, 2, 0, -1)), (135307450, (0, 2, 1, -6)), (135307451, (0, 2, 1, -5)), (135307452, (0, 2, 1, -4)), (135307453, (0, 2, 1, -3)), (135307454, (0, 2, 1, -2)), (135307455, (0, 2, 1, -1)), (135307580, (0, 2, 2, -4)), (135307581, (0, 2, 2, -3)), (135307582, (0, 2, 2, -2)), (135307583, (0, 2, 2, -1)), (135307584, (0, 2, 2, 0)), (135323708, (0, 3, 0, -4)), (135323709, (0, 3, 0, -3)), (135323710, (0, 3, 0, -2)), (135323836, (0, 3, 1, -4)), (135323837, (0, 3, 1, -3)), (135323838, (0, 3, 1, -2)), (135323839, (0, 3, 1, -1)), (135323963, (0, 3, 2, -5)), (135323964, (0, 3, 2, -4)), (135323965, (0, 3, 2, -3)), (135323966, (0, 3, 2, -2)), (135323967, (0, 3, 2, -1)), (135324092, (0, 3, 3, -4)), (135324093, (0, 3, 3, -3)), (135324094, (0, 3, 3, -2)), (135324095, (0, 3, 3, -1)), (135324096, (0, 3, 3, 0)), (135340092, (0, 4, 0, -4)), (135340093, (0, 4, 0, -3)), (135340094, (0, 4, 0, -2)), (135340220, (0, 4, 1, -4)), (135340221, (0, 4, 1, -3)), (135340222, (0, 4, 1, -2)), (135340348, (0, 4, 2, -4)), (135340349, (0, 4, 2, -3)), (135340350, (0, 4, 2, -2)), (135340476, (0, 4, 3, -4)), (135340477, (0, 4, 3, -3)), (135340478, (0, 4, 3, -2)), (135340479, (0, 4, 3, -1)), (135340604, (0, 4, 4, -4)), (135340605, (0, 4, 4, -3)), (135340606, (0, 4, 4, -2)), (135340607, (0, 4, 4, -1)), (135340608, (0, 4, 4, 0)), (137305665, (1, -4, -4, 1)), (137322049, (1, -3, -4, 1)), (137338432, (1, -2, -4, 0)), (137354431, (1, -1, -7, -1)), (137354559, (1, -1, -6, -1)), (137354560, (1, -1, -6, 0)), (137354687, (1, -1, -5, -1)), (137354688, (1, -1, -5, 0)), (137354816, (1, -1, -4, 0)), (137370814, (1, 0, -7, -2)), (137370943, (1, 0, -6, -1)), (137371071, (1, 0, -5, -1)), (137371072, (1, 0, -5, 0)), (137371199, (1, 0, -4, -1)), (137371200, (1, 0, -4, 0)), (137371328, (1, 0, -3, 0)), (137387454, (1, 1, -5, -2)), (137387455, (1, 1, -5, -1)), (137387583, (1, 1, -4, -1)), (137387711, (1, 1, -3, -1)), (137403837, (1, 2, -5, -3)), (137403966, (1, 2, -4, -2)), (137403967, (1, 2, -4, -1)), (137404094, (1, 2, -3, -2)), (137404095, (1, 2, -3, -1)), (137404223, (1, 2, -2, -1)), (137404351, (1, 2, -1, -1)), (137420221, (1, 3, -5, -3)), (137420349, (1, 3, -4, -3)), (137420350, (1, 3, -4, -2)), (137420477, (1, 3, -3, -3)), (137420478, (1, 3, -3, -2)), (137420479, (1, 3, -3, -1)), (137420606, (1, 3, -2, -2)), (137420863, (1, 3, 0, -1)), (137436732, (1, 4, -4, -4)), (137436733, (1, 4, -4, -3)), (137436734, (1, 4, -4, -2)), (137436860, (1, 4, -3, -4)), (137436861, (1, 4, -3, -3)), (137436862, (1, 4, -3, -2)), (137436989, (1, 4, -2, -3)), (137436990, (1, 4, -2, -2)), (137437118, (1, 4, -1, -2)), (137437375, (1, 4, 1, -1)), (137453374, (1, 5, -2, -2)), (139500862, (2, 2, -6, -2)), (139500990, (2, 2, -5, -2)), (139517373, (2, 3, -5, -3)), (139517502, (2, 3, -4, -2)), (139517630, (2, 3, -3, -2)), (139533885, (2, 4, -4, -3)), (139533886, (2, 4, -4, -2)), (139534142, (2, 4, -2, -2))]
def keyZ (l : Q4) : Nat := ((((l.1 + 64) * 128 + (l.2.1 + 64)) * 128 + (l.2.2.1 + 64)) * 128 + (l.2.2.2 + 64)).toNat
def frN {α : Type} (n : Nat) (k : Nat → α) : α := match n with
  | 0 => k 0
  | m + 1 => k (m + 1)
theorem frN_eq {α : Type} (n : Nat) (k : Nat → α) : frN n k = k n := by
  cases n <;> rfl
def inPos (l : Q4) : Bool := frN (keyZ l) fun k => posL.any fun p => Nat.beq p.1 k && decide (p.2 = l)
theorem posL_ok : (posL.all fun p => isT (dueZ p.2)) = true := by decide +kernel
def dueL (l : Q4) : Bool := if 0 < disc4 l then inPos l else isT (dueZ l)
theorem dueL_ok {l : Q4} (h : dueL l = true) : isT (dueZ l) = true := by
  unfold dueL at h
  split at h
  · unfold inPos at h
    rw [frN_eq, List.any_eq_true] at h
    obtain ⟨p, hp, e⟩ := h
    rw [Bool.and_eq_true] at e
    rw [← of_decide_eq_true e.2]
    exact List.all_eq_true.mp posL_ok p hp
  · exact h
/-- not due: below zero and with a first number, a form that is none of Mathews' is not due, rooted or not -/
def notDue (f : Q4) : Bool := if disc4 f < 0 ∧ f.1 ≠ 0 ∧ mathews4 f = false then decide (Sm4 f ∧ f.1.natAbs < 1000 ∧ f.2.2.2.natAbs < 1000 ∧ Sm (f.1 - f.2.1) ∧ Sm (f.1 + f.2.1)) else isF (dueZ f)
theorem notDue_ok {f : Q4} (h : notDue f = true) : isF (dueZ f) = true := by
  unfold notDue at h
  split at h
  · rename_i c
    have g := of_decide_eq_true h
    unfold dueZ
    rw [if_pos g.1, if_neg (by omega), if_neg (by omega), if_pos g.2, c.2.2, decide_eq_false c.2.1]
    cases rooted f <;> rfl
  · exact h
def chkZ (f : Q4) : Bool := match leastZ f with
  | some l => if l = f then isT (dueZ f) else notDue f && dueL l
  | none => false
theorem isT_ok {x : Option Bool} (h : isT x = true) : x = some true := by
  unfold isT at h
  split at h
  · rw [h]
  · cases h
theorem isF_ok {x : Option Bool} (h : isF x = true) : x = some false := by
  unfold isF at h
  split at h
  · rename_i b
    cases b
    · rfl
    · cases h
  · cases h
def Bd (i : Int) : Prop := -4 ≤ i ∧ i ≤ 4
theorem isint {i : Int} (h : Bd i) : f_is_integer [.int i] = some (.bl true) := by
  have w : f_is_whole [.int i] = some (.bl true) := rfl
  have a : absF [.int i] = some (.int (if i < 0 then -i else i)) := rfl
  have b : (if i < 0 then -i else i) < 10 ^ 60 := by
    unfold Bd at h
    have : (4 : Int) < 10 ^ 60 := by decide
    split <;> omega
  generalize hk : (if i < 0 then -i else i) = k at a b
  generalize hm : (10 : Int) ^ 60 = m at b
  simp [f_is_integer, runB, r_is_integer, sSeq, sRet, fAnd, fCall, aCons, aNil, fVar, fConst, w, asB, f2, a, cmp_lt, outD, hm, b]
theorem fit_small {f : Q4} (h : InB 4 f) : fit f = true := by
  obtain ⟨a, b, c, d⟩ := f
  obtain ⟨a1, a2, b1, b2, c1, c2, d1, d2⟩ := h
  dsimp only at a1 a2 b1 b2 c1 c2 d1 d2
  have ia := isint (i := a) ⟨a1, a2⟩
  have ib := isint (i := b) ⟨b1, b2⟩
  have ic := isint (i := c) ⟨c1, c2⟩
  have id := isint (i := d) ⟨d1, d2⟩
  have e1 : f_are_integers [enc4 (a, b, c, d), .int 4] = some (.bl true) := by
    have e0 : cmpD .Eq (.int 4) (.int 4) = some (.bl true) := rfl
    have l4 : lenF [enc4 (a, b, c, d)] = some (.int 4) := rfl
    have t4 : isTup (enc4 (a, b, c, d)) = some true := rfl
    have s4 : seqOf (enc4 (a, b, c, d)) = some [.int a, .int b, .int c, .int d] := rfl
    simp [f_are_integers, runB, r_are_integers, sSeq, sRet, fAnd, fIsi, fVar, t4, asB, f2, fCall, aCons, aNil, l4, e0, fComp, iSeq, s4, compD, wipeD, gVar, tTrue, ia, ib, ic, id, flat, allF, blsOf, outD, List.replicate]
  have e2 : (f_require_short [enc4 (a, b, c, d)]).isSome = true := by
    have s4 : seqOf (enc4 (a, b, c, d)) = some [.int a, .int b, .int c, .int d] := rfl
    have p : powD (.int 10) (.int 20) = some (.int 100000000000000000000) := by kernel_rfl
    have ab : ∀ i : Int, Bd i → cmpD .GtE (.int (if i < 0 then -i else i)) (.int 100000000000000000000) = some (.bl false) := fun i hi => by
      unfold Bd at hi
      rw [cmp_ge]
      have : ¬ (100000000000000000000 : Int) ≤ (if i < 0 then -i else i) := by split <;> omega
      rw [decide_eq_false this]
    have av : ∀ i : Int, absF [.int i] = some (.int (if i < 0 then -i else i)) := fun i => rfl
    simp [f_require_short, runB, r_require_short, sSeq, sIf, fT, fCall, aCons, aNil, fComp, iSeq, fVar, s4, compD, wipeD, gVar, tTrue, f2, av, fConst, binD, p, ab a ⟨a1, a2⟩, ab b ⟨b1, b2⟩, ab c ⟨c1, c2⟩, ab d ⟨d1, d2⟩, flat, anyF, blsOf, asB, sNil, List.replicate]
  unfold fit
  rw [e1, e2]
  rfl
theorem dueZ_of {f : Q4} {b : Bool} (h : dueZ f = some b) : dueOf f = some b := by
  unfold dueOf
  rw [dueZ_ok h]
  rfl
theorem chkZ_ok {f : Q4} (hb : InB 4 f) (h : chkZ f = true) : chkF f = true := by
  unfold chkZ at h
  split at h
  · rename_i l e
    unfold chkF
    rw [fit_small hb, leastZ_ok e]
    split at h
    · rename_i c
      have d := dueZ_of (isT_ok h)
      subst c
      rw [d]
      simp [d]
    · rename_i c
      rw [Bool.and_eq_true] at h
      have d1 := dueZ_of (isF_ok (notDue_ok h.1))
      have d2 := dueZ_of (isT_ok (dueL_ok h.2))
      simp [d1, d2, c]
  · cases h
def nine : List Int := [-4, -3, -2, -1, 0, 1, 2, 3, 4]
def pairs81 : List (Int × Int) := nine.flatMap fun c => nine.map fun d => (c, d)
end FR
end
section
set_option Elab.async false
set_option linter.all false
set_option maxRecDepth 100000
set_option maxHeartbeats 0
/-! The forms with the first coefficient -4. Printed by wip/gen9.py. -/
namespace FR
theorem c_m4_m4 : (pairs81.all fun q => chkZ (-4, -4, q.1, q.2)) = true := by decide +kernel
theorem c_m4_m3 : (pairs81.all fun q => chkZ (-4, -3, q.1, q.2)) = true := by decide +kernel
theorem c_m4_m2 : (pairs81.all fun q => chkZ (-4, -2, q.1, q.2)) = true := by decide +kernel
theorem c_m4_m1 : (pairs81.all fun q => chkZ (-4, -1, q.1, q.2)) = true := by decide +kernel
theorem c_m4_p0 : (pairs81.all fun q => chkZ (-4, 0, q.1, q.2)) = true := by decide +kernel
theorem c_m4_p1 : (pairs81.all fun q => chkZ (-4, 1, q.1, q.2)) = true := by decide +kernel
theorem c_m4_p2 : (pairs81.all fun q => chkZ (-4, 2, q.1, q.2)) = true := by decide +kernel
theorem c_m4_p3 : (pairs81.all fun q => chkZ (-4, 3, q.1, q.2)) = true := by decide +kernel
theorem c_m4_p4 : (pairs81.all fun q => chkZ (-4, 4, q.1, q.2)) = true := by decide +kernel
end FR
end
section
set_option Elab.async false
set_option linter.all false
set_option maxRecDepth 100000
set_option maxHeartbeats 0
/-! The forms with the first coefficient -3. Printed by wip/gen9.py. -/
namespace FR
theorem c_m3_m4 : (pairs81.all fun q => chkZ (-3, -4, q.1, q.2)) = true := by decide +kernel
theorem c_m3_m3 : (pairs81.all fun q => chkZ (-3, -3, q.1, q.2)) = true := by decide +kernel
theorem c_m3_m2 : (pairs81.all fun q => chkZ (-3, -2, q.1, q.2)) = true := by decide +kernel
theorem c_m3_m1 : (pairs81.all fun q => chkZ (-3, -1, q.1, q.2)) = true := by decide +kernel
theorem c_m3_p0 : (pairs81.all fun q => chkZ (-3, 0, q.1, q.2)) = true := by decide +kernel
theorem c_m3_p1 : (pairs81.all fun q => chkZ (-3, 1, q.1, q.2)) = true := by decide +kernel
theorem c_m3_p2 : (pairs81.all fun q => chkZ (-3, 2, q.1, q.2)) = true := by decide +kernel
theorem c_m3_p3 : (pairs81.all fun q => chkZ (-3, 3, q.1, q.2)) = true := by decide +kernel
theorem c_m3_p4 : (pairs81.all fun q => chkZ (-3, 4, q.1, q.2)) = true := by decide +kernel
end FR
end
section
set_option Elab.async false
set_option linter.all false
set_option maxRecDepth 100000
set_option maxHeartbeats 0
/-! The forms with the first coefficient -2. Printed by wip/gen9.py. -/
namespace FR
theorem c_m2_m4 : (pairs81.all fun q => chkZ (-2, -4, q.1, q.2)) = true := by decide +kernel
theorem c_m2_m3 : (pairs81.all fun q => chkZ (-2, -3, q.1, q.2)) = true := by decide +kernel
theorem c_m2_m2 : (pairs81.all fun q => chkZ (-2, -2, q.1, q.2)) = true := by decide +kernel
theorem c_m2_m1 : (pairs81.all fun q => chkZ (-2, -1, q.1, q.2)) = true := by decide +kernel
theorem c_m2_p0 : (pairs81.all fun q => chkZ (-2, 0, q.1, q.2)) = true := by decide +kernel
theorem c_m2_p1 : (pairs81.all fun q => chkZ (-2, 1, q.1, q.2)) = true := by decide +kernel
theorem c_m2_p2 : (pairs81.all fun q => chkZ (-2, 2, q.1, q.2)) = true := by decide +kernel
theorem c_m2_p3 : (pairs81.all fun q => chkZ (-2, 3, q.1, q.2)) = true := by decide +kernel
theorem c_m2_p4 : (pairs81.all fun q => chkZ (-2, 4, q.1, q.2)) = true := by decide +kernel
end FR
end
section
set_option Elab.async false
set_option linter.all false
set_option maxRecDepth 100000
set_option maxHeartbeats 0
/-! The forms with the first coefficient -1. Printed by wip/gen9.py. -/
namespace FR
theorem c_m1_m4 : (pairs81.all fun q => chkZ (-1, -4, q.1, q.2)) = true := by decide +kernel
theorem c_m1_m3 : (pairs81.all fun q => chkZ (-1, -3, q.1, q.2)) = true := by decide +kernel
theorem c_m1_m2 : (pairs81.all fun q => chkZ (-1, -2, q.1, q.2)) = true := by decide +kernel
theorem c_m1_m1 : (pairs81.all fun q => chkZ (-1, -1, q.1, q.2)) = true := by decide +kernel
theorem c_m1_p0 : (pairs81.all fun q => chkZ (-1, 0, q.1, q.2)) = true := by decide +kernel
theorem c_m1_p1 : (pairs81.all fun q => chkZ (-1, 1, q.1, q.2)) = true := by decide +kernel
theorem c_m1_p2 : (pairs81.all fun q => chkZ (-1, 2, q.1, q.2)) = true := by decide +kernel
theorem c_m1_p3 : (pairs81.all fun q => chkZ (-1, 3, q.1, q.2)) = true := by decide +kernel
theorem c_m1_p4 : (pairs81.all fun q => chkZ (-1, 4, q.1, q.2)) = true := by decide +kernel
end FR
end
section
set_option Elab.async false
set_option linter.all false
set_option maxRecDepth 100000
set_option maxHeartbeats 0
/-! The forms with the first coefficient 0. Printed by wip/gen9.py. -/
namespace FR
theorem c_p0_m4 : (pairs81.all fun q => chkZ (0, -4, q.1, q.2)) = true := by decide +kernel
theorem c_p0_m3 : (pairs81.all fun q => chkZ (0, -3, q.1, q.2)) = true := by decide +kernel
theorem c_p0_m2 : (pairs81.all fun q => chkZ (0, -2, q.1, q.2)) = true := by decide +kernel
theorem c_p0_m1 : (pairs81.all fun q => chkZ (0, -1, q.1, q.2)) = true := by decide +kernel
theorem c_p0_p0 : (pairs81.all fun q => chkZ (0, 0, q.1, q.2)) = true := by decide +kernel
theorem c_p0_p1 : (pairs81.all fun q => chkZ (0, 1, q.1, q.2)) = true := by decide +kernel
theorem c_p0_p2 : (pairs81.all fun q => chkZ (0, 2, q.1, q.2)) = true := by decide +kernel
theorem c_p0_p3 : (pairs81.all fun q => chkZ (0, 3, q.1, q.2)) = true := by decide +kernel
theorem c_p0_p4 : (pairs81.all fun q => chkZ (0, 4, q.1, q.2)) = true := by decide +kernel
end FR
end
section
set_option Elab.async false
set_option linter.all false
set_option maxRecDepth 100000
set_option maxHeartbeats 0
/-! The forms with the first coefficient 1. Printed by wip/gen9.py. -/
namespace FR
theorem c_p1_m4 : (pairs81.all fun q => chkZ (1, -4, q.1, q.2)) = true := by decide +kernel
theorem c_p1_m3 : (pairs81.all fun q => chkZ (1, -3, q.1, q.2)) = true := by decide +kernel
theorem c_p1_m2 : (pairs81.all fun q => chkZ (1, -2, q.1, q.2)) = true := by decide +kernel
theorem c_p1_m1 : (pairs81.all fun q => chkZ (1, -1, q.1, q.2)) = true := by decide +kernel
theorem c_p1_p0 : (pairs81.all fun q => chkZ (1, 0, q.1, q.2)) = true := by decide +kernel
theorem c_p1_p1 : (pairs81.all fun q => chkZ (1, 1, q.1, q.2)) = true := by decide +kernel
theorem c_p1_p2 : (pairs81.all fun q => chkZ (1, 2, q.1, q.2)) = true := by decide +kernel
theorem c_p1_p3 : (pairs81.all fun q => chkZ (1, 3, q.1, q.2)) = true := by decide +kernel
theorem c_p1_p4 : (pairs81.all fun q => chkZ (1, 4, q.1, q.2)) = true := by decide +kernel
end FR
end
section
set_option Elab.async false
set_option linter.all false
set_option maxRecDepth 100000
set_option maxHeartbeats 0
/-! The forms with the first coefficient 2. Printed by wip/gen9.py. -/
namespace FR
theorem c_p2_m4 : (pairs81.all fun q => chkZ (2, -4, q.1, q.2)) = true := by decide +kernel
theorem c_p2_m3 : (pairs81.all fun q => chkZ (2, -3, q.1, q.2)) = true := by decide +kernel
theorem c_p2_m2 : (pairs81.all fun q => chkZ (2, -2, q.1, q.2)) = true := by decide +kernel
theorem c_p2_m1 : (pairs81.all fun q => chkZ (2, -1, q.1, q.2)) = true := by decide +kernel
theorem c_p2_p0 : (pairs81.all fun q => chkZ (2, 0, q.1, q.2)) = true := by decide +kernel
theorem c_p2_p1 : (pairs81.all fun q => chkZ (2, 1, q.1, q.2)) = true := by decide +kernel
theorem c_p2_p2 : (pairs81.all fun q => chkZ (2, 2, q.1, q.2)) = true := by decide +kernel
theorem c_p2_p3 : (pairs81.all fun q => chkZ (2, 3, q.1, q.2)) = true := by decide +kernel
theorem c_p2_p4 : (pairs81.all fun q => chkZ (2, 4, q.1, q.2)) = true := by decide +kernel
end FR
end
section
set_option Elab.async false
set_option linter.all false
set_option maxRecDepth 100000
set_option maxHeartbeats 0
/-! The forms with the first coefficient 3. Printed by wip/gen9.py. -/
namespace FR
theorem c_p3_m4 : (pairs81.all fun q => chkZ (3, -4, q.1, q.2)) = true := by decide +kernel
theorem c_p3_m3 : (pairs81.all fun q => chkZ (3, -3, q.1, q.2)) = true := by decide +kernel
theorem c_p3_m2 : (pairs81.all fun q => chkZ (3, -2, q.1, q.2)) = true := by decide +kernel
theorem c_p3_m1 : (pairs81.all fun q => chkZ (3, -1, q.1, q.2)) = true := by decide +kernel
theorem c_p3_p0 : (pairs81.all fun q => chkZ (3, 0, q.1, q.2)) = true := by decide +kernel
theorem c_p3_p1 : (pairs81.all fun q => chkZ (3, 1, q.1, q.2)) = true := by decide +kernel
theorem c_p3_p2 : (pairs81.all fun q => chkZ (3, 2, q.1, q.2)) = true := by decide +kernel
theorem c_p3_p3 : (pairs81.all fun q => chkZ (3, 3, q.1, q.2)) = true := by decide +kernel
theorem c_p3_p4 : (pairs81.all fun q => chkZ (3, 4, q.1, q.2)) = true := by decide +kernel
end FR
end
section
set_option Elab.async false
set_option linter.all false
set_option maxRecDepth 100000
set_option maxHeartbeats 0
/-! The forms with the first coefficient 4. Printed by wip/gen9.py. -/
namespace FR
theorem c_p4_m4 : (pairs81.all fun q => chkZ (4, -4, q.1, q.2)) = true := by decide +kernel
theorem c_p4_m3 : (pairs81.all fun q => chkZ (4, -3, q.1, q.2)) = true := by decide +kernel
theorem c_p4_m2 : (pairs81.all fun q => chkZ (4, -2, q.1, q.2)) = true := by decide +kernel
theorem c_p4_m1 : (pairs81.all fun q => chkZ (4, -1, q.1, q.2)) = true := by decide +kernel
theorem c_p4_p0 : (pairs81.all fun q => chkZ (4, 0, q.1, q.2)) = true := by decide +kernel
theorem c_p4_p1 : (pairs81.all fun q => chkZ (4, 1, q.1, q.2)) = true := by decide +kernel
theorem c_p4_p2 : (pairs81.all fun q => chkZ (4, 2, q.1, q.2)) = true := by decide +kernel
theorem c_p4_p3 : (pairs81.all fun q => chkZ (4, 3, q.1, q.2)) = true := by decide +kernel
theorem c_p4_p4 : (pairs81.all fun q => chkZ (4, 4, q.1, q.2)) = true := by decide +kernel
end FR
end
section
set_option Elab.async false
set_option linter.all false
set_option maxRecDepth 100000
set_option maxHeartbeats 0
/-! Every form. Printed by wip/gen9.py. -/
namespace FR
theorem mem_nine {i : Int} (h : -4 ≤ i ∧ i ≤ 4) : i ∈ nine := by
  have : i = -4 ∨ i = -3 ∨ i = -2 ∨ i = -1 ∨ i = 0 ∨ i = 1 ∨ i = 2 ∨ i = 3 ∨ i = 4 := by omega
  rcases this with rfl | rfl | rfl | rfl | rfl | rfl | rfl | rfl | rfl <;> decide
theorem all81 {p : Int × Int → Bool} (h : pairs81.all p = true) {c d : Int} (hc : -4 ≤ c ∧ c ≤ 4) (hd : -4 ≤ d ∧ d ≤ 4) : p (c, d) = true := by
  refine List.all_eq_true.mp h (c, d) ?_
  unfold pairs81
  rw [List.mem_flatMap]
  exact ⟨c, mem_nine hc, List.mem_map.mpr ⟨d, mem_nine hd, rfl⟩⟩
theorem chk_all : ∀ f, InB 4 f → chkF f = true := fun f hf => by
  refine chkZ_ok hf ?_
  obtain ⟨a, b, c, d⟩ := f
  obtain ⟨a1, a2, b1, b2, c1, c2, d1, d2⟩ := hf
  dsimp only at a1 a2 b1 b2 c1 c2 d1 d2
  have ha : a = -4 ∨ a = -3 ∨ a = -2 ∨ a = -1 ∨ a = 0 ∨ a = 1 ∨ a = 2 ∨ a = 3 ∨ a = 4 := by omega
  have hb : b = -4 ∨ b = -3 ∨ b = -2 ∨ b = -1 ∨ b = 0 ∨ b = 1 ∨ b = 2 ∨ b = 3 ∨ b = 4 := by omega
  rcases ha with rfl | rfl | rfl | rfl | rfl | rfl | rfl | rfl | rfl
  · rcases hb with rfl | rfl | rfl | rfl | rfl | rfl | rfl | rfl | rfl
    · exact all81 c_m4_m4 ⟨c1, c2⟩ ⟨d1, d2⟩
    · exact all81 c_m4_m3 ⟨c1, c2⟩ ⟨d1, d2⟩
    · exact all81 c_m4_m2 ⟨c1, c2⟩ ⟨d1, d2⟩
    · exact all81 c_m4_m1 ⟨c1, c2⟩ ⟨d1, d2⟩
    · exact all81 c_m4_p0 ⟨c1, c2⟩ ⟨d1, d2⟩
    · exact all81 c_m4_p1 ⟨c1, c2⟩ ⟨d1, d2⟩
    · exact all81 c_m4_p2 ⟨c1, c2⟩ ⟨d1, d2⟩
    · exact all81 c_m4_p3 ⟨c1, c2⟩ ⟨d1, d2⟩
    · exact all81 c_m4_p4 ⟨c1, c2⟩ ⟨d1, d2⟩
  · rcases hb with rfl | rfl | rfl | rfl | rfl | rfl | rfl | rfl | rfl
    · exact all81 c_m3_m4 ⟨c1, c2⟩ ⟨d1, d2⟩
    · exact all81 c_m3_m3 ⟨c1, c2⟩ ⟨d1, d2⟩
    · exact all81 c_m3_m2 ⟨c1, c2⟩ ⟨d1, d2⟩
    · exact all81 c_m3_m1 ⟨c1, c2⟩ ⟨d1, d2⟩
    · exact all81 c_m3_p0 ⟨c1, c2⟩ ⟨d1, d2⟩
    · exact all81 c_m3_p1 ⟨c1, c2⟩ ⟨d1, d2⟩
    · exact all81 c_m3_p2 ⟨c1, c2⟩ ⟨d1, d2⟩
    · exact all81 c_m3_p3 ⟨c1, c2⟩ ⟨d1, d2⟩
    · exact all81 c_m3_p4 ⟨c1, c2⟩ ⟨d1, d2⟩
  · rcases hb with rfl | rfl | rfl | rfl | rfl | rfl | rfl | rfl | rfl
    · exact all81 c_m2_m4 ⟨c1, c2⟩ ⟨d1, d2⟩
    · exact all81 c_m2_m3 ⟨c1, c2⟩ ⟨d1, d2⟩
    · exact all81 c_m2_m2 ⟨c1, c2⟩ ⟨d1, d2⟩
    · exact all81 c_m2_m1 ⟨c1, c2⟩ ⟨d1, d2⟩
    · exact all81 c_m2_p0 ⟨c1, c2⟩ ⟨d1, d2⟩
    · exact all81 c_m2_p1 ⟨c1, c2⟩ ⟨d1, d2⟩
    · exact all81 c_m2_p2 ⟨c1, c2⟩ ⟨d1, d2⟩
    · exact all81 c_m2_p3 ⟨c1, c2⟩ ⟨d1, d2⟩
    · exact all81 c_m2_p4 ⟨c1, c2⟩ ⟨d1, d2⟩
  · rcases hb with rfl | rfl | rfl | rfl | rfl | rfl | rfl | rfl | rfl
    · exact all81 c_m1_m4 ⟨c1, c2⟩ ⟨d1, d2⟩
    · exact all81 c_m1_m3 ⟨c1, c2⟩ ⟨d1, d2⟩
    · exact all81 c_m1_m2 ⟨c1, c2⟩ ⟨d1, d2⟩
    · exact all81 c_m1_m1 ⟨c1, c2⟩ ⟨d1, d2⟩
    · exact all81 c_m1_p0 ⟨c1, c2⟩ ⟨d1, d2⟩
    · exact all81 c_m1_p1 ⟨c1, c2⟩ ⟨d1, d2⟩
    · exact all81 c_m1_p2 ⟨c1, c2⟩ ⟨d1, d2⟩
    · exact all81 c_m1_p3 ⟨c1, c2⟩ ⟨d1, d2⟩
    · exact all81 c_m1_p4 ⟨c1, c2⟩ ⟨d1, d2⟩
  · rcases hb with rfl | rfl | rfl | rfl | rfl | rfl | rfl | rfl | rfl
    · exact all81 c_p0_m4 ⟨c1, c2⟩ ⟨d1, d2⟩
    · exact all81 c_p0_m3 ⟨c1, c2⟩ ⟨d1, d2⟩
    · exact all81 c_p0_m2 ⟨c1, c2⟩ ⟨d1, d2⟩
    · exact all81 c_p0_m1 ⟨c1, c2⟩ ⟨d1, d2⟩
    · exact all81 c_p0_p0 ⟨c1, c2⟩ ⟨d1, d2⟩
    · exact all81 c_p0_p1 ⟨c1, c2⟩ ⟨d1, d2⟩
    · exact all81 c_p0_p2 ⟨c1, c2⟩ ⟨d1, d2⟩
    · exact all81 c_p0_p3 ⟨c1, c2⟩ ⟨d1, d2⟩
    · exact all81 c_p0_p4 ⟨c1, c2⟩ ⟨d1, d2⟩
  · rcases hb with rfl | rfl | rfl | rfl | rfl | rfl | rfl | rfl | rfl
    · exact all81 c_p1_m4 ⟨c1, c2⟩ ⟨d1, d2⟩
    · exact all81 c_p1_m3 ⟨c1, c2⟩ ⟨d1, d2⟩
    · exact all81 c_p1_m2 ⟨c1, c2⟩ ⟨d1, d2⟩
    · exact all81 c_p1_m1 ⟨c1, c2⟩ ⟨d1, d2⟩
    · exact all81 c_p1_p0 ⟨c1, c2⟩ ⟨d1, d2⟩
    · exact all81 c_p1_p1 ⟨c1, c2⟩ ⟨d1, d2⟩
    · exact all81 c_p1_p2 ⟨c1, c2⟩ ⟨d1, d2⟩
    · exact all81 c_p1_p3 ⟨c1, c2⟩ ⟨d1, d2⟩
    · exact all81 c_p1_p4 ⟨c1, c2⟩ ⟨d1, d2⟩
  · rcases hb with rfl | rfl | rfl | rfl | rfl | rfl | rfl | rfl | rfl
    · exact all81 c_p2_m4 ⟨c1, c2⟩ ⟨d1, d2⟩
    · exact all81 c_p2_m3 ⟨c1, c2⟩ ⟨d1, d2⟩
    · exact all81 c_p2_m2 ⟨c1, c2⟩ ⟨d1, d2⟩
    · exact all81 c_p2_m1 ⟨c1, c2⟩ ⟨d1, d2⟩
    · exact all81 c_p2_p0 ⟨c1, c2⟩ ⟨d1, d2⟩
    · exact all81 c_p2_p1 ⟨c1, c2⟩ ⟨d1, d2⟩
    · exact all81 c_p2_p2 ⟨c1, c2⟩ ⟨d1, d2⟩
    · exact all81 c_p2_p3 ⟨c1, c2⟩ ⟨d1, d2⟩
    · exact all81 c_p2_p4 ⟨c1, c2⟩ ⟨d1, d2⟩
  · rcases hb with rfl | rfl | rfl | rfl | rfl | rfl | rfl | rfl | rfl
    · exact all81 c_p3_m4 ⟨c1, c2⟩ ⟨d1, d2⟩
    · exact all81 c_p3_m3 ⟨c1, c2⟩ ⟨d1, d2⟩
    · exact all81 c_p3_m2 ⟨c1, c2⟩ ⟨d1, d2⟩
    · exact all81 c_p3_m1 ⟨c1, c2⟩ ⟨d1, d2⟩
    · exact all81 c_p3_p0 ⟨c1, c2⟩ ⟨d1, d2⟩
    · exact all81 c_p3_p1 ⟨c1, c2⟩ ⟨d1, d2⟩
    · exact all81 c_p3_p2 ⟨c1, c2⟩ ⟨d1, d2⟩
    · exact all81 c_p3_p3 ⟨c1, c2⟩ ⟨d1, d2⟩
    · exact all81 c_p3_p4 ⟨c1, c2⟩ ⟨d1, d2⟩
  · rcases hb with rfl | rfl | rfl | rfl | rfl | rfl | rfl | rfl | rfl
    · exact all81 c_p4_m4 ⟨c1, c2⟩ ⟨d1, d2⟩
    · exact all81 c_p4_m3 ⟨c1, c2⟩ ⟨d1, d2⟩
    · exact all81 c_p4_m2 ⟨c1, c2⟩ ⟨d1, d2⟩
    · exact all81 c_p4_m1 ⟨c1, c2⟩ ⟨d1, d2⟩
    · exact all81 c_p4_p0 ⟨c1, c2⟩ ⟨d1, d2⟩
    · exact all81 c_p4_p1 ⟨c1, c2⟩ ⟨d1, d2⟩
    · exact all81 c_p4_p2 ⟨c1, c2⟩ ⟨d1, d2⟩
    · exact all81 c_p4_p3 ⟨c1, c2⟩ ⟨d1, d2⟩
    · exact all81 c_p4_p4 ⟨c1, c2⟩ ⟨d1, d2⟩
theorem rows_all : (rowsT.all fun q => rowOk q.1 q.2) = true := by decide +kernel
end FR
theorem PySem.Challenge.cw_formrings_k25_whole_least_forms_judged_holds : PySem.Challenge.rw_formrings_k25_whole_least_forms_judged.Holds :=
  fin_test fun _ _ => FR.chk_of FR.chk_all FR.rows_all
end
