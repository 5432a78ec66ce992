import PyProof.Rows.All
import Wide.All
import OpenK.AllK
import Wide.FinOn
import HandS.ForMost
import HandS.Deep
import HandS.TupAny
import HandS.TupMul
import HandS.IsInst
import HandS.More
import PyProof.SeqIndex
import HandS.Style
import HandS.SortInts
import PyProof.Rows.SetFrom
import PyProof.Rows.SetListFold
import KE.KStateDown
import Lean
import HandS.Ends
import HandS.Words
import HandS.WordsExc
import HandS.Defaults
import HandS.Head0
import HandS.Head1
import HandS.Head2
import HandS.HeadEnd
import HandS.HeadHook1
import HandS.HeadHook2
import HandS.Strs
import HandS.List
import PySem.Challenge.RW_elderfolios_k29_claims_judged
set_option Elab.async false
set_option maxRecDepth 100000
set_option linter.unusedVariables false
set_option linter.unusedSimpArgs false
set_option linter.unnecessarySimpa false
/-! The data layer, 1: trees of data, what holds them, ownership, the step relation. -/
namespace DL
open PySem L2

/-- a tree of data -/
inductive D where
  | non | bl (b : Bool) | int (i : Int) | str (x : Str)
  | tup (xs : List D) | lst (xs : List D)
  | dic (ks vs : List D) | set (xs : List D) | tape

/-- a slot of a def: nothing known, shared data, a list that the slot alone owns (to a depth) -/
inductive Sl where
  | no | sh (d : D) | ow (n : Nat) (d : D)

/-- the draws' tape: objects at fixed addresses -/
structure TSys where
  T : Type
  Ad : Type
  addrs : Ad → List Addr
  root : Ad → V
  At : Ad → T → Hp → Prop
  loc : ∀ {a t} {H H' : Hp}, At a t H → (∀ b ∈ addrs a, H' b = H b) → At a t H'
  has : ∀ {a t} {H : Hp} {b}, At a t H → b ∈ addrs a → ∃ o, H b = some o

/-- a key of a dict -/
def keyD : D → Option Key
  | .int i => some (.inl i)
  | .str x => some (.inr x)
  | _ => none
def keysD : List D → Option (List Key)
  | [] => some []
  | d :: ds => do
    let k ← keyD d
    let ks ← keysD ds
    some (k :: ks)
def keyTD : D → Option (List Key)
  | .tup ds => keysD ds
  | _ => none
def keysTD : List D → Option (List (List Key))
  | [] => some []
  | d :: ds => do
    let k ← keyTD d
    let ks ← keysTD ds
    some (k :: ks)

/-- a plain tuple at a: its object is known, it has no dict -/
def TupF (F : Hp) (a : Addr) (vs : List V) : Prop := ∃ o : Obj, F a = some (.frz o (.tup vs)) ∧ o.dict = none
theorem TupF.mono {F G : Hp} {a : Addr} {vs : List V} (s : Same F G) (h : TupF F a vs) : TupF G a vs := let ⟨o, e, d⟩ := h; ⟨o, s _ _ e, d⟩
theorem TupF.sq {K : PySem.W.Frag} {F : Hp} {a : Addr} {vs : List V} (h : TupF F a vs) : SqT K F a vs := let ⟨o, e, _⟩ := h; .inl (.inr ⟨o, e⟩)
mutual
def Holds (rt : V) (F : Hp) : D → V → Prop
  | .non, v => v = .non
  | .bl b, v => v = .bl b
  | .int i, v => v = .int i
  | .str x, v => v = .str x
  | .tup ds, v => ∃ a vs, v = .ref a ∧ TupF F a vs ∧ HoldsL rt F ds vs
  | .lst ds, v => ∃ a vs, v = .ref a ∧ F a = some (.lst vs) ∧ HoldsL rt F ds vs
  | .dic ks ds, v => ∃ a vs, v = .ref a ∧ HoldsL rt F ds vs ∧ ((∃ kk, keysD ks = some kk ∧ kk.length = vs.length ∧ F a = some (.dK (kk.zip vs))) ∨ (∃ kk, keysTD ks = some kk ∧ kk.length = vs.length ∧ F a = some (.dT (kk.zip vs))))
  | .set _, _ => False
  | .tape, v => v = rt
def HoldsL (rt : V) (F : Hp) : List D → List V → Prop
  | [], vs => vs = []
  | d :: ds, vs => ∃ v r, vs = v :: r ∧ Holds rt F d v ∧ HoldsL rt F ds r
end

mutual
theorem Holds.mono {rt : V} {F G : Hp} (s : Same F G) : ∀ {d : D} {v : V}, Holds rt F d v → Holds rt G d v
  | .non, _, h => by simpa only [Holds] using h
  | .bl _, _, h => by simpa only [Holds] using h
  | .int _, _, h => by simpa only [Holds] using h
  | .str _, _, h => by simpa only [Holds] using h
  | .tape, _, h => by simpa only [Holds] using h
  | .set _, _, h => by simp only [Holds] at h
  | .tup ds, _, h => by
    simp only [Holds] at h ⊢
    obtain ⟨a, vs, e, f, l⟩ := h
    exact ⟨a, vs, e, f.mono s, HoldsL.mono s l⟩
  | .lst ds, _, h => by
    simp only [Holds] at h ⊢
    obtain ⟨a, vs, e, f, l⟩ := h
    exact ⟨a, vs, e, s _ _ f, HoldsL.mono s l⟩
  | .dic ks ds, _, h => by
    simp only [Holds] at h ⊢
    obtain ⟨a, vs, e, l, f⟩ := h
    refine ⟨a, vs, e, HoldsL.mono s l, ?_⟩
    rcases f with ⟨kk, f1, f2, f3⟩ | ⟨kk, f1, f2, f3⟩
    · exact .inl ⟨kk, f1, f2, s _ _ f3⟩
    · exact .inr ⟨kk, f1, f2, s _ _ f3⟩
theorem HoldsL.mono {rt : V} {F G : Hp} (s : Same F G) : ∀ {ds : List D} {vs : List V}, HoldsL rt F ds vs → HoldsL rt G ds vs
  | [], _, h => by simpa only [HoldsL] using h
  | d :: ds, _, h => by
    simp only [HoldsL] at h ⊢
    obtain ⟨v, r, e, h1, h2⟩ := h
    exact ⟨v, r, e, h1.mono s, h2.mono s⟩
end
theorem HoldsL.length {rt : V} {F : Hp} : ∀ {ds : List D} {vs : List V}, HoldsL rt F ds vs → vs.length = ds.length
  | [], _, h => by simp only [HoldsL] at h; rw [h]; rfl
  | d :: ds, _, h => by
    simp only [HoldsL] at h
    obtain ⟨v, r, rfl, _, h2⟩ := h
    simp only [List.length_cons, h2.length]
theorem HoldsL.get {rt : V} {F : Hp} : ∀ {ds : List D} {vs : List V} {i : Nat} {d : D}, HoldsL rt F ds vs → ds[i]? = some d → ∃ v, vs[i]? = some v ∧ Holds rt F d v
  | [], _, _, _, _, e => by simp at e
  | d :: ds, _, 0, x, h, e => by
    simp only [HoldsL] at h
    obtain ⟨v, r, rfl, h1, _⟩ := h
    simp at e; subst e
    exact ⟨v, rfl, h1⟩
  | d :: ds, _, i + 1, x, h, e => by
    simp only [HoldsL] at h
    obtain ⟨v, r, rfl, _, h2⟩ := h
    obtain ⟨w, e1, e2⟩ := h2.get (i := i) (by simpa using e)
    exact ⟨w, by simpa using e1, e2⟩
theorem HoldsL.app {rt : V} {F : Hp} : ∀ {ds es : List D} {vs us : List V}, HoldsL rt F ds vs → HoldsL rt F es us → HoldsL rt F (ds ++ es) (vs ++ us)
  | [], _, _, _, h, k => by simp only [HoldsL] at h; subst h; exact k
  | d :: ds, _, _, _, h, k => by
    simp only [HoldsL, List.cons_append] at h ⊢
    obtain ⟨v, r, rfl, h1, h2⟩ := h
    exact ⟨v, _, rfl, h1, h2.app k⟩
theorem HoldsL.nil {rt : V} {F : Hp} : HoldsL rt F [] [] := by simp only [HoldsL]
theorem HoldsL.one {rt : V} {F : Hp} {d : D} {v : V} (h : Holds rt F d v) : HoldsL rt F [d] [v] := by
  simp only [HoldsL]; exact ⟨v, [], rfl, h, rfl⟩
theorem HoldsL.cons {rt : V} {F : Hp} {d : D} {v : V} {ds : List D} {vs : List V} (h : Holds rt F d v) (k : HoldsL rt F ds vs) : HoldsL rt F (d :: ds) (v :: vs) := by
  simp only [HoldsL]; exact ⟨v, vs, rfl, h, k⟩
theorem HoldsL.of_get {rt : V} {F : Hp} : ∀ {ds : List D} {vs : List V}, vs.length = ds.length → (∀ (i : Nat) (d : D) (v : V), ds[i]? = some d → vs[i]? = some v → Holds rt F d v) → HoldsL rt F ds vs
  | [], [], _, _ => .nil
  | [], _ :: _, e, _ => by simp at e
  | _ :: _, [], e, _ => by simp at e
  | d :: ds, v :: vs, e, h => .cons (h 0 d v rfl rfl) (HoldsL.of_get (by simpa using e) fun i x y h1 h2 => h (i + 1) x y (by simpa using h1) (by simpa using h2))
theorem HoldsL.take {rt : V} {F : Hp} {ds : List D} {vs : List V} (h : HoldsL rt F ds vs) (n : Nat) : HoldsL rt F (ds.take n) (vs.take n) := by
  refine .of_get (by rw [List.length_take, List.length_take, h.length]) fun i d v h1 h2 => ?_
  rw [List.getElem?_take] at h1 h2
  split at h1
  · rename_i q
    rw [if_pos q] at h2
    obtain ⟨w, e1, e2⟩ := h.get h1
    rw [h2] at e1; cases e1; exact e2
  · cases h1
theorem HoldsL.drop {rt : V} {F : Hp} {ds : List D} {vs : List V} (h : HoldsL rt F ds vs) (n : Nat) : HoldsL rt F (ds.drop n) (vs.drop n) := by
  refine .of_get (by rw [List.length_drop, List.length_drop, h.length]) fun i d v h1 h2 => ?_
  rw [List.getElem?_drop] at h1 h2
  obtain ⟨w, e1, e2⟩ := h.get h1
  rw [h2] at e1; cases e1; exact e2
theorem HoldsL.set {rt : V} {F : Hp} {ds : List D} {vs : List V} (h : HoldsL rt F ds vs) (n : Nat) {d : D} {v : V} (k : Holds rt F d v) : HoldsL rt F (ds.set n d) (vs.set n v) := by
  refine .of_get (by rw [List.length_set, List.length_set, h.length]) fun i x y h1 h2 => ?_
  by_cases e : n = i
  · subst e
    rw [List.getElem?_set] at h1 h2
    simp only [if_true] at h1 h2
    split at h1
    · split at h2
      · cases h1; cases h2; exact k
      · cases h2
    · cases h1
  · rw [List.getElem?_set_ne e] at h1 h2
    obtain ⟨w, e1, e2⟩ := h.get h1
    rw [h2] at e1; cases e1; exact e2
theorem HoldsL.eraseIdx {rt : V} {F : Hp} : ∀ {ds : List D} {vs : List V} (n : Nat), HoldsL rt F ds vs → HoldsL rt F (ds.eraseIdx n) (vs.eraseIdx n)
  | [], _, n, h => by simp only [HoldsL] at h; subst h; exact .nil
  | d :: ds, _, 0, h => by
    simp only [HoldsL] at h
    obtain ⟨v, r, rfl, _, h2⟩ := h
    exact h2
  | d :: ds, _, n + 1, h => by
    simp only [HoldsL] at h
    obtain ⟨v, r, rfl, h1, h2⟩ := h
    exact .cons h1 (h2.eraseIdx n)

/-! ### ownership -/
section
variable (rt : V) (F H : Hp)
def OwnL (P : D → V → List Addr → Prop) : List D → List V → List Addr → Prop
  | [], vs, A => vs = [] ∧ A = []
  | d :: ds, vs, A => ∃ v r A1 A2, vs = v :: r ∧ A = A1 ++ A2 ∧ P d v A1 ∧ OwnL P ds r A2
/-- the one object at p, its items held by P -/
def OwnAt (P : D → V → List Addr → Prop) (p : Addr) : D → List Addr → Prop
  | .lst ds, A => ∃ vs, H p = some (.lst vs) ∧ OwnL P ds vs A
  | .dic ks ds, A => A = [] ∧ ∃ vs, HoldsL rt F ds vs ∧ ((∃ kk, keysD ks = some kk ∧ kk.length = vs.length ∧ H p = some (.dK (kk.zip vs))) ∨ (∃ kk, keysTD ks = some kk ∧ kk.length = vs.length ∧ H p = some (.dT (kk.zip vs))))
  | _, _ => False
def Own : Nat → D → V → List Addr → Prop
  | 0, d, v, A => A = [] ∧ Holds rt F d v
  | n + 1, d, v, A => ∃ p B, v = .ref p ∧ F p = none ∧ A = p :: B ∧ OwnAt rt F H (Own n) p d B
def SlotR : Sl → Option V → List Addr → Prop
  | .no, _, A => A = []
  | .sh d, o, A => A = [] ∧ ∃ v, o = some v ∧ Holds rt F d v
  | .ow n d, o, A => ∃ v, o = some v ∧ Own rt F H n d v A
def EnvR : List Sl → L2.St → List Addr → Prop
  | [], σ, A => σ = [] ∧ A = []
  | s :: ss, σ, A => ∃ o r A1 A2, σ = o :: r ∧ A = A1 ++ A2 ∧ SlotR rt F H s o A1 ∧ EnvR ss r A2
end
section
variable {rt : V} {F H F' H' : Hp}
theorem OwnL.imp {P Q : D → V → List Addr → Prop} : ∀ {ds : List D} {vs : List V} {A : List Addr}, OwnL P ds vs A → (∀ d v B, (∀ a ∈ B, a ∈ A) → P d v B → Q d v B) → OwnL Q ds vs A
  | [], _, _, h, _ => h
  | d :: ds, _, _, h, f => by
    obtain ⟨v, r, A1, A2, e1, e2, h1, h2⟩ := h
    subst e1 e2
    exact ⟨v, r, A1, A2, rfl, rfl, f _ _ _ (fun a ha => List.mem_append_left _ ha) h1, h2.imp fun d v B hB => f d v B fun a ha => List.mem_append_right _ (hB a ha)⟩
/-- what is owned stays where its objects stay -/
theorem Own.keep (s : Same F F') : ∀ {n : Nat} {d : D} {v : V} {A : List Addr}, Own rt F H n d v A → (∀ a ∈ A, H' a = H a ∧ F' a = none) → Own rt F' H' n d v A
  | 0, _, _, _, h, _ => ⟨h.1, h.2.mono s⟩
  | n + 1, d, v, A, h, k => by
    obtain ⟨p, B, e, f, eA, q⟩ := h
    subst eA
    obtain ⟨k1, k2⟩ := k p List.mem_cons_self
    refine ⟨p, B, e, k2, rfl, ?_⟩
    cases d with
    | lst ds =>
      obtain ⟨vs, h1, h2⟩ := q
      exact ⟨vs, k1.trans h1, h2.imp fun d v C hC hP => hP.keep s fun a ha => k a (List.mem_cons_of_mem _ (hC a ha))⟩
    | dic ks ds =>
      obtain ⟨e0, vs, l, f⟩ := q
      refine ⟨e0, vs, l.mono s, ?_⟩
      rcases f with ⟨kk, f1, f2, f3⟩ | ⟨kk, f1, f2, f3⟩
      · exact .inl ⟨kk, f1, f2, k1.trans f3⟩
      · exact .inr ⟨kk, f1, f2, k1.trans f3⟩
    | _ => exact q.elim
theorem SlotR.keep (s : Same F F') {x : Sl} {o : Option V} {A : List Addr} (h : SlotR rt F H x o A) (k : ∀ a ∈ A, H' a = H a ∧ F' a = none) : SlotR rt F' H' x o A := by
  cases x with
  | no => exact h
  | sh d => obtain ⟨e, v, e2, q⟩ := h; exact ⟨e, v, e2, q.mono s⟩
  | ow n d => obtain ⟨v, e, q⟩ := h; exact ⟨v, e, q.keep s k⟩
theorem EnvR.keep (s : Same F F') : ∀ {ss : List Sl} {σ : L2.St} {A : List Addr}, EnvR rt F H ss σ A → (∀ a ∈ A, H' a = H a ∧ F' a = none) → EnvR rt F' H' ss σ A
  | [], _, _, h, _ => h
  | x :: ss, _, _, h, k => by
    obtain ⟨o, r, A1, A2, e1, e2, h1, h2⟩ := h
    subst e1 e2
    exact ⟨o, r, A1, A2, rfl, rfl, h1.keep s fun a ha => k a (List.mem_append_left _ ha), h2.keep s fun a ha => k a (List.mem_append_right _ ha)⟩
/-- what is owned stands, and is not frozen -/
theorem Own.at : ∀ {n : Nat} {d : D} {v : V} {A : List Addr}, Own rt F H n d v A → ∀ a ∈ A, F a = none ∧ ∃ o, H a = some o
  | 0, _, _, _, h, a, ha => by rw [h.1] at ha; cases ha
  | n + 1, d, v, A, h, a, ha => by
    obtain ⟨p, B, e, f, eA, q⟩ := h
    subst eA
    have hl : ∀ {ds : List D} {vs : List V} {B : List Addr}, OwnL (Own rt F H n) ds vs B → ∀ a ∈ B, F a = none ∧ ∃ o, H a = some o := by
      intro ds
      induction ds with
      | nil => intro vs B h a ha; rw [h.2] at ha; cases ha
      | cons d ds ih =>
        intro vs B h a ha
        obtain ⟨v, r, A1, A2, e1, e2, h1, h2⟩ := h
        subst e2
        rcases List.mem_append.mp ha with z | z
        · exact Own.at h1 a z
        · exact ih h2 a z
    cases d with
    | lst ds =>
      obtain ⟨vs, h1, h2⟩ := q
      rcases List.mem_cons.mp ha with z | z
      · subst z; exact ⟨f, _, h1⟩
      · exact hl h2 a z
    | dic ks ds =>
      obtain ⟨e0, vs, l, g⟩ := q
      subst e0
      have e1 : a = p := by simpa using ha
      subst e1
      refine ⟨f, ?_⟩
      rcases g with ⟨kk, f1, f2, f3⟩ | ⟨kk, f1, f2, f3⟩
      · exact ⟨_, f3⟩
      · exact ⟨_, f3⟩
    | _ => exact q.elim
theorem SlotR.at {x : Sl} {o : Option V} {A : List Addr} (h : SlotR rt F H x o A) : ∀ a ∈ A, F a = none ∧ ∃ o, H a = some o := by
  cases x with
  | no => intro a ha; rw [show A = [] from h] at ha; cases ha
  | sh d => intro a ha; rw [h.1] at ha; cases ha
  | ow n d => obtain ⟨v, e, q⟩ := h; exact q.at
theorem EnvR.at : ∀ {ss : List Sl} {σ : L2.St} {A : List Addr}, EnvR rt F H ss σ A → ∀ a ∈ A, F a = none ∧ ∃ o, H a = some o
  | [], _, _, h, a, ha => by rw [h.2] at ha; cases ha
  | x :: ss, _, _, h, a, ha => by
    obtain ⟨o, r, A1, A2, e1, e2, h1, h2⟩ := h
    subst e1 e2
    rcases List.mem_append.mp ha with z | z
    · exact h1.at a z
    · exact h2.at a z
theorem EnvR.length : ∀ {ss : List Sl} {σ : L2.St} {A : List Addr}, EnvR rt F H ss σ A → σ.length = ss.length
  | [], _, _, h => by rw [h.1]; rfl
  | x :: ss, _, _, h => by
    obtain ⟨o, r, A1, A2, e1, e2, h1, h2⟩ := h
    subst e1
    simp only [List.length_cons, h2.length]
/-- one slot taken out -/
theorem EnvR.split : ∀ {ss : List Sl} {σ : L2.St} {A : List Addr} {i : Nat} {x : Sl}, EnvR rt F H ss σ A → ss[i]? = some x →
    ∃ o A0 A1 A2, σ[i]? = some o ∧ A = A0 ++ A1 ++ A2 ∧ SlotR rt F H x o A1 ∧
      ∀ {F' H' : Hp} {y : Sl} {o' : Option V} {B : List Addr}, Same F F' → (∀ a ∈ A0 ++ A2, H' a = H a ∧ F' a = none) → SlotR rt F' H' y o' B → EnvR rt F' H' (ss.set i y) (σ.set i o') (A0 ++ B ++ A2)
  | [], _, _, _, _, _, e => by simp at e
  | s :: ss, _, _, 0, x, h, e => by
    obtain ⟨o, r, A1, A2, e1, e2, h1, h2⟩ := h
    subst e1 e2
    simp at e; subst e
    refine ⟨o, [], A1, A2, rfl, rfl, h1, fun {F' H' y o' B} sm k hy => ?_⟩
    exact ⟨o', r, B, A2, rfl, rfl, hy, h2.keep sm fun a ha => k a (by simpa using ha)⟩
  | s :: ss, _, _, i + 1, x, h, e => by
    obtain ⟨o, r, A1, A2, e1, e2, h1, h2⟩ := h
    subst e1 e2
    obtain ⟨o2, B0, B1, B2, q1, q2, q3, q4⟩ := h2.split (i := i) (by simpa using e)
    subst q2
    refine ⟨o2, A1 ++ B0, B1, B2, by simpa using q1, by simp [List.append_assoc], q3, fun {F' H' y o' B} sm k hy => ?_⟩
    refine ⟨o, r.set i o', A1, B0 ++ B ++ B2, rfl, by simp [List.append_assoc], h1.keep sm fun a ha => k a (by simp [ha]), q4 sm (fun a ha => k a ?_) hy⟩
    rcases List.mem_append.mp ha with z | z
    · simp [z]
    · simp [z]
end

/-! ### the state relation -/
structure Rel (Z : TSys) (ad : Z.Ad) (env : List Sl) (T : Z.T) (F : Hp) (σ : L2.St) (H : Hp) (A : List Addr) : Prop where
  same : Same F H
  env : EnvR (Z.root ad) F H env σ A
  nd : A.Nodup
  tp : Z.At ad T H
  tf : ∀ a ∈ Z.addrs ad, F a = none ∧ a ∉ A
/-- what a piece of code may do: F grows by new objects and owned ones, A by new ones; nothing vanishes; all else stands -/
structure Stp (Z : TSys) (ad : Z.Ad) (A : List Addr) (F H : Hp) (A' : List Addr) (F' H' : Hp) : Prop where
  sF : Same F F'
  nF : ∀ a, F' a ≠ none → F a ≠ none ∨ a ∈ A ∨ H a = none
  nA : ∀ a ∈ A', a ∈ A ∨ H a = none
  fr : ∀ a o, H a = some o → a ∉ A → a ∉ Z.addrs ad → H' a = some o
  ex : ∀ a o, H a = some o → ∃ o', H' a = some o'
section
variable {Z : TSys} {ad : Z.Ad} {A A1 A2 : List Addr} {F H F1 H1 F2 H2 : Hp}
theorem Stp.refl : Stp Z ad A F H A F H := ⟨Same.refl _, fun _ h => .inl h, fun _ h => .inl h, fun _ _ h _ _ => h, fun _ o h => ⟨o, h⟩⟩
theorem Stp.none (a : Stp Z ad A F H A1 F1 H1) {p : Addr} (h : H1 p = none) : H p = none := by
  cases q : H p with
  | none => rfl
  | some o => obtain ⟨o', e⟩ := a.ex p o q; rw [h] at e; cases e
theorem Stp.trans (a : Stp Z ad A F H A1 F1 H1) (b : Stp Z ad A1 F1 H1 A2 F2 H2) : Stp Z ad A F H A2 F2 H2 := by
  refine ⟨a.sF.trans b.sF, fun x hx => ?_, fun x hx => ?_, fun x o e hA hx => ?_, fun x o e => ?_⟩
  · rcases b.nF x hx with q | q | q
    · exact a.nF x q
    · exact .inr (a.nA x q)
    · exact .inr (.inr (a.none q))
  · rcases b.nA x hx with q | q
    · exact a.nA x q
    · exact .inr (a.none q)
  · refine b.fr x o (a.fr x o e hA hx) (fun z => ?_) hx
    rcases a.nA x z with q | q
    · exact hA q
    · rw [e] at q; cases q
  · obtain ⟨o1, e1⟩ := a.ex x o e
    exact b.ex x o1 e1
end
end DL

/-! The data layer, 2: combinators and their judgements. -/
namespace DL
open PySem L2

/-! ### expressions -/
abbrev M (Z : TSys) := List Sl → Z.T → Option (D × List Sl × Z.T)
abbrev ML (Z : TSys) := List Sl → Z.T → Option (List D × List Sl × Z.T)
abbrev MB (Z : TSys) := List Sl → Z.T → Option (Bool × List Sl × Z.T)

def den (Z : TSys) (m : M Z) : TE := fun σ H Q => ∃ (ad : Z.Ad) (env : List Sl) (T : Z.T) (F : Hp) (A : List Addr) (r : D) (env' : List Sl) (T' : Z.T),
  Rel Z ad env T F σ H A ∧ m env T = some (r, env', T') ∧ ∀ v H' F' A', Rel Z ad env' T' F' σ H' A' → Stp Z ad A F H A' F' H' → Holds (Z.root ad) F' r v → Q v H'
def denB (Z : TSys) (m : MB Z) : TT := fun σ H Q => ∃ (ad : Z.Ad) (env : List Sl) (T : Z.T) (F : Hp) (A : List Addr) (r : Bool) (env' : List Sl) (T' : Z.T),
  Rel Z ad env T F σ H A ∧ m env T = some (r, env', T') ∧ ∀ H' F' A', Rel Z ad env' T' F' σ H' A' → Stp Z ad A F H A' F' H' → Q r H'
def denL (Z : TSys) (m : ML Z) : TA := fun σ H Q => ∃ (ad : Z.Ad) (env : List Sl) (T : Z.T) (F : Hp) (A : List Addr) (r : List D) (env' : List Sl) (T' : Z.T),
  Rel Z ad env T F σ H A ∧ m env T = some (r, env', T') ∧ ∀ v H' F' A', Rel Z ad env' T' F' σ H' A' → Stp Z ad A F H A' F' H' → HoldsL (Z.root ad) F' r v → Q v H'
/-- a value whose list the new address p alone bears (n: to which depth) -/
def denO (Z : TSys) (n : Nat) (m : M Z) : TE := fun σ H Q => ∃ (ad : Z.Ad) (env : List Sl) (T : Z.T) (F : Hp) (A : List Addr) (r : D) (env' : List Sl) (T' : Z.T),
  Rel Z ad env T F σ H A ∧ m env T = some (r, env', T') ∧ ∀ v H' F' A' B, Rel Z ad env' T' F' σ H' A' → Stp Z ad A F H A' F' H' → Own (Z.root ad) F' H' n r v B → B.Nodup → (∀ a ∈ B, a ∉ A' ∧ H a = none ∧ a ∉ Z.addrs ad) → Q v H'

structure IsE (Z : TSys) (X : Cx) (e : Expr) (m : M Z) : Prop where
  pe : PE X e (den Z m)
structure IsO (Z : TSys) (n : Nat) (X : Cx) (e : Expr) (m : M Z) : Prop where
  pe : PE X e (denO Z n m)
structure IsT (Z : TSys) (X : Cx) (e : Expr) (m : MB Z) : Prop where
  pt : PT X e (denB Z m)
structure IsL (Z : TSys) (X : Cx) (es : List Expr) (m : ML Z) : Prop where
  pa : PA X es (denL Z m)

section
variable {X : Cx} {e : Expr} {es : List Expr}
theorem PE.imp {t u : TE} (h : PE X e t) (f : ∀ σ H Q, u σ H Q → t σ H Q) : PE X e u := ⟨fun pins s σ H Q I q => h.run pins s σ H Q I (f _ _ _ q)⟩
theorem PT.imp {t u : TT} (h : PT X e t) (f : ∀ σ H Q, u σ H Q → t σ H Q) : PT X e u := ⟨fun pins s σ H Q I q => h.run pins s σ H Q I (f _ _ _ q)⟩
theorem PA.imp {t u : TA} (h : PA X es t) (f : ∀ σ H Q, u σ H Q → t σ H Q) : PA X es u := ⟨fun pos pins s σ H Q I q => h.run pos pins s σ H Q I (f _ _ _ q)⟩
theorem PW.imp {t u : TT} (h : PW X e t) (f : ∀ σ H Q, u σ H Q → t σ H Q) : PW X e u := ⟨fun w pins s σ H Q I q => h.run w pins s σ H Q I (f _ _ _ q)⟩
end

/-! ### what a pure operation may do -/
structure New (F H F' H' : Hp) : Prop where
  sF : Same F F'
  sH : Same H H'
  fh : Same F' H'
  nF : ∀ a, F' a ≠ none → F a ≠ none ∨ H a = none
theorem New.refl {F H : Hp} (s : Same F H) : New F H F H := ⟨Same.refl _, Same.refl _, s, fun _ h => .inl h⟩
theorem New.upd {F H : Hp} (s : Same F H) {p : Addr} (hp : H p = none) (o : HO) : New F H (upd F p o) (upd H p o) := by
  have fp : F p = none := s.free hp
  refine ⟨fun a x e => ?_, fun a x e => ?_, fun a x e => ?_, fun a e => ?_⟩
  · rw [upd_ne (ne_of_none e fp)]; exact e
  · rw [upd_ne (ne_of_none e hp)]; exact e
  · by_cases q : a = p
    · subst q; rw [upd_same] at e ⊢; exact e
    · rw [upd_ne q] at e ⊢; exact s _ _ e
  · by_cases q : a = p
    · subst q; exact .inr hp
    · rw [upd_ne q] at e; exact .inl e
section
variable {Z : TSys} {ad : Z.Ad} {env : List Sl} {T : Z.T} {F H F' H' : Hp} {σ : L2.St} {A : List Addr}
theorem Rel.at (R : Rel Z ad env T F σ H A) : ∀ a ∈ A, F a = none ∧ ∃ o, H a = some o := R.env.at
theorem Rel.new (R : Rel Z ad env T F σ H A) (n : New F H F' H') : Rel Z ad env T F' σ H' A ∧ Stp Z ad A F H A F' H' := by
  have keep : ∀ a, F a = none → (∃ o, H a = some o) → H' a = H a ∧ F' a = none := fun a fa ⟨o, ho⟩ => by
    refine ⟨(n.sH _ _ ho).trans ho.symm, ?_⟩
    cases q : F' a with
    | none => rfl
    | some x =>
      rcases n.nF a (by rw [q]; exact fun z => by cases z) with z | z
      · exact absurd fa z
      · rw [ho] at z; cases z
  refine ⟨⟨n.fh, R.env.keep n.sF fun a ha => ?_, R.nd, Z.loc R.tp fun b hb => ?_, fun b hb => ?_⟩, n.sF, fun a h => ?_, fun a h => .inl h, fun a o h _ _ => n.sH _ _ h, fun a o h => ⟨o, n.sH _ _ h⟩⟩
  · obtain ⟨f, o⟩ := R.at a ha; exact keep a f o
  · exact (keep b (R.tf b hb).1 (Z.has R.tp hb)).1
  · exact ⟨(keep b (R.tf b hb).1 (Z.has R.tp hb)).2, (R.tf b hb).2⟩
  · rcases n.nF a h with z | z
    · exact .inl z
    · exact .inr (.inr z)
theorem Rel.upd (R : Rel Z ad env T F σ H A) {p : Addr} (hp : H p = none) (o : HO) : Rel Z ad env T (upd F p o) σ (upd H p o) A ∧ Stp Z ad A F H A (L2.upd F p o) (L2.upd H p o) := R.new (New.upd R.same hp o)
/-- a new object that is not frozen -/
theorem Rel.own (R : Rel Z ad env T F σ H A) {p : Addr} (hp : H p = none) (o : HO) : Rel Z ad env T F σ (L2.upd H p o) A ∧ Stp Z ad A F H A F (L2.upd H p o) := by
  have sm : Same H (L2.upd H p o) := fun a x e => by rw [upd_ne (ne_of_none e hp)]; exact e
  exact R.new ⟨Same.refl _, sm, R.same.trans sm, fun a h => .inl h⟩
theorem Rel.notin (R : Rel Z ad env T F σ H A) {p : Addr} (hp : H p = none) : p ∉ A ∧ p ∉ Z.addrs ad := by
  refine ⟨fun z => ?_, fun z => ?_⟩
  · obtain ⟨_, o, e⟩ := R.at p z; rw [hp] at e; cases e
  · obtain ⟨o, e⟩ := Z.has R.tp z; rw [hp] at e; cases e
theorem Rel.st (R : Rel Z ad env T F σ H A) {A0 : List Addr} {F0 H0 : Hp} (a : Stp Z ad A0 F0 H0 A F H) {A1 : List Addr} {F1 H1 : Hp} {env1 : List Sl} {T1 : Z.T} {σ1 : L2.St} (b : Stp Z ad A F H A1 F1 H1) (R1 : Rel Z ad env1 T1 F1 σ1 H1 A1) : Stp Z ad A0 F0 H0 A1 F1 H1 :=
  a.trans b
end

/-! ### borrowed values: the outer object may be one that a slot owns -/
def HB (rt : V) (F H : Hp) : D → V → Prop
  | .lst ds, v => ∃ a vs, v = .ref a ∧ H a = some (.lst vs) ∧ HoldsL rt F ds vs
  | .dic ks ds, v => ∃ a vs, v = .ref a ∧ HoldsL rt F ds vs ∧ ((∃ kk, keysD ks = some kk ∧ kk.length = vs.length ∧ H a = some (.dK (kk.zip vs))) ∨ (∃ kk, keysTD ks = some kk ∧ kk.length = vs.length ∧ H a = some (.dT (kk.zip vs))))
  | d, v => Holds rt F d v
def HBL (rt : V) (F H : Hp) : List D → List V → Prop
  | [], vs => vs = []
  | d :: ds, vs => ∃ v r, vs = v :: r ∧ HB rt F H d v ∧ HBL rt F H ds r
section
variable {rt : V} {F H F' H' : Hp}
theorem HB.of (s : Same F H) : ∀ {d : D} {v : V}, Holds rt F d v → HB rt F H d v
  | .non, _, h => h
  | .bl _, _, h => h
  | .int _, _, h => h
  | .str _, _, h => h
  | .tup _, _, h => h
  | .tape, _, h => h
  | .set _, _, h => h
  | .lst ds, _, h => by
    simp only [Holds] at h
    obtain ⟨a, vs, e, f, l⟩ := h
    exact ⟨a, vs, e, s _ _ f, l⟩
  | .dic ks ds, _, h => by
    simp only [Holds] at h
    obtain ⟨a, vs, e, l, f⟩ := h
    refine ⟨a, vs, e, l, ?_⟩
    rcases f with ⟨kk, f1, f2, f3⟩ | ⟨kk, f1, f2, f3⟩
    · exact .inl ⟨kk, f1, f2, s _ _ f3⟩
    · exact .inr ⟨kk, f1, f2, s _ _ f3⟩
theorem HBL.of (s : Same F H) : ∀ {ds : List D} {vs : List V}, HoldsL rt F ds vs → HBL rt F H ds vs
  | [], _, h => by simp only [HoldsL] at h; exact h
  | d :: ds, _, h => by
    simp only [HoldsL] at h
    obtain ⟨v, r, e, h1, h2⟩ := h
    exact ⟨v, r, e, HB.of s h1, HBL.of s h2⟩
theorem OwnL.zero : ∀ {ds : List D} {vs : List V} {A : List Addr}, OwnL (Own rt F H 0) ds vs A → HoldsL rt F ds vs ∧ A = []
  | [], _, _, h => by obtain ⟨e1, e2⟩ := h; subst e1 e2; exact ⟨.nil, rfl⟩
  | d :: ds, _, _, h => by
    obtain ⟨v, r, A1, A2, e1, e2, h1, h2⟩ := h
    obtain ⟨q1, q2⟩ := OwnL.zero h2
    obtain ⟨q3, q4⟩ := h1
    subst e1 e2 q2 q3
    exact ⟨.cons q4 q1, rfl⟩
theorem OwnL.ofHolds : ∀ {ds : List D} {vs : List V}, HoldsL rt F ds vs → OwnL (Own rt F H 0) ds vs []
  | [], _, h => ⟨by simpa only [HoldsL] using h, rfl⟩
  | d :: ds, _, h => by
    simp only [HoldsL] at h
    obtain ⟨v, r, e, h1, h2⟩ := h
    exact ⟨v, r, [], [], e, rfl, ⟨rfl, h1⟩, OwnL.ofHolds h2⟩
theorem HB.own1 {d : D} {v : V} {A : List Addr} (h : Own rt F H 1 d v A) : HB rt F H d v := by
  obtain ⟨p, B, e, f, eA, q⟩ := h
  cases d with
  | lst ds =>
    obtain ⟨vs, h1, h2⟩ := q
    exact ⟨p, vs, e, h1, (OwnL.zero h2).1⟩
  | dic ks ds =>
    obtain ⟨e0, vs, l, g⟩ := q
    exact ⟨p, vs, e, l, g⟩
  | _ => exact q.elim
theorem HB.own0 (s : Same F H) {d : D} {v : V} {A : List Addr} (h : Own rt F H 0 d v A) : HB rt F H d v := HB.of s h.2
/-- a tree that is read in H -/
theorem HB.inH (s : Same F H) : ∀ {d : D} {v : V}, HB rt F H d v → Holds rt H d v
  | .non, _, h => Holds.mono s h
  | .bl _, _, h => Holds.mono s h
  | .int _, _, h => Holds.mono s h
  | .str _, _, h => Holds.mono s h
  | .tup _, _, h => Holds.mono s h
  | .tape, _, h => Holds.mono s h
  | .set _, _, h => Holds.mono s h
  | .lst ds, _, h => by
    obtain ⟨a, vs, e, f, l⟩ := h
    simp only [Holds]
    exact ⟨a, vs, e, f, l.mono s⟩
  | .dic ks ds, _, h => by
    obtain ⟨a, vs, e, l, f⟩ := h
    simp only [Holds]
    exact ⟨a, vs, e, l.mono s, f⟩
theorem HB.new {d : D} {v : V} (n : New F H F' H') (h : HB rt F H d v) : HB rt F' H' d v := by
  cases d with
  | lst ds =>
    obtain ⟨a, vs, e, f, l⟩ := h
    exact ⟨a, vs, e, n.sH _ _ f, l.mono n.sF⟩
  | dic ks ds =>
    obtain ⟨a, vs, e, l, f⟩ := h
    refine ⟨a, vs, e, l.mono n.sF, ?_⟩
    rcases f with ⟨kk, f1, f2, f3⟩ | ⟨kk, f1, f2, f3⟩
    · exact .inl ⟨kk, f1, f2, n.sH _ _ f3⟩
    · exact .inr ⟨kk, f1, f2, n.sH _ _ f3⟩
  | _ => exact Holds.mono n.sF h
end

/-! ### operands: a slot is looked at when the operation is done -/
inductive Arg (Z : TSys) where
  | v (i : Nat)
  | e (m : M Z)
def look (env : List Sl) (i : Nat) : Option D := match env[i]? with
  | some (.sh d) => some d
  | some (.ow 1 d) => some d
  | _ => none
def evA {Z : TSys} : Arg Z → List Sl → Z.T → Option (Option D × List Sl × Z.T)
  | .v _, e, t => some (none, e, t)
  | .e m, e, t => match m e t with
    | some (d, e', t') => some (some d, e', t')
    | none => none
/-- what stands at an operand behind all evaluations -/
def getA {Z : TSys} (a : Arg Z) (o : Option D) (env : List Sl) : Option D := match a with
  | .v i => look env i
  | .e _ => o
inductive IsA (Z : TSys) (X : Cx) : Expr → Arg Z → Prop
  | v {i : Nat} {x : Str} {pos : Pos} : PE X (.Name x pos) (tVar i) → IsA Z X (.Name x pos) (.v i)
  | e {ex : Expr} {m : M Z} : IsE Z X ex m → IsA Z X ex (.e m)
section
variable {Z : TSys} {ad : Z.Ad} {env : List Sl} {T : Z.T} {F H : Hp} {σ : L2.St} {A : List Addr}
/-- a slot looked at -/
theorem Rel.look (R : Rel Z ad env T F σ H A) {i : Nat} {d : D} (h : look env i = some d) : ∃ v, σ[i]? = some (some v) ∧ HB (Z.root ad) F H d v := by
  unfold DL.look at h
  cases q : env[i]? with
  | none => rw [q] at h; cases h
  | some x =>
    rw [q] at h
    obtain ⟨o, A0, A1, A2, e1, _, e3, _⟩ := R.env.split q
    cases x with
    | no => cases h
    | sh d' =>
      simp at h; subst h
      obtain ⟨_, v, e, hv⟩ := e3
      exact ⟨v, by rw [e1, e], HB.of R.same hv⟩
    | ow n d' =>
      match n, h with
      | 1, h =>
        simp at h; subst h
        obtain ⟨v, e, hv⟩ := e3
        exact ⟨v, by rw [e1, e], HB.own1 hv⟩
/-- an operand's value, known behind -/
def ArgV (Z : TSys) (ad : Z.Ad) (a : Arg Z) (o : Option D) (F : Hp) (σ : L2.St) (v : V) : Prop := match a with
  | .v i => σ[i]? = some (some v)
  | .e _ => ∃ d, o = some d ∧ Holds (Z.root ad) F d v
theorem ArgV.get {a : Arg Z} {o : Option D} {v : V} {d : D} (R : Rel Z ad env T F σ H A) (h : ArgV Z ad a o F σ v) (g : getA a o env = some d) : HB (Z.root ad) F H d v := by
  cases a with
  | v i =>
    obtain ⟨w, e, q⟩ := R.look (i := i) g
    have h' : σ[i]? = some (some v) := h
    rw [h'] at e; cases e; exact q
  | e m =>
    obtain ⟨d', e, q⟩ := h
    have g' : o = some d := g
    rw [g'] at e; cases e
    exact HB.of R.same q
theorem ArgV.mono {a : Arg Z} {o : Option D} {v : V} {F' : Hp} (s : Same F F') (h : ArgV Z ad a o F σ v) : ArgV Z ad a o F' σ v := by
  cases a with
  | v i => exact h
  | e m => obtain ⟨d, e, q⟩ := h; exact ⟨d, e, q.mono s⟩
end
def denA (Z : TSys) (a : Arg Z) : TE := fun σ H Q => ∃ (ad : Z.Ad) (env : List Sl) (T : Z.T) (F : Hp) (A : List Addr) (o : Option D) (env' : List Sl) (T' : Z.T),
  Rel Z ad env T F σ H A ∧ evA a env T = some (o, env', T') ∧ (∀ i, a = .v i → ∃ v, σ[i]? = some (some v)) ∧ ∀ v H' F' A', Rel Z ad env' T' F' σ H' A' → Stp Z ad A F H A' F' H' → ArgV Z ad a o F' σ v → Q v H'
theorem IsA.pe {Z : TSys} {X : Cx} {e : Expr} {a : Arg Z} (h : IsA Z X e a) : PE X e (denA Z a) := by
  cases h with
  | v h =>
    refine PE.imp h fun σ H Q ⟨ad, env, T, F, A, o, env', T', R, ev, hs, k⟩ => ?_
    obtain ⟨v, e⟩ := hs _ rfl
    simp only [evA, Option.some.injEq, Prod.mk.injEq] at ev
    obtain ⟨_, rfl, rfl⟩ := ev
    exact ⟨v, e, k v H F A R Stp.refl e⟩
  | @e _ m h =>
    refine PE.imp h.pe fun σ H Q ⟨ad, env, T, F, A, o, env', T', R, ev, hs, k⟩ => ?_
    simp only [evA] at ev
    cases q : m env T with
    | none => rw [q] at ev; cases ev
    | some x =>
      obtain ⟨d, e1, t1⟩ := x
      rw [q] at ev
      simp only [Option.some.injEq, Prod.mk.injEq] at ev
      obtain ⟨rfl, rfl, rfl⟩ := ev
      exact ⟨ad, env, T, F, A, d, e1, t1, R, q, fun v H' F' A' R' S' hv => k v H' F' A' R' S' ⟨d, rfl, hv⟩⟩
/-- a slot that is looked at later stands now -/
def slotOk {Z : TSys} (a : Arg Z) (env : List Sl) : Bool := match a with
  | .v i => match env[i]? with
    | some (.sh _) => true
    | some (.ow _ _) => true
    | _ => false
  | .e _ => true
theorem slotOk.has {Z : TSys} {ad : Z.Ad} {env : List Sl} {T : Z.T} {F H : Hp} {σ : L2.St} {A : List Addr} {a : Arg Z} (R : Rel Z ad env T F σ H A) (h : slotOk a env = true) : ∀ i, a = .v i → ∃ v, σ[i]? = some (some v) := by
  rintro i rfl
  dsimp only [slotOk] at h
  cases q : env[i]? with
  | none => rw [q] at h; cases h
  | some x =>
    rw [q] at h
    obtain ⟨o, A0, A1, A2, e1, _, e3, _⟩ := R.env.split q
    cases x with
    | no => cases h
    | sh d' => obtain ⟨_, v, e, hv⟩ := e3; exact ⟨v, by rw [e1, e]⟩
    | ow n d' => obtain ⟨v, e, hv⟩ := e3; exact ⟨v, by rw [e1, e]⟩

/-! ### one operand, two operands -/
def ev1 {Z : TSys} (a : Arg Z) (env : List Sl) (T : Z.T) : Option (D × List Sl × Z.T) :=
  if slotOk a env then match evA a env T with
    | some (o, e1, t1) => match getA a o e1 with
      | some d => some (d, e1, t1)
      | none => none
    | none => none
  else none
def ev2 {Z : TSys} (a b : Arg Z) (env : List Sl) (T : Z.T) : Option (D × D × List Sl × Z.T) :=
  if slotOk a env then match evA a env T with
    | some (o, e1, t1) => if slotOk b e1 then match evA b e1 t1 with
      | some (o2, e2, t2) => match getA a o e2, getA b o2 e2 with
        | some d, some d2 => some (d, d2, e2, t2)
        | _, _ => none
      | none => none
      else none
    | none => none
  else none
section
variable {Z : TSys} {X : Cx}
theorem ev1_run {a : Arg Z} {env : List Sl} {T : Z.T} {d : D} {env' : List Sl} {T' : Z.T} (h : ev1 a env T = some (d, env', T')) {ad : Z.Ad} {F H : Hp} {σ : L2.St} {A : List Addr} (R : Rel Z ad env T F σ H A) {Q : VK}
    (k : ∀ v H' F' A', Rel Z ad env' T' F' σ H' A' → Stp Z ad A F H A' F' H' → HB (Z.root ad) F' H' d v → Q v H') : denA Z a σ H Q := by
  unfold ev1 at h
  by_cases hs : slotOk a env = true
  · rw [if_pos hs] at h
    cases q : evA a env T with
    | none => rw [q] at h; cases h
    | some x =>
      obtain ⟨o, e1, t1⟩ := x
      rw [q] at h
      simp only at h
      cases g : getA a o e1 with
      | none => rw [g] at h; cases h
      | some d' =>
        rw [g] at h
        simp only [Option.some.injEq, Prod.mk.injEq] at h
        obtain ⟨rfl, rfl, rfl⟩ := h
        exact ⟨ad, env, T, F, A, o, e1, t1, R, q, slotOk.has R hs, fun v H' F' A' R' S' hv => k v H' F' A' R' S' (hv.get R' g)⟩
  · rw [if_neg hs] at h; cases h
theorem ev2_run {a b : Arg Z} {env : List Sl} {T : Z.T} {d d2 : D} {env' : List Sl} {T' : Z.T} (h : ev2 a b env T = some (d, d2, env', T')) {ad : Z.Ad} {F H : Hp} {σ : L2.St} {A : List Addr} (R : Rel Z ad env T F σ H A) {Q : V → V → Hp → Prop}
    (k : ∀ v u H' F' A', Rel Z ad env' T' F' σ H' A' → Stp Z ad A F H A' F' H' → HB (Z.root ad) F' H' d v → HB (Z.root ad) F' H' d2 u → Q v u H') : denA Z a σ H fun x H1 => denA Z b σ H1 fun y H2 => Q x y H2 := by
  unfold ev2 at h
  by_cases hs : slotOk a env = true
  · rw [if_pos hs] at h
    cases q : evA a env T with
    | none => rw [q] at h; cases h
    | some x =>
      obtain ⟨o, e1, t1⟩ := x
      rw [q] at h
      simp only at h
      by_cases hs2 : slotOk b e1 = true
      · rw [if_pos hs2] at h
        cases q2 : evA b e1 t1 with
        | none => rw [q2] at h; cases h
        | some x2 =>
          obtain ⟨o2, e2, t2⟩ := x2
          rw [q2] at h
          simp only at h
          cases g : getA a o e2 with
          | none => rw [g] at h; cases h
          | some d' =>
            cases g2 : getA b o2 e2 with
            | none => rw [g, g2] at h; cases h
            | some d2' =>
              rw [g, g2] at h
              simp only [Option.some.injEq, Prod.mk.injEq] at h
              obtain ⟨rfl, rfl, rfl, rfl⟩ := h
              refine ⟨ad, env, T, F, A, o, e1, t1, R, q, slotOk.has R hs, fun v H' F' A' R' S' hv => ?_⟩
              exact ⟨ad, e1, t1, F', A', o2, e2, t2, R', q2, slotOk.has R' hs2, fun u H2 F2 A2 R2 S2 hu => k v u H2 F2 A2 R2 (R'.st S' S2 R2) ((hv.mono S2.sF).get R2 g) (hu.get R2 g2)⟩
      · rw [if_neg hs2] at h; cases h
  · rw [if_neg hs] at h; cases h
end

/-! ### pure rules of operators -/
def OpD (r : R2) (g : D → D → Option D) : Prop := ∀ (rt : V) (F H : Hp) (dx dy d : D) (x y : V) (Q : VK), Same F H → HB rt F H dx x → HB rt F H dy y → g dx dy = some d →
  (∀ v F' H', New F H F' H' → Holds rt F' d v → Q v H') → r x y H Q
/-- .. that give a new list -/
def OpN (r : R2) (g : D → D → Option (List D)) : Prop := ∀ (rt : V) (F H : Hp) (dx dy : D) (ds : List D) (x y : V) (Q : VK), Same F H → HB rt F H dx x → HB rt F H dy y → g dx dy = some ds →
  (∀ p vs, H p = none → HoldsL rt F ds vs → Q (.ref p) (upd H p (.lst vs))) → r x y H Q
def CallD (r : List V → Hp → VK → Prop) (g : List D → Option D) : Prop := ∀ (rt : V) (F H : Hp) (ds : List D) (d : D) (vs : List V) (Q : VK), Same F H → HBL rt F H ds vs → g ds = some d →
  (∀ v F' H', New F H F' H' → Holds rt F' d v → Q v H') → r vs H Q
def CallN (r : List V → Hp → VK → Prop) (g : List D → Option (List D)) : Prop := ∀ (rt : V) (F H : Hp) (ds : List D) (d : List D) (vs : List V) (Q : VK), Same F H → HBL rt F H ds vs → g ds = some d →
  (∀ p us, H p = none → HoldsL rt F d us → Q (.ref p) (upd H p (.lst us))) → r vs H Q
theorem OpN.toD {r : R2} {g : D → D → Option (List D)} (h : OpN r g) : OpD r fun x y => (g x y).map .lst := by
  intro rt F H dx dy d x y Q s hx hy e k
  dsimp only at e
  cases q : g dx dy with
  | none => rw [q] at e; cases e
  | some ds =>
    rw [q] at e
    simp only [Option.map_some, Option.some.injEq] at e
    subst e
    refine h rt F H dx dy ds x y Q s hx hy q fun p vs hp hl => ?_
    exact k _ _ _ (New.upd s hp _) (by
      simp only [Holds]
      exact ⟨p, vs, rfl, upd_same, hl.mono (New.upd s hp _).sF⟩)
theorem CallN.toD {r : List V → Hp → VK → Prop} {g : List D → Option (List D)} (h : CallN r g) : CallD r fun x => (g x).map .lst := by
  intro rt F H ds d vs Q s hx e k
  dsimp only at e
  cases q : g ds with
  | none => rw [q] at e; cases e
  | some us =>
    rw [q] at e
    simp only [Option.map_some, Option.some.injEq] at e
    subst e
    refine h rt F H ds us vs Q s hx q fun p vs hp hl => ?_
    exact k _ _ _ (New.upd s hp _) (by
      simp only [Holds]
      exact ⟨p, vs, rfl, upd_same, hl.mono (New.upd s hp _).sF⟩)
theorem OpD.or {r r' : R2} {g g' : D → D → Option D} (h : OpD r g) (h' : OpD r' g') : OpD (fun x y H Q => r x y H Q ∨ r' x y H Q) fun x y => match g x y with
    | some d => some d
    | none => g' x y := by
  intro rt F H dx dy d x y Q s hx hy e k
  dsimp only at e
  cases q : g dx dy with
  | some d' => rw [q] at e; cases e; exact .inl (h rt F H dx dy d x y Q s hx hy q k)
  | none => rw [q] at e; exact .inr (h' rt F H dx dy d x y Q s hx hy e k)

def mop {Z : TSys} (g : D → D → Option D) (a b : Arg Z) : M Z := fun e t => match ev2 a b e t with
  | some (x, y, e', t') => match g x y with
    | some d => some (d, e', t')
    | none => none
  | none => none
section
variable {Z : TSys} {X : Cx} {a b : Expr} {A B : Arg Z} {pos : Pos} {r : R2} {g : D → D → Option D}
theorem mop_inv {e : List Sl} {t : Z.T} {d : D} {e' : List Sl} {t' : Z.T} (h : mop g A B e t = some (d, e', t')) : ∃ x y, ev2 A B e t = some (x, y, e', t') ∧ g x y = some d := by
  unfold mop at h
  cases q : ev2 A B e t with
  | none => rw [q] at h; cases h
  | some z =>
    obtain ⟨x, y, e1, t1⟩ := z
    rw [q] at h
    simp only at h
    cases q2 : g x y with
    | none => rw [q2] at h; cases h
    | some d' =>
      rw [q2] at h
      simp only [Option.some.injEq, Prod.mk.injEq] at h
      obtain ⟨rfl, rfl, rfl⟩ := h
      exact ⟨x, y, rfl, q2⟩
theorem op_core (hd : OpD r g) {σ : L2.St} {H : Hp} {Q : VK} (h : den Z (mop g A B) σ H Q) : tOp r (denA Z A) (denA Z B) σ H Q := by
  obtain ⟨ad, env, T, F, A0, d, env', T', R, e, k⟩ := h
  obtain ⟨x, y, e1, e2⟩ := mop_inv e
  refine ev2_run (Q := fun x y H2 => r x y H2 Q) e1 R fun v u H' F' A' R' S' hv hu => ?_
  refine hd _ F' H' x y d v u Q R'.same hv hu e2 fun w F2 H2 n hw => ?_
  obtain ⟨R2, S2⟩ := R'.new n
  exact k w H2 F2 A' R2 (R'.st S' S2 R2) hw
theorem ie_op {op : Operator} (ho : OpR X (binaryOp op) r) (hd : OpD r g) (ha : IsA Z X a A) (hb : IsA Z X b B) : IsE Z X (.BinOp a op b pos) (mop g A B) :=
  ⟨PE.imp (pe_op ho ha.pe hb.pe) fun _ _ _ h => op_core hd h⟩
theorem ie_cmp {op : CmpOp} (ho : OpR X (compareOp op) r) (hd : OpD r g) (ha : IsA Z X a A) (hb : IsA Z X b B) (hm : behindInMarks op b = false) : IsE Z X (.Compare a [op] [b] pos) (mop g A B) :=
  ⟨PE.imp (pe_cmpR ho ha.pe hb.pe hm) fun _ _ _ h => op_core hd h⟩
end
/-- a value as a test -/
def asB {Z : TSys} (m : M Z) : MB Z := fun e t => match m e t with
  | some (.bl b, e', t') => some (b, e', t')
  | _ => none
theorem asB_inv {Z : TSys} {m : M Z} {e : List Sl} {t : Z.T} {b : Bool} {e' : List Sl} {t' : Z.T} (h : asB m e t = some (b, e', t')) : m e t = some (.bl b, e', t') := by
  unfold asB at h
  split at h
  · rename_i q
    simp only [Option.some.injEq, Prod.mk.injEq] at h
    obtain ⟨rfl, rfl, rfl⟩ := h
    exact q
  · cases h
section
variable {Z : TSys} {X : Cx} {a b : Expr} {A B : Arg Z} {pos : Pos} {r : R2} {g : D → D → Option D}
theorem asB_core {t : TE} {m : M Z} (h : ∀ σ H Q, den Z m σ H Q → t σ H Q) {σ : L2.St} {H : Hp} {Q : Bool → Hp → Prop} (q : denB Z (asB m) σ H Q) : t σ H fun x H1 => ∃ c, x = .bl c ∧ Q c H1 := by
  obtain ⟨ad, env, T, F, A0, d, env', T', R, e, k⟩ := q
  refine h _ _ _ ⟨ad, env, T, F, A0, .bl d, env', T', R, asB_inv e, fun v H' F' A' R' S' hv => ?_⟩
  exact ⟨d, by simpa only [Holds] using hv, k H' F' A' R' S'⟩
theorem it_cmp {op : CmpOp} (ho : OpR X (compareOp op) r) (hd : OpD r g) (ha : IsA Z X a A) (hb : IsA Z X b B) (hm : behindInMarks op b = false) : IsT Z X (.Compare a [op] [b] pos) (asB (mop g A B)) :=
  ⟨PT.imp (pt_cmpR ho ha.pe hb.pe hm) fun _ _ _ h => asB_core (t := tOp r (denA Z A) (denA Z B)) (m := mop g A B) (fun _ _ _ h' => op_core hd h') h⟩
theorem it_val {e : Expr} {m : M Z} (h : IsE Z X e m) (he : ∀ whole, isTrue e X.env whole = (do let v ← whole; standAt e.pos; holding [v] (truthy v)) := by intro _; rfl) : IsT Z X e (asB m) :=
  ⟨PT.imp (pt_val h.pe he) fun _ _ _ q => asB_core (t := den Z m) (m := m) (fun _ _ _ h' => h') q⟩
end
end DL

/-! The data layer, 3: expressions. -/
namespace DL
open PySem L2

/-! ### constants -/
def mcst {Z : TSys} (d : D) : M Z := fun e t => some (d, e, t)
section
variable {Z : TSys} {X : Cx} {pos : Pos}
theorem ie_cst {e : Expr} {v : V} {d : D} (h : PE X e (tC v)) (hv : ∀ rt F, Holds rt F d v) : IsE Z X e (mcst d) := ⟨PE.imp h fun σ H Q ⟨ad, env, T, F, A, r, env', T', R, e, k⟩ => by
  simp only [mcst, Option.some.injEq, Prod.mk.injEq] at e
  obtain ⟨rfl, rfl, rfl⟩ := e
  exact k v H F A R Stp.refl (hv _ _)⟩
theorem ie_int {i j} : IsE Z X (.Constant (.int i) j pos) (mcst (.int i)) := ie_cst pe_int fun _ _ => by simp only [Holds]
theorem ie_bl {b j} : IsE Z X (.Constant (.bool b) j pos) (mcst (.bl b)) := ie_cst pe_bl fun _ _ => by simp only [Holds]
theorem ie_non {j} : IsE Z X (.Constant .none j pos) (mcst .non) := ie_cst pe_non fun _ _ => by simp only [Holds]
theorem ie_str {x j} : IsE Z X (.Constant (.str x) j pos) (mcst (.str x)) := ie_cst pe_str fun _ _ => by simp only [Holds]
theorem ie_gint {x : Str} {i : Int} {t : Tok} (hg : Gl X x) (hm : X.mg x = some (.int i t)) (hd : (x == ("__debug__" : Str)) = false := by decide) : IsE Z X (.Name x pos) (mcst (.int i)) := ie_cst (v := .int i) (pe_glob hg hm (show RelV (.int i) _ from ⟨t, rfl⟩) hd) fun _ _ => by simp only [Holds]
end

/-! ### a slot as a value: what it owns is frozen -/
def mvar {Z : TSys} (i : Nat) : M Z := fun e t => match e[i]? with
  | some (.sh d) => some (d, e, t)
  | some (.ow _ d) => some (d, e.set i (.sh d), t)
  | _ => none
section
variable {rt : V} {F H F' : Hp}
theorem Own.frz (s : Same F F') : ∀ {n : Nat} {d : D} {v : V} {A : List Addr}, Own rt F H n d v A → (∀ a ∈ A, F' a = H a) → Holds rt F' d v
  | 0, _, _, _, h, _ => h.2.mono s
  | n + 1, d, v, A, h, k => by
    obtain ⟨p, B, e, f, eA, q⟩ := h
    subst eA
    have kp := k p List.mem_cons_self
    have hl : ∀ {ds : List D} {vs : List V} {B : List Addr}, OwnL (Own rt F H n) ds vs B → (∀ a ∈ B, F' a = H a) → HoldsL rt F' ds vs := by
      intro ds
      induction ds with
      | nil => intro vs B h _; rw [h.1]; exact .nil
      | cons d ds ih =>
        intro vs B h kb
        obtain ⟨v, r, A1, A2, e1, e2, h1, h2⟩ := h
        subst e1 e2
        exact .cons (Own.frz s h1 fun a ha => kb a (List.mem_append_left _ ha)) (ih h2 fun a ha => kb a (List.mem_append_right _ ha))
    cases d with
    | lst ds =>
      obtain ⟨vs, h1, h2⟩ := q
      simp only [Holds]
      exact ⟨p, vs, e, kp.trans h1, hl h2 fun a ha => k a (List.mem_cons_of_mem _ ha)⟩
    | dic ks ds =>
      obtain ⟨e0, vs, l, g⟩ := q
      simp only [Holds]
      refine ⟨p, vs, e, l.mono s, ?_⟩
      rcases g with ⟨kk, f1, f2, f3⟩ | ⟨kk, f1, f2, f3⟩
      · exact .inl ⟨kk, f1, f2, kp.trans f3⟩
      · exact .inr ⟨kk, f1, f2, kp.trans f3⟩
    | _ => exact q.elim
end
/-- the frozen heap with what is owned at A -/
def frzH (A : List Addr) (F H : Hp) : Hp := fun a => if a ∈ A then H a else F a
section
variable {Z : TSys} {ad : Z.Ad} {env : List Sl} {T : Z.T} {F H : Hp} {σ : L2.St} {A : List Addr}
theorem set_self {α : Type} : ∀ {l : List α} {i : Nat} {x : α}, l[i]? = some x → l.set i x = l
  | _ :: _, 0, _, h => by simp at h; subst h; rfl
  | _ :: _, i + 1, _, h => by simp only [List.set_cons_succ]; rw [set_self (by simpa using h)]
  | [], _, _, h => by simp at h
theorem Rel.freeze (R : Rel Z ad env T F σ H A) {i n : Nat} {d : D} (hi : env[i]? = some (.ow n d)) :
    ∃ v F' A', σ[i]? = some (some v) ∧ Rel Z ad (env.set i (.sh d)) T F' σ H A' ∧ Stp Z ad A F H A' F' H ∧ Holds (Z.root ad) F' d v := by
  obtain ⟨o, A0, A1, A2, e1, eA, ⟨v, eo, hv⟩, re⟩ := R.env.split hi
  subst eA eo
  have at1 := hv.at
  have nd := R.nd
  have sF : Same F (frzH A1 F H) := fun a x e => by
    unfold frzH
    by_cases q : a ∈ A1
    · rw [(at1 a q).1] at e; cases e
    · rw [if_neg q]; exact e
  have fH : Same (frzH A1 F H) H := fun a x e => by
    unfold frzH at e
    by_cases q : a ∈ A1
    · rw [if_pos q] at e; exact e
    · rw [if_neg q] at e; exact R.same _ _ e
  have dis : ∀ a ∈ A0 ++ A2, a ∉ A1 := fun a ha hb => by
    rw [List.nodup_append, List.nodup_append] at nd
    rcases List.mem_append.mp ha with z | z
    · exact nd.1.2.2 a z a hb rfl
    · exact nd.2.2 a (List.mem_append_right _ hb) a z rfl
  have hold := hv.frz (F' := frzH A1 F H) sF fun a ha => by unfold frzH; rw [if_pos ha]
  refine ⟨v, frzH A1 F H, A0 ++ [] ++ A2, e1, ⟨fH, ?_, ?_, R.tp, fun b hb => ?_⟩, ⟨sF, fun a h => ?_, fun a h => .inl ?_, fun a o h _ _ => h, fun a o h => ⟨o, h⟩⟩, hold⟩
  · have := re (F' := frzH A1 F H) (H' := H) (y := .sh d) (o' := some v) (B := []) sF (fun a ha => ⟨rfl, ?_⟩) ⟨rfl, v, rfl, hold⟩
    · rw [set_self e1] at this; exact this
    · unfold frzH
      rw [if_neg (dis a ha)]
      refine (R.at a ?_).1
      rcases List.mem_append.mp ha with z | z
      · simp [z]
      · simp [z]
  · rw [List.append_nil]
    rw [List.nodup_append, List.nodup_append] at nd
    rw [List.nodup_append]
    exact ⟨nd.1.1, nd.2.1, fun a h1 b h2 => nd.2.2 a (List.mem_append_left _ h1) b h2⟩
  · obtain ⟨t1, t2⟩ := R.tf b hb
    refine ⟨?_, fun z => t2 ?_⟩
    · unfold frzH
      rw [if_neg fun z => t2 (by simp [z])]
      exact t1
    · rw [List.append_nil] at z
      rcases List.mem_append.mp z with z | z
      · simp [z]
      · simp [z]
  · unfold frzH at h
    by_cases q : a ∈ A1
    · exact .inr (.inl (by simp [q]))
    · rw [if_neg q] at h; exact .inl h
  · rw [List.append_nil] at h
    rcases List.mem_append.mp h with z | z
    · simp [z]
    · simp [z]
theorem ie_var {X : Cx} {i : Nat} {x : Str} {pos : Pos} (h : PE X (.Name x pos) (tVar i)) : IsE Z X (.Name x pos) (mvar i) := ⟨PE.imp h fun σ H Q ⟨ad, env, T, F, A, r, env', T', R, e, k⟩ => by
  unfold mvar at e
  cases q : env[i]? with
  | none => rw [q] at e; cases e
  | some s =>
    rw [q] at e
    cases s with
    | no => cases e
    | sh d =>
      simp only [Option.some.injEq, Prod.mk.injEq] at e
      obtain ⟨rfl, rfl, rfl⟩ := e
      obtain ⟨o, A0, A1, A2, e1, eA, ⟨_, v, eo, hv⟩, _⟩ := R.env.split q
      subst eo
      exact ⟨v, e1, k v H F A R Stp.refl hv⟩
    | ow n d =>
      simp only [Option.some.injEq, Prod.mk.injEq] at e
      obtain ⟨rfl, rfl, rfl⟩ := e
      obtain ⟨v, F', A', e1, R', S', hv⟩ := R.freeze q
      exact ⟨v, e1, k v H F' A' R' S' hv⟩⟩
end

/-! ### owned results become shared ones -/
section
variable {Z : TSys} {ad : Z.Ad} {env : List Sl} {T : Z.T} {F H : Hp} {σ : L2.St} {A : List Addr}
theorem Rel.frzB (R : Rel Z ad env T F σ H A) {n : Nat} {d : D} {v : V} {B : List Addr} (hv : Own (Z.root ad) F H n d v B) (hB : ∀ a ∈ B, a ∉ A ∧ a ∉ Z.addrs ad) :
    Rel Z ad env T (frzH B F H) σ H A ∧ Same F (frzH B F H) ∧ Holds (Z.root ad) (frzH B F H) d v ∧ ∀ a, frzH B F H a ≠ none → F a ≠ none ∨ a ∈ B := by
  have at1 := hv.at
  have sF : Same F (frzH B F H) := fun a x e => by
    unfold frzH
    by_cases q : a ∈ B
    · rw [(at1 a q).1] at e; cases e
    · rw [if_neg q]; exact e
  have fH : Same (frzH B F H) H := fun a x e => by
    unfold frzH at e
    by_cases q : a ∈ B
    · rw [if_pos q] at e; exact e
    · rw [if_neg q] at e; exact R.same _ _ e
  refine ⟨⟨fH, R.env.keep sF fun a ha => ⟨rfl, ?_⟩, R.nd, R.tp, fun b hb => ⟨?_, (R.tf b hb).2⟩⟩, sF, hv.frz sF fun a ha => by unfold frzH; rw [if_pos ha], fun a h => ?_⟩
  · unfold frzH
    rw [if_neg fun z => (hB a z).1 ha]
    exact (R.at a ha).1
  · unfold frzH
    rw [if_neg fun z => (hB b z).2 hb]
    exact (R.tf b hb).1
  · unfold frzH at h
    by_cases q : a ∈ B
    · exact .inr q
    · rw [if_neg q] at h; exact .inl h
theorem IsO.toE {n : Nat} {X : Cx} {e : Expr} {m : M Z} (h : IsO Z n X e m) : IsE Z X e m := ⟨PE.imp h.pe fun σ H Q ⟨ad, env, T, F, A, r, env', T', R, e, k⟩ => by
  refine ⟨ad, env, T, F, A, r, env', T', R, e, fun v H' F' A' B R' S' ho nd hB => ?_⟩
  obtain ⟨R2, s2, h2, n2⟩ := R'.frzB ho fun a ha => ⟨(hB a ha).1, (hB a ha).2.2⟩
  refine k v H' _ A' R2 ⟨S'.sF.trans s2, fun a ha => ?_, S'.nA, S'.fr, S'.ex⟩ h2
  rcases n2 a ha with z | z
  · exact S'.nF a z
  · exact .inr (.inr (hB a z).2.1)⟩
end

/-! ### not, and, or, if else -/
def bnot {Z : TSys} (m : MB Z) : MB Z := fun e t => match m e t with
  | some (b, e', t') => some (!b, e', t')
  | none => none
def band {Z : TSys} (m n : MB Z) : MB Z := fun e t => match m e t with
  | some (true, e', t') => n e' t'
  | some (false, e', t') => some (false, e', t')
  | none => none
def bor {Z : TSys} (m n : MB Z) : MB Z := fun e t => match m e t with
  | some (true, e', t') => some (true, e', t')
  | some (false, e', t') => n e' t'
  | none => none
def mite {Z : TSys} (c : MB Z) (m n : M Z) : M Z := fun e t => match c e t with
  | some (true, e', t') => m e' t'
  | some (false, e', t') => n e' t'
  | none => none
def mbool {Z : TSys} (m : MB Z) : M Z := fun e t => match m e t with
  | some (b, e', t') => some (.bl b, e', t')
  | none => none
structure IsW (Z : TSys) (X : Cx) (e : Expr) (m : MB Z) : Prop where
  pw : PW X e (denB Z m)
section
variable {Z : TSys} {X : Cx} {a b c : Expr} {rest : List Expr} {pos : Pos}
theorem denB_bind {m : MB Z} {f : Bool → MB Z} {σ : L2.St} {H : Hp} {Q : Bool → Hp → Prop}
    (h : denB Z (fun e t => match m e t with | some (b, e', t') => f b e' t' | none => none) σ H Q) : denB Z m σ H fun b H1 => denB Z (f b) σ H1 Q := by
  obtain ⟨ad, env, T, F, A, r, env', T', R, e, k⟩ := h
  cases q : m env T with
  | none => simp only [q] at e; cases e
  | some z =>
    obtain ⟨b, e1, t1⟩ := z
    simp only [q] at e
    exact ⟨ad, env, T, F, A, b, e1, t1, R, q, fun H' F' A' R' S' => ⟨ad, e1, t1, F', A', r, env', T', R', e, fun H2 F2 A2 R2 S2 => k H2 F2 A2 R2 (R'.st S' S2 R2)⟩⟩
theorem denBM_bind {m : MB Z} {f : Bool → M Z} {σ : L2.St} {H : Hp} {Q : VK}
    (h : den Z (fun e t => match m e t with | some (b, e', t') => f b e' t' | none => none) σ H Q) : denB Z m σ H fun b H1 => den Z (f b) σ H1 Q := by
  obtain ⟨ad, env, T, F, A, r, env', T', R, e, k⟩ := h
  cases q : m env T with
  | none => simp only [q] at e; cases e
  | some z =>
    obtain ⟨b, e1, t1⟩ := z
    simp only [q] at e
    exact ⟨ad, env, T, F, A, b, e1, t1, R, q, fun H' F' A' R' S' => ⟨ad, e1, t1, F', A', r, env', T', R', e, fun v H2 F2 A2 R2 S2 => k v H2 F2 A2 R2 (R'.st S' S2 R2)⟩⟩
theorem denB_pure {b : Bool} {σ : L2.St} {H : Hp} {Q : Bool → Hp → Prop} (h : denB Z (fun e t => some (b, e, t)) σ H Q) : Q b H := by
  obtain ⟨ad, env, T, F, A, r, env', T', R, e, k⟩ := h
  simp only [Option.some.injEq, Prod.mk.injEq] at e
  obtain ⟨rfl, rfl, rfl⟩ := e
  exact k H F A R Stp.refl
theorem band_eq {m n : MB Z} : band m n = fun e t => match m e t with | some (b, e', t') => (if b then n else fun e t => some (false, e, t)) e' t' | none => none := by
  funext e t
  unfold band
  cases m e t with
  | none => rfl
  | some z => obtain ⟨b, e1, t1⟩ := z; cases b <;> rfl
theorem bor_eq {m n : MB Z} : bor m n = fun e t => match m e t with | some (b, e', t') => (if b then (fun e t => some (true, e, t)) else n) e' t' | none => none := by
  funext e t
  unfold bor
  cases m e t with
  | none => rfl
  | some z => obtain ⟨b, e1, t1⟩ := z; cases b <;> rfl
theorem bnot_eq {m : MB Z} : bnot m = fun e t => match m e t with | some (b, e', t') => (fun e t => some (!b, e, t) : MB Z) e' t' | none => none := rfl
theorem mite_eq {c : MB Z} {m n : M Z} : mite c m n = fun e t => match c e t with | some (b, e', t') => (if b then m else n) e' t' | none => none := by
  funext e t
  unfold mite
  cases c e t with
  | none => rfl
  | some z => obtain ⟨b, e1, t1⟩ := z; cases b <;> rfl
theorem IsW.t {e : Expr} {m : MB Z} (h : IsW Z X e m) : IsT Z X e m := ⟨h.pw.pt⟩
theorem iw_and1 {m : MB Z} (h : IsT Z X a m) : IsW Z X (.BoolOp .And [a] pos) m := ⟨pw_and1 h.pt⟩
theorem iw_or1 {m : MB Z} (h : IsT Z X a m) : IsW Z X (.BoolOp .Or [a] pos) m := ⟨pw_or1 h.pt⟩
theorem iw_and {m n : MB Z} (ha : IsT Z X a m) (hb : IsW Z X (.BoolOp .And (b :: rest) pos) n) : IsW Z X (.BoolOp .And (a :: b :: rest) pos) (band m n) := ⟨PW.imp (pw_and ha.pt hb.pw) fun σ H Q h => by
  rw [band_eq] at h
  show denB Z m σ H fun c H1 => if c = true then denB Z n σ H1 Q else Q false H1
  obtain ⟨ad, env, T, F, A, r, env', T', R, e, k⟩ := denB_bind (f := fun b => if b then n else fun e t => some (false, e, t)) h
  refine ⟨ad, env, T, F, A, r, env', T', R, e, fun H' F' A' R' S' => ?_⟩
  have q := k H' F' A' R' S'
  cases r with
  | true => exact q
  | false => exact denB_pure q⟩
theorem iw_or {m n : MB Z} (ha : IsT Z X a m) (hb : IsW Z X (.BoolOp .Or (b :: rest) pos) n) : IsW Z X (.BoolOp .Or (a :: b :: rest) pos) (bor m n) := ⟨PW.imp (pw_or ha.pt hb.pw) fun σ H Q h => by
  rw [bor_eq] at h
  show denB Z m σ H fun c H1 => if c = true then Q true H1 else denB Z n σ H1 Q
  obtain ⟨ad, env, T, F, A, r, env', T', R, e, k⟩ := denB_bind (f := fun b => if b then (fun e t => some (true, e, t)) else n) h
  refine ⟨ad, env, T, F, A, r, env', T', R, e, fun H' F' A' R' S' => ?_⟩
  have q := k H' F' A' R' S'
  cases r with
  | true => exact denB_pure q
  | false => exact q⟩
theorem it_not {m : MB Z} (h : IsT Z X a m) : IsT Z X (.UnaryOp .Not a pos) (bnot m) := ⟨PT.imp (pt_not h.pt) fun σ H Q q => by
  rw [bnot_eq] at q
  obtain ⟨ad, env, T, F, A, r, env', T', R, e, k⟩ := denB_bind (f := fun b e t => some (!b, e, t)) q
  exact ⟨ad, env, T, F, A, r, env', T', R, e, fun H' F' A' R' S' => denB_pure (k H' F' A' R' S')⟩⟩
theorem ie_ite {k : MB Z} {m n : M Z} (hc : IsT Z X c k) (ha : IsE Z X a m) (hb : IsE Z X b n) : IsE Z X (.IfExp c a b pos) (mite k m n) := ⟨PE.imp (pe_ifExp hc.pt ha.pe hb.pe) fun σ H Q h => by
  rw [mite_eq] at h
  obtain ⟨ad, env, T, F, A, r, env', T', R, e, k⟩ := denBM_bind (f := fun b => if b then m else n) h
  refine ⟨ad, env, T, F, A, r, env', T', R, e, fun H' F' A' R' S' => ?_⟩
  have q := k H' F' A' R' S'
  cases r with
  | true => exact q
  | false => exact q⟩
theorem den_bool {m : M Z} {f : Bool → M Z} {σ : L2.St} {H : Hp} {Q : VK} (h : den Z (fun e t => match asB m e t with | some (b, e', t') => f b e' t' | none => none) σ H Q) :
    den Z m σ H fun x H1 => ∃ c, x = .bl c ∧ den Z (f c) σ H1 Q := by
  obtain ⟨ad, env, T, F, A, r, env', T', R, e, k⟩ := denBM_bind h
  exact ⟨ad, env, T, F, A, .bl r, env', T', R, asB_inv e, fun v H' F' A' R' S' hv => ⟨r, by simpa only [Holds] using hv, k H' F' A' R' S'⟩⟩
theorem den_pure {d : D} {v : V} {σ : L2.St} {H : Hp} {Q : VK} (hv : ∀ rt F, Holds rt F d v) (h : den Z (fun e t => some (d, e, t)) σ H Q) : Q v H := by
  obtain ⟨ad, env, T, F, A, r, env', T', R, e, k⟩ := h
  simp only [Option.some.injEq, Prod.mk.injEq] at e
  obtain ⟨rfl, rfl, rfl⟩ := e
  exact k v H F A R Stp.refl (hv _ _)
/-- as values -/
def mand {Z : TSys} (m n : M Z) : M Z := fun e t => match asB m e t with
  | some (b, e', t') => (if b then n else fun e t => some (.bl false, e, t)) e' t'
  | none => none
def mor {Z : TSys} (m n : M Z) : M Z := fun e t => match asB m e t with
  | some (b, e', t') => (if b then (fun e t => some (.bl true, e, t)) else n) e' t'
  | none => none
def mnot {Z : TSys} (m : M Z) : M Z := fun e t => match asB m e t with
  | some (b, e', t') => (fun e t => some (.bl (!b), e, t) : M Z) e' t'
  | none => none
theorem ie_one {op} {m : M Z} (h : IsE Z X a m) : IsE Z X (.BoolOp op [a] pos) m := ⟨pe_one h.pe⟩
theorem ie_and {m n : M Z} (ha : IsE Z X a m) (hb : IsE Z X (.BoolOp .And (b :: rest) pos) n) : IsE Z X (.BoolOp .And (a :: b :: rest) pos) (mand m n) := ⟨PE.imp (pe_and ha.pe hb.pe) fun σ H Q h => by
  obtain ⟨ad, env, T, F, A, r, env', T', R, e, k⟩ := den_bool (f := fun b => if b then n else fun e t => some (.bl false, e, t)) h
  refine ⟨ad, env, T, F, A, r, env', T', R, e, fun v H' F' A' R' S' hv => ?_⟩
  obtain ⟨c, ec, q⟩ := k v H' F' A' R' S' hv
  refine ⟨c, ec, ?_⟩
  cases c with
  | true => exact q
  | false => exact den_pure (fun _ _ => by simp only [Holds]) q⟩
theorem ie_or {m n : M Z} (ha : IsE Z X a m) (hb : IsE Z X (.BoolOp .Or (b :: rest) pos) n) : IsE Z X (.BoolOp .Or (a :: b :: rest) pos) (mor m n) := ⟨PE.imp (pe_or ha.pe hb.pe) fun σ H Q h => by
  obtain ⟨ad, env, T, F, A, r, env', T', R, e, k⟩ := den_bool (f := fun b => if b then (fun e t => some (.bl true, e, t)) else n) h
  refine ⟨ad, env, T, F, A, r, env', T', R, e, fun v H' F' A' R' S' hv => ?_⟩
  obtain ⟨c, ec, q⟩ := k v H' F' A' R' S' hv
  refine ⟨c, ec, ?_⟩
  cases c with
  | true => exact den_pure (fun _ _ => by simp only [Holds]) q
  | false => exact q⟩
theorem ie_not {m : M Z} (ha : IsE Z X a m) : IsE Z X (.UnaryOp .Not a pos) (mnot m) := ⟨PE.imp (pe_not ha.pe) fun σ H Q h => by
  obtain ⟨ad, env, T, F, A, r, env', T', R, e, k⟩ := den_bool (f := fun b e t => some (.bl (!b), e, t)) h
  refine ⟨ad, env, T, F, A, r, env', T', R, e, fun v H' F' A' R' S' hv => ?_⟩
  obtain ⟨c, ec, q⟩ := k v H' F' A' R' S' hv
  exact ⟨c, ec, den_pure (fun _ _ => by simp only [Holds]) q⟩⟩
end

/-! ### argument lists, displays -/
def mnil {Z : TSys} : ML Z := fun e t => some ([], e, t)
def mcons {Z : TSys} (m : M Z) (l : ML Z) : ML Z := fun e t => match m e t with
  | some (d, e1, t1) => match l e1 t1 with
    | some (ds, e2, t2) => some (d :: ds, e2, t2)
    | none => none
  | none => none
def mtup {Z : TSys} (l : ML Z) : M Z := fun e t => match l e t with
  | some (ds, e1, t1) => if ds.length ≤ 1000 then some (.tup ds, e1, t1) else none
  | none => none
def mlst {Z : TSys} (l : ML Z) : M Z := fun e t => match l e t with
  | some (ds, e1, t1) => if ds.length ≤ 1000 then some (.lst ds, e1, t1) else none
  | none => none
theorem sz1000 {n : Nat} (h : n ≤ 1000) : n ≤ sizeLine := Nat.le_trans h (by decide)
section
variable {Z : TSys} {X : Cx} {a : Expr} {es : List Expr} {pos : Pos}
theorem il_nil : IsL Z X [] mnil := ⟨PA.imp pa_nil fun σ H Q ⟨ad, env, T, F, A, r, env', T', R, e, k⟩ => by
  simp only [mnil, Option.some.injEq, Prod.mk.injEq] at e
  obtain ⟨rfl, rfl, rfl⟩ := e
  exact k [] H F A R Stp.refl .nil⟩
theorem il_cons {m : M Z} {l : ML Z} (ha : IsE Z X a m) (hl : IsL Z X es l) (hs : starEach (a :: es) X.env = (false, eval a X.env) :: starEach es X.env := by rfl) : IsL Z X (a :: es) (mcons m l) := ⟨PA.imp (pa_cons ha.pe hl.pa hs) fun σ H Q ⟨ad, env, T, F, A, r, env', T', R, e, k⟩ => by
  unfold mcons at e
  cases q : m env T with
  | none => rw [q] at e; cases e
  | some z =>
    obtain ⟨d, e1, t1⟩ := z
    rw [q] at e
    simp only at e
    cases q2 : l e1 t1 with
    | none => rw [q2] at e; cases e
    | some z2 =>
      obtain ⟨ds, e2, t2⟩ := z2
      rw [q2] at e
      simp only [Option.some.injEq, Prod.mk.injEq] at e
      obtain ⟨rfl, rfl, rfl⟩ := e
      refine ⟨ad, env, T, F, A, d, e1, t1, R, q, fun v H' F' A' R' S' hv => ?_⟩
      exact ⟨ad, e1, t1, F', A', ds, e2, t2, R', q2, fun vs H2 F2 A2 R2 S2 hvs => k (v :: vs) H2 F2 A2 R2 (R'.st S' S2 R2) (.cons (hv.mono S2.sF) hvs)⟩⟩
/-- a new tuple, its object known -/
def tTupF (t : TA) : TE := fun σ H Q => t σ H fun xs H1 => xs.length ≤ sizeLine ∧ ∀ p o, H1 p = none → o.dict = none → Q (.ref p) (upd H1 p (.frz o (.tup xs)))
theorem laidT {X : Cx} {pins : List (Addr × Obj)} {σ : L2.St} {H : Hp} {s : Shared} {xs : List V} {us : List Value} (I : Inv X pins σ H s) (r : Vals xs us) (z : xs.length ≤ sizeLine) (t : Nat) :
    Inv X pins σ (upd H s.heap.objs.size (.frz { cls := .type "tuple", data := .seq us.toArray } (.tup xs))) { s with heap := s.heap.push { cls := .type "tuple", data := .seq us.toArray }, toks := t } :=
  I.laid (t' := t) (fun b u e => Heap.get?_push_of_some _ e) (Nat.le_refl _) ⟨Heap.get?_push_size _ rfl, z, us, r, ⟨_, Heap.get?_push_size _ rfl, rfl, _, rfl⟩⟩
theorem pe_tupF {t : TA} {x1} (h : PA X es t) : PE X (.Tuple es x1 pos) (tTupF t) := by
  refine ⟨fun pins s σ H Q I hq => ?_⟩
  refine wpAny_Tuple_spliced (thn (h.run pos pins s σ H _ I hq) fun us s1 ⟨xs, H1, I1, r, z, q⟩ => ⟨by rw [← r.length]; exact z, ?_⟩)
  have hf : H1 s1.heap.objs.size = none := I1.hok.fresh (Nat.le_refl _)
  exact ⟨.ref s1.heap.objs.size, _, laidT I1 r z s1.toks, rfl, q _ _ hf rfl⟩
theorem ie_tup {l : ML Z} {x1} (h : IsL Z X es l) : IsE Z X (.Tuple es x1 pos) (mtup l) := ⟨PE.imp (pe_tupF h.pa) fun σ H Q ⟨ad, env, T, F, A, r, env', T', R, e, k⟩ => by
  unfold mtup at e
  cases q : l env T with
  | none => rw [q] at e; cases e
  | some z =>
    obtain ⟨ds, e1, t1⟩ := z
    rw [q] at e
    simp only at e
    by_cases hz : ds.length ≤ 1000
    · rw [if_pos hz] at e
      simp only [Option.some.injEq, Prod.mk.injEq] at e
      obtain ⟨rfl, rfl, rfl⟩ := e
      refine ⟨ad, env, T, F, A, ds, e1, t1, R, q, fun vs H' F' A' R' S' hv => ⟨by rw [hv.length]; exact sz1000 hz, fun p o hp ho => ?_⟩⟩
      obtain ⟨R2, S2⟩ := R'.upd hp (.frz o (.tup vs))
      refine k _ _ _ _ R2 (R'.st S' S2 R2) ?_
      simp only [Holds]
      exact ⟨p, vs, rfl, ⟨o, upd_same, ho⟩, hv.mono S2.sF⟩
    · rw [if_neg hz] at e; cases e⟩
theorem io_lst {l : ML Z} (h : IsL Z X es l) : IsO Z 1 X (.List es pos) (mlst l) := ⟨PE.imp (pe_lst h.pa) fun σ H Q ⟨ad, env, T, F, A, r, env', T', R, e, k⟩ => by
  unfold mlst at e
  cases q : l env T with
  | none => rw [q] at e; cases e
  | some z =>
    obtain ⟨ds, e1, t1⟩ := z
    rw [q] at e
    simp only at e
    by_cases hz : ds.length ≤ 1000
    · rw [if_pos hz] at e
      simp only [Option.some.injEq, Prod.mk.injEq] at e
      obtain ⟨rfl, rfl, rfl⟩ := e
      refine ⟨ad, env, T, F, A, ds, e1, t1, R, q, fun vs H' F' A' R' S' hv => ⟨by rw [hv.length]; exact sz1000 hz, fun p hp => ?_⟩⟩
      obtain ⟨R2, S2⟩ := R'.own hp (.lst vs)
      obtain ⟨n1, n2⟩ := R'.notin hp
      refine k _ _ F' A' [p] R2 (R'.st S' S2 R2) ⟨p, [], rfl, R'.same.free hp, rfl, vs, upd_same, OwnL.ofHolds hv⟩ (by simp) fun a ha => ?_
      have ea : a = p := by simpa using ha
      subst ea
      exact ⟨n1, S'.none hp, n2⟩
    · rw [if_neg hz] at e; cases e⟩
end
end DL

/-! The data layer, 4: calls, methods, subscripts, slices, chains. -/
namespace DL
open PySem L2

/-! ### operand lists -/
def evAs {Z : TSys} : List (Arg Z) → List Sl → Z.T → Option (List (Option D) × List Sl × Z.T)
  | [], e, t => some ([], e, t)
  | a :: as, e, t => if slotOk a e then match evA a e t with
    | some (o, e1, t1) => match evAs as e1 t1 with
      | some (os, e2, t2) => some (o :: os, e2, t2)
      | none => none
    | none => none
    else none
def getAs {Z : TSys} : List (Arg Z) → List (Option D) → List Sl → Option (List D)
  | [], _, _ => some []
  | a :: as, o :: os, e => match getA a o e with
    | some d => match getAs as os e with
      | some ds => some (d :: ds)
      | none => none
    | none => none
  | _ :: _, [], _ => none
def evN {Z : TSys} (as : List (Arg Z)) : ML Z := fun e t => match evAs as e t with
  | some (os, e1, t1) => match getAs as os e1 with
    | some ds => some (ds, e1, t1)
    | none => none
  | none => none
def ArgVs (Z : TSys) (ad : Z.Ad) (F : Hp) (σ : L2.St) : List (Arg Z) → List (Option D) → List V → Prop
  | [], _, vs => vs = []
  | a :: as, o :: os, vs => ∃ v r, vs = v :: r ∧ ArgV Z ad a o F σ v ∧ ArgVs Z ad F σ as os r
  | _ :: _, [], _ => False
def denAs (Z : TSys) (as : List (Arg Z)) : TA := fun σ H Q => ∃ (ad : Z.Ad) (env : List Sl) (T : Z.T) (F : Hp) (A : List Addr) (os : List (Option D)) (env' : List Sl) (T' : Z.T),
  Rel Z ad env T F σ H A ∧ evAs as env T = some (os, env', T') ∧ ∀ vs H' F' A', Rel Z ad env' T' F' σ H' A' → Stp Z ad A F H A' F' H' → ArgVs Z ad F' σ as os vs → Q vs H'
inductive IsAs (Z : TSys) (X : Cx) : List Expr → List (Arg Z) → Prop
  | nil : IsAs Z X [] []
  | cons {e : Expr} {es : List Expr} {a : Arg Z} {as : List (Arg Z)} : IsA Z X e a → IsAs Z X es as → (starEach (e :: es) X.env = (false, eval e X.env) :: starEach es X.env) → IsAs Z X (e :: es) (a :: as)
theorem ia_cons {Z : TSys} {X : Cx} {e : Expr} {es : List Expr} {a : Arg Z} {as : List (Arg Z)} (h : IsA Z X e a) (hs : IsAs Z X es as) (hq : starEach (e :: es) X.env = (false, eval e X.env) :: starEach es X.env := by rfl) : IsAs Z X (e :: es) (a :: as) := .cons h hs hq
theorem ArgVs.mono {Z : TSys} {ad : Z.Ad} {F F' : Hp} {σ : L2.St} (s : Same F F') : ∀ {as : List (Arg Z)} {os : List (Option D)} {vs : List V}, ArgVs Z ad F σ as os vs → ArgVs Z ad F' σ as os vs
  | [], _, _, h => h
  | _ :: _, [], _, h => h.elim
  | a :: as, o :: os, _, h => by
    obtain ⟨v, r, e, h1, h2⟩ := h
    exact ⟨v, r, e, h1.mono s, h2.mono s⟩
theorem ArgVs.get {Z : TSys} {ad : Z.Ad} {env : List Sl} {T : Z.T} {F H : Hp} {σ : L2.St} {A : List Addr} (R : Rel Z ad env T F σ H A) : ∀ {as : List (Arg Z)} {os : List (Option D)} {vs : List V} {ds : List D}, ArgVs Z ad F σ as os vs → getAs as os env = some ds → HBL (Z.root ad) F H ds vs
  | [], _, _, _, h, g => by simp only [getAs, Option.some.injEq] at g; subst g; exact h
  | _ :: _, [], _, _, h, _ => h.elim
  | a :: as, o :: os, _, ds, h, g => by
    obtain ⟨v, r, e, h1, h2⟩ := h
    subst e
    simp only [getAs] at g
    cases q : getA a o env with
    | none => rw [q] at g; cases g
    | some d =>
      cases q2 : getAs as os env with
      | none => rw [q, q2] at g; cases g
      | some ds' =>
        rw [q, q2] at g
        simp only [Option.some.injEq] at g
        subst g
        exact ⟨v, r, rfl, h1.get R q, ArgVs.get R h2 q2⟩
theorem IsAs.pa {Z : TSys} {X : Cx} : ∀ {es : List Expr} {as : List (Arg Z)}, IsAs Z X es as → PA X es (denAs Z as)
  | _, _, .nil => PA.imp pa_nil fun σ H Q ⟨ad, env, T, F, A, r, env', T', R, e, k⟩ => by
    simp only [evAs, Option.some.injEq, Prod.mk.injEq] at e
    obtain ⟨rfl, rfl, rfl⟩ := e
    exact k [] H F A R Stp.refl rfl
  | _, _, .cons (a := a) (as := as) h hs hq => PA.imp (pa_cons h.pe (IsAs.pa hs) hq) fun σ H Q ⟨ad, env, T, F, A, r, env', T', R, e, k⟩ => by
    simp only [evAs] at e
    by_cases so : slotOk a env = true
    · rw [if_pos so] at e
      cases q : evA a env T with
      | none => rw [q] at e; cases e
      | some z =>
        obtain ⟨o, e1, t1⟩ := z
        rw [q] at e
        simp only at e
        cases q2 : evAs as e1 t1 with
        | none => rw [q2] at e; cases e
        | some z2 =>
          obtain ⟨os, e2, t2⟩ := z2
          rw [q2] at e
          simp only [Option.some.injEq, Prod.mk.injEq] at e
          obtain ⟨rfl, rfl, rfl⟩ := e
          refine ⟨ad, env, T, F, A, o, e1, t1, R, q, slotOk.has R so, fun v H' F' A' R' S' hv => ?_⟩
          exact ⟨ad, e1, t1, F', A', os, e2, t2, R', q2, fun vs H2 F2 A2 R2 S2 hvs => k (v :: vs) H2 F2 A2 R2 (R'.st S' S2 R2) ⟨v, vs, rfl, hv.mono S2.sF, hvs⟩⟩
    · rw [if_neg so] at e; cases e
theorem evN_run {Z : TSys} {as : List (Arg Z)} {env : List Sl} {T : Z.T} {ds : List D} {env' : List Sl} {T' : Z.T} (h : evN as env T = some (ds, env', T')) {ad : Z.Ad} {F H : Hp} {σ : L2.St} {A : List Addr} (R : Rel Z ad env T F σ H A) {Q : List V → Hp → Prop}
    (k : ∀ vs H' F' A', Rel Z ad env' T' F' σ H' A' → Stp Z ad A F H A' F' H' → HBL (Z.root ad) F' H' ds vs → Q vs H') : denAs Z as σ H Q := by
  unfold evN at h
  cases q : evAs as env T with
  | none => rw [q] at h; cases h
  | some z =>
    obtain ⟨os, e1, t1⟩ := z
    rw [q] at h
    simp only at h
    cases g : getAs as os e1 with
    | none => rw [g] at h; cases h
    | some ds' =>
      rw [g] at h
      simp only [Option.some.injEq, Prod.mk.injEq] at h
      obtain ⟨rfl, rfl, rfl⟩ := h
      exact ⟨ad, env, T, F, A, os, e1, t1, R, q, fun vs H' F' A' R' S' hv => k vs H' F' A' R' S' (hv.get R' g)⟩

/-! ### built-in functions -/
def mfn {Z : TSys} (g : List D → Option D) (as : List (Arg Z)) : M Z := fun e t => match evN as e t with
  | some (ds, e1, t1) => match g ds with
    | some d => some (d, e1, t1)
    | none => none
  | none => none
def mfnL {Z : TSys} (g : List D → Option (List D)) (as : List (Arg Z)) : M Z := fun e t => match evN as e t with
  | some (ds, e1, t1) => match g ds with
    | some d => some (.lst d, e1, t1)
    | none => none
  | none => none
section
variable {Z : TSys} {X : Cx} {x : Str} {p pos : Pos} {e : Expr} {es : List Expr} {id T : String} {r : List V → Hp → VK → Prop} {g : List D → Option D} {gl : List D → Option (List D)} {as : List (Arg Z)}
theorem mfn_inv {env : List Sl} {t : Z.T} {d : D} {env' : List Sl} {t' : Z.T} (h : mfn g as env t = some (d, env', t')) : ∃ ds, evN as env t = some (ds, env', t') ∧ g ds = some d := by
  unfold mfn at h
  cases q : evN as env t with
  | none => rw [q] at h; cases h
  | some z =>
    obtain ⟨ds, e1, t1⟩ := z
    rw [q] at h
    simp only at h
    cases q2 : g ds with
    | none => rw [q2] at h; cases h
    | some d' =>
      rw [q2] at h
      simp only [Option.some.injEq, Prod.mk.injEq] at h
      obtain ⟨rfl, rfl, rfl⟩ := h
      exact ⟨ds, rfl, q2⟩
theorem mfnL_inv {env : List Sl} {t : Z.T} {d : D} {env' : List Sl} {t' : Z.T} (h : mfnL gl as env t = some (d, env', t')) : ∃ ds us, evN as env t = some (ds, env', t') ∧ gl ds = some us ∧ d = .lst us := by
  unfold mfnL at h
  cases q : evN as env t with
  | none => rw [q] at h; cases h
  | some z =>
    obtain ⟨ds, e1, t1⟩ := z
    rw [q] at h
    simp only at h
    cases q2 : gl ds with
    | none => rw [q2] at h; cases h
    | some d' =>
      rw [q2] at h
      simp only [Option.some.injEq, Prod.mk.injEq] at h
      obtain ⟨rfl, rfl, rfl⟩ := h
      exact ⟨ds, d', rfl, q2, rfl⟩
theorem fn_core (hd : CallD r g) {σ : L2.St} {H : Hp} {Q : VK} (h : den Z (mfn g as) σ H Q) : tCB r (denAs Z as) σ H Q := by
  obtain ⟨ad, env, T, F, A0, d, env', T', R, e, k⟩ := h
  obtain ⟨ds, e1, e2⟩ := mfn_inv e
  refine evN_run (Q := fun vs H1 => r vs H1 Q) e1 R fun vs H' F' A' R' S' hv => ?_
  refine hd _ F' H' ds d vs Q R'.same hv e2 fun w F2 H2 n hw => ?_
  obtain ⟨R2, S2⟩ := R'.new n
  exact k w H2 F2 A' R2 (R'.st S' S2 R2) hw
theorem fnL_core (hd : CallN r gl) {σ : L2.St} {H : Hp} {Q : VK} (h : denO Z 1 (mfnL gl as) σ H Q) : tCB r (denAs Z as) σ H Q := by
  obtain ⟨ad, env, T, F, A0, d, env', T', R, e, k⟩ := h
  obtain ⟨ds, us, e1, e2, rfl⟩ := mfnL_inv e
  refine evN_run (Q := fun vs H1 => r vs H1 Q) e1 R fun vs H' F' A' R' S' hv => ?_
  refine hd _ F' H' ds us vs Q R'.same hv e2 fun p vs hp hl => ?_
  obtain ⟨R2, S2⟩ := R'.own hp (.lst vs)
  obtain ⟨n1, n2⟩ := R'.notin hp
  refine k _ _ F' A' [p] R2 (R'.st S' S2 R2) ⟨p, [], rfl, R'.same.free hp, rfl, vs, upd_same, OwnL.ofHolds hl⟩ (by simp) fun a ha => ?_
  have ea : a = p := by simpa using ha
  subst ea
  exact ⟨n1, S'.none hp, n2⟩
theorem ie_blt (hc : CallR X (.builtin id) r) (hd : CallD r g) (hg : Gl X x) (hm : X.mg x = none) (hv : bootBuiltins x = some (.builtin id)) (ha : IsAs Z X (e :: es) as) (hn : x ≠ "__name__" := by decide) (hdb : (x == ("__debug__" : Str)) = false := by decide)
    (he : starEach (e :: es) X.env = (false, eval e X.env) :: starEach es X.env := by rfl) (hpl : (backTo pos (starEach es X.env)).any (·.1) = false := by rfl) : IsE Z X (.Call (.Name x p) (e :: es) [] pos) (mfn g as) :=
  ⟨PE.imp (pe_callB hc hg hm hv ha.pa hn hdb he hpl) fun _ _ _ h => fn_core hd h⟩
theorem ie_ty (hc : CallR X (.type T) r) (hd : CallD r g) (hg : Gl X x) (hm : X.mg x = none) (hv : bootBuiltins x = some (.type T)) (ha : IsAs Z X (e :: es) as) (hn : x ≠ "__name__" := by decide) (hdb : (x == ("__debug__" : Str)) = false := by decide)
    (he : starEach (e :: es) X.env = (false, eval e X.env) :: starEach es X.env := by rfl) (hpl : (backTo pos (starEach es X.env)).any (·.1) = false := by rfl) : IsE Z X (.Call (.Name x p) (e :: es) [] pos) (mfn g as) :=
  ⟨PE.imp (pe_callTy hc hg hm hv ha.pa hn hdb he hpl) fun _ _ _ h => fn_core hd h⟩
theorem io_blt (hc : CallR X (.builtin id) r) (hd : CallN r gl) (hg : Gl X x) (hm : X.mg x = none) (hv : bootBuiltins x = some (.builtin id)) (ha : IsAs Z X (e :: es) as) (hn : x ≠ "__name__" := by decide) (hdb : (x == ("__debug__" : Str)) = false := by decide)
    (he : starEach (e :: es) X.env = (false, eval e X.env) :: starEach es X.env := by rfl) (hpl : (backTo pos (starEach es X.env)).any (·.1) = false := by rfl) : IsO Z 1 X (.Call (.Name x p) (e :: es) [] pos) (mfnL gl as) :=
  ⟨PE.imp (pe_callB hc hg hm hv ha.pa hn hdb he hpl) fun _ _ _ h => fnL_core hd h⟩
theorem io_ty (hc : CallR X (.type T) r) (hd : CallN r gl) (hg : Gl X x) (hm : X.mg x = none) (hv : bootBuiltins x = some (.type T)) (ha : IsAs Z X (e :: es) as) (hn : x ≠ "__name__" := by decide) (hdb : (x == ("__debug__" : Str)) = false := by decide)
    (he : starEach (e :: es) X.env = (false, eval e X.env) :: starEach es X.env := by rfl) (hpl : (backTo pos (starEach es X.env)).any (·.1) = false := by rfl) : IsO Z 1 X (.Call (.Name x p) (e :: es) [] pos) (mfnL gl as) :=
  ⟨PE.imp (pe_callTy hc hg hm hv ha.pa hn hdb he hpl) fun _ _ _ h => fnL_core hd h⟩
end

/-! ### operators that give a new list -/
def mopL {Z : TSys} (g : D → D → Option (List D)) (a b : Arg Z) : M Z := mop (fun x y => (g x y).map .lst) a b
section
variable {Z : TSys} {X : Cx} {a b : Expr} {A B : Arg Z} {pos : Pos} {r : R2} {g : D → D → Option (List D)}
theorem io_op {op : Operator} (ho : OpR X (binaryOp op) r) (hd : OpN r g) (ha : IsA Z X a A) (hb : IsA Z X b B) : IsO Z 1 X (.BinOp a op b pos) (mopL g A B) :=
  ⟨PE.imp (pe_op ho ha.pe hb.pe) fun σ H Q h => by
    obtain ⟨ad, env, T, F, A0, d, env', T', R, e, k⟩ := h
    obtain ⟨x, y, e1, e2⟩ := mop_inv e
    cases q : g x y with
    | none => rw [q] at e2; cases e2
    | some us =>
      rw [q] at e2
      simp only [Option.map_some, Option.some.injEq] at e2
      subst e2
      refine ev2_run (Q := fun x y H2 => r x y H2 Q) e1 R fun v u H' F' A' R' S' hv hu => ?_
      refine hd _ F' H' x y us v u Q R'.same hv hu q fun p vs hp hl => ?_
      obtain ⟨R2, S2⟩ := R'.own hp (.lst vs)
      obtain ⟨n1, n2⟩ := R'.notin hp
      refine k _ _ F' A' [p] R2 (R'.st S' S2 R2) ⟨p, [], rfl, R'.same.free hp, rfl, vs, upd_same, OwnL.ofHolds hl⟩ (by simp) fun a ha => ?_
      have ea : a = p := by simpa using ha
      subst ea
      exact ⟨n1, S'.none hp, n2⟩⟩
end

/-! ### subscripts -/
theorem ie_ix {Z : TSys} {X : Cx} {a b : Expr} {A B : Arg Z} {pos : Pos} {r : R2} {g : D → D → Option D} (hr : IxR X r) (hd : OpD r g) (ha : IsA Z X a A) (hb : IsA Z X b B) (hs : PlainIx b := by exact fun _ _ => rfl) : IsE Z X (.Subscript a b pos) (mop g A B) :=
  ⟨PE.imp (pe_ix hr ha.pe hb.pe hs) fun _ _ _ h => op_core hd h⟩

/-! ### slices -/
def SlD (r : V → Option Int → Option Int → Hp → VK → Prop) (g : D → Option Int → Option Int → Option D) : Prop := ∀ (rt : V) (F H : Hp) (dx d : D) (x : V) (lo hi : Option Int) (Q : VK), Same F H → HB rt F H dx x → g dx lo hi = some d →
  (∀ v F' H', New F H F' H' → Holds rt F' d v → Q v H') → r x lo hi H Q
abbrev MO (Z : TSys) := List Sl → Z.T → Option (Option Int × List Sl × Z.T)
def denP (Z : TSys) (m : MO Z) : TO := fun σ H Q => ∃ (ad : Z.Ad) (env : List Sl) (T : Z.T) (F : Hp) (A : List Addr) (r : Option Int) (env' : List Sl) (T' : Z.T),
  Rel Z ad env T F σ H A ∧ m env T = some (r, env', T') ∧ ∀ H' F' A', Rel Z ad env' T' F' σ H' A' → Stp Z ad A F H A' F' H' → Q r H'
structure IsP (Z : TSys) (X : Cx) (e : Option Expr) (m : MO Z) : Prop where
  po : PO X e (denP Z m)
theorem PO.imp {X : Cx} {e : Option Expr} {t u : TO} (h : PO X e t) (f : ∀ σ H Q, u σ H Q → t σ H Q) : PO X e u := ⟨fun pins s σ H Q I q => h.run pins s σ H Q I (f _ _ _ q)⟩
def onone {Z : TSys} : MO Z := fun e t => some (none, e, t)
def osome {Z : TSys} (m : M Z) : MO Z := fun e t => match m e t with
  | some (.int i, e', t') => some (some i, e', t')
  | _ => none
def mslice {Z : TSys} (g : D → Option Int → Option Int → Option D) (a : Arg Z) (lo hi : MO Z) : M Z := fun e t => if slotOk a e then match evA a e t with
  | some (o, e1, t1) => match lo e1 t1 with
    | some (l, e2, t2) => match hi e2 t2 with
      | some (h, e3, t3) => match getA a o e3 with
        | some d => match g d l h with
          | some r => some (r, e3, t3)
          | none => none
        | none => none
      | none => none
    | none => none
  | none => none
  else none
section
variable {Z : TSys} {X : Cx} {e : Expr} {lo hi : Option Expr} {A : Arg Z} {pos p2 : Pos}
theorem ip_none : IsP Z X none onone := ⟨PO.imp po_none fun σ H Q ⟨ad, env, T, F, A, r, env', T', R, e, k⟩ => by
  simp only [onone, Option.some.injEq, Prod.mk.injEq] at e
  obtain ⟨rfl, rfl, rfl⟩ := e
  exact k H F A R Stp.refl⟩
theorem ip_some {m : M Z} (h : IsE Z X e m) : IsP Z X (some e) (osome m) := ⟨PO.imp (po_some h.pe) fun σ H Q ⟨ad, env, T, F, A, r, env', T', R, e, k⟩ => by
  unfold osome at e
  split at e
  · rename_i i e1 t1 q
    simp only [Option.some.injEq, Prod.mk.injEq] at e
    obtain ⟨rfl, rfl, rfl⟩ := e
    exact ⟨ad, env, T, F, A, .int i, e1, t1, R, q, fun v H' F' A' R' S' hv => ⟨i, by simpa only [Holds] using hv, k H' F' A' R' S'⟩⟩
  · cases e⟩
theorem ie_slice {r : V → Option Int → Option Int → Hp → VK → Prop} {g : D → Option Int → Option Int → Option D} {ml mh : MO Z} (hr : SlR X r) (hd : SlD r g) (ha : IsA Z X e A) (hl : IsP Z X lo ml) (hh : IsP Z X hi mh) :
    IsE Z X (.Subscript e (.Slice lo hi none p2) pos) (mslice g A ml mh) := ⟨PE.imp (pe_slice hr ha.pe hl.po hh.po) fun σ H Q ⟨ad, env, T, F, A0, d, env', T', R, e, k⟩ => by
  unfold mslice at e
  by_cases so : slotOk A env = true
  · rw [if_pos so] at e
    cases q : evA A env T with
    | none => rw [q] at e; cases e
    | some z =>
      obtain ⟨o, e1, t1⟩ := z
      rw [q] at e
      simp only at e
      cases q2 : ml e1 t1 with
      | none => rw [q2] at e; cases e
      | some z2 =>
        obtain ⟨l, e2, t2⟩ := z2
        rw [q2] at e
        simp only at e
        cases q3 : mh e2 t2 with
        | none => rw [q3] at e; cases e
        | some z3 =>
          obtain ⟨h, e3, t3⟩ := z3
          rw [q3] at e
          simp only at e
          cases q4 : getA A o e3 with
          | none => rw [q4] at e; cases e
          | some d0 =>
            rw [q4] at e
            simp only at e
            cases q5 : g d0 l h with
            | none => rw [q5] at e; cases e
            | some d1 =>
              rw [q5] at e
              simp only [Option.some.injEq, Prod.mk.injEq] at e
              obtain ⟨rfl, rfl, rfl⟩ := e
              refine ⟨ad, env, T, F, A0, o, e1, t1, R, q, slotOk.has R so, fun v H' F' A' R' S' hv => ?_⟩
              refine ⟨ad, e1, t1, F', A', l, e2, t2, R', q2, fun H2 F2 A2 R2 S2 => ?_⟩
              refine ⟨ad, e2, t2, F2, A2, h, e3, t3, R2, q3, fun H3 F3 A3 R3 S3 => ?_⟩
              refine hd _ F3 H3 d0 d1 v l h Q R3.same ((hv.mono (S2.sF.trans S3.sF)).get R3 q4) q5 fun w F4 H4 n hw => ?_
              obtain ⟨R4, S4⟩ := R3.new n
              exact k w H4 F4 A3 R4 ((S'.trans S2).trans (S3.trans S4)) hw
  · rw [if_neg so] at e; cases e⟩
end

/-! ### a < b < c -/
def mchain {Z : TSys} (g g' : D → D → Option D) (a b c : Arg Z) : M Z := fun e t => if slotOk a e then match evA a e t with
  | some (o, e1, t1) => if slotOk b e1 then match evA b e1 t1 with
    | some (o2, e2, t2) => match getA a o e2, getA b o2 e2 with
      | some d, some d2 => match g d d2 with
        | some (.bl true) => if slotOk c e2 then match evA c e2 t2 with
          | some (o3, e3, t3) => match getA b o2 e3, getA c o3 e3 with
            | some d2', some d3 => match g' d2' d3 with
              | some r => some (r, e3, t3)
              | none => none
            | _, _ => none
          | none => none
          else none
        | some (.bl false) => some (.bl false, e2, t2)
        | _ => none
      | _, _ => none
    | none => none
    else none
  | none => none
  else none
section
variable {Z : TSys} {X : Cx} {a b c : Expr} {A B C : Arg Z} {pos : Pos} {r r' : R2} {g g' : D → D → Option D}
theorem chain_core (hd : OpD r g) (hd' : OpD r' g') {σ : L2.St} {H : Hp} {Q : VK} (h : den Z (mchain g g' A B C) σ H Q) : tChain r r' (denA Z A) (denA Z B) (denA Z C) σ H Q := by
  obtain ⟨ad, env, T, F, A0, d, env', T', R, e, k⟩ := h
  unfold mchain at e
  by_cases so : slotOk A env = true
  · rw [if_pos so] at e
    cases q : evA A env T with
    | none => rw [q] at e; cases e
    | some z =>
      obtain ⟨o, e1, t1⟩ := z
      rw [q] at e
      simp only at e
      by_cases so2 : slotOk B e1 = true
      · rw [if_pos so2] at e
        cases q2 : evA B e1 t1 with
        | none => rw [q2] at e; cases e
        | some z2 =>
          obtain ⟨o2, e2, t2⟩ := z2
          rw [q2] at e
          simp only at e
          cases g1 : getA A o e2 with
          | none => rw [g1] at e; cases e
          | some d1 =>
            cases g2 : getA B o2 e2 with
            | none => rw [g1, g2] at e; cases e
            | some d2 =>
              rw [g1, g2] at e
              simp only at e
              refine ⟨ad, env, T, F, A0, o, e1, t1, R, q, slotOk.has R so, fun v H' F' A' R' S' hv => ?_⟩
              refine ⟨ad, e1, t1, F', A', o2, e2, t2, R', q2, slotOk.has R' so2, fun u H2 F2 A2 R2 S2 hu => ?_⟩
              cases gg : g d1 d2 with
              | none => rw [gg] at e; cases e
              | some db =>
                rw [gg] at e
                refine hd _ F2 H2 d1 d2 db v u _ R2.same ((hv.mono S2.sF).get R2 g1) (hu.get R2 g2) gg fun w F3 H3 n hw => ?_
                obtain ⟨R3, S3⟩ := R2.new n
                cases db with
                | bl bb =>
                  refine ⟨bb, by simpa only [Holds] using hw, ?_⟩
                  cases bb with
                  | false =>
                    simp only [Option.some.injEq, Prod.mk.injEq] at e
                    obtain ⟨rfl, rfl, rfl⟩ := e
                    exact k _ H3 F3 A2 R3 ((S'.trans S2).trans S3) (by simp only [Holds])
                  | true =>
                    simp only at e
                    by_cases so3 : slotOk C e2 = true
                    · rw [if_pos so3] at e
                      cases q3 : evA C e2 t2 with
                      | none => rw [q3] at e; cases e
                      | some z3 =>
                        obtain ⟨o3, e3, t3⟩ := z3
                        rw [q3] at e
                        simp only at e
                        cases g3 : getA B o2 e3 with
                        | none => rw [g3] at e; cases e
                        | some d2' =>
                          cases g4 : getA C o3 e3 with
                          | none => rw [g3, g4] at e; cases e
                          | some d3 =>
                            rw [g3, g4] at e
                            simp only at e
                            cases gr : g' d2' d3 with
                            | none => rw [gr] at e; cases e
                            | some dr =>
                              rw [gr] at e
                              simp only [Option.some.injEq, Prod.mk.injEq] at e
                              obtain ⟨rfl, rfl, rfl⟩ := e
                              refine ⟨ad, e2, t2, F3, A2, o3, e3, t3, R3, q3, slotOk.has R3 so3, fun y H4 F4 A4 R4 S4 hy => ?_⟩
                              refine hd' _ F4 H4 d2' d3 dr u y Q R4.same ((hu.mono (S3.sF.trans S4.sF)).get R4 g3) (hy.get R4 g4) gr fun w' F5 H5 n5 hw' => ?_
                              obtain ⟨R5, S5⟩ := R4.new n5
                              exact k w' H5 F5 A4 R5 (((S'.trans S2).trans S3).trans (S4.trans S5)) hw'
                    · rw [if_neg so3] at e; cases e
                | _ => cases e
      · rw [if_neg so2] at e; cases e
  · rw [if_neg so] at e; cases e
end

/-! ### defs of the text -/
abbrev FnM (Z : TSys) := List D → Z.T → Option (D × Z.T)
def spD (Z : TSys) (n : Nat) (f : FnM Z) : Sp := fun vs H Q _ => vs.length = n ∧ ∃ (ad : Z.Ad) (ds : List D) (T : Z.T) (F : Hp) (r : D) (T' : Z.T),
  HoldsL (Z.root ad) F ds vs ∧ Rel Z ad [] T F [] H [] ∧ f ds T = some (r, T') ∧ ∀ v H' F', Rel Z ad [] T' F' [] H' [] → Stp Z ad [] F H [] F' H' → Holds (Z.root ad) F' r v → Q v H'
structure Fn (Z : TSys) (P : Program) (w : World) (K : PySem.W.Frag) (mg : Str → Option Value) (base : Heap) (A : Around) (x : Str) (n : Nat) (f : FnM Z) : Prop where
  ex : ∃ (k : Nat) (fa : Addr) (fd : FuncData) (ps : List Str), ps.length = n ∧ FnOk P w K mg base CX0 k fa fd ps (spD Z n f) ∧ Room k A ∧ mg x = some (.ref fa) ∧ PySem.W.keepIn K (.ref fa) = true ∧ Binds K fd ps []
def mcall {Z : TSys} (n : Nat) (f : FnM Z) (l : ML Z) : M Z := fun e t => match l e t with
  | some (ds, e1, t1) => if ds.length = n then match f ds t1 with
    | some (r, t2) => some (r, e1, t2)
    | none => none
    else none
  | none => none
section
variable {Z : TSys} {ad : Z.Ad} {env : List Sl} {T T1 : Z.T} {F H F1 H1 : Hp} {σ : L2.St} {A : List Addr}
theorem Rel.bare (R : Rel Z ad env T F σ H A) : Rel Z ad [] T F [] H [] := ⟨R.same, ⟨rfl, rfl⟩, List.nodup_nil, R.tp, fun a ha => ⟨(R.tf a ha).1, by simp⟩⟩
theorem Rel.back (R : Rel Z ad env T F σ H A) (R1 : Rel Z ad [] T1 F1 [] H1 []) (S : Stp Z ad [] F H [] F1 H1) : Rel Z ad env T1 F1 σ H1 A ∧ Stp Z ad A F H A F1 H1 := by
  refine ⟨⟨R1.same, R.env.keep S.sF fun a ha => ?_, R.nd, R1.tp, fun b hb => ⟨(R1.tf b hb).1, (R.tf b hb).2⟩⟩, S.sF, fun a h => ?_, fun a h => .inl h, fun a o h _ ht => S.fr a o h (by simp) ht, S.ex⟩
  · obtain ⟨f, o, ho⟩ := R.at a ha
    refine ⟨(S.fr a o ho (by simp) fun z => (R.tf a z).2 ha).trans ho.symm, ?_⟩
    cases q : F1 a with
    | none => rfl
    | some x =>
      rcases S.nF a (by rw [q]; exact fun z => by cases z) with z | z | z
      · exact absurd f z
      · simp at z
      · rw [ho] at z; cases z
  · rcases S.nF a h with z | z | z
    · exact .inl z
    · simp at z
    · exact .inr (.inr z)
end
theorem ie_call {Z : TSys} {X : Cx} {x : Str} {n : Nat} {f : FnM Z} {e : Expr} {es : List Expr} {l : ML Z} {p pos : Pos} (hf : Fn Z X.prog X.w X.K X.mg X.base X.A x n f) (hg : Gl X x) (ha : IsL Z X (e :: es) l) (hdb : (x == ("__debug__" : Str)) = false := by decide)
    (he : starEach (e :: es) X.env = (false, eval e X.env) :: starEach es X.env := by rfl) (hpl : (backTo pos (starEach es X.env)).any (·.1) = false := by rfl) : IsE Z X (.Call (.Name x p) (e :: es) [] pos) (mcall n f l) := by
  obtain ⟨k, fa, fd, ps, hn, F, hr, hm, hk, hb⟩ := hf.ex
  refine ⟨PE.imp (pe_call F hr hg hm hk hb .nil pass0 ha.pa hdb he hpl) fun σ H Q ⟨ad, env, T, F0, A, r, env', T', R, e, kk⟩ => ?_⟩
  unfold mcall at e
  cases q : l env T with
  | none => rw [q] at e; cases e
  | some z =>
    obtain ⟨ds, e1, t1⟩ := z
    rw [q] at e
    simp only at e
    by_cases hl : ds.length = n
    · rw [if_pos hl] at e
      cases q2 : f ds t1 with
      | none => rw [q2] at e; cases e
      | some z2 =>
        obtain ⟨d, t2⟩ := z2
        rw [q2] at e
        simp only [Option.some.injEq, Prod.mk.injEq] at e
        obtain ⟨rfl, rfl, rfl⟩ := e
        refine ⟨ad, env, T, F0, A, ds, e1, t1, R, q, fun vs H' F' A' R' S' hv => ?_⟩
        show spD Z n f (vs ++ []) H' Q E0
        rw [List.append_nil]
        refine ⟨by rw [hv.length, hl], ad, ds, t1, F', d, t2, hv, R'.bare, q2, fun v H2 F2 R2 S2 hw => ?_⟩
        obtain ⟨R3, S3⟩ := R'.back R2 S2
        exact kk v H2 F2 A' R3 (S'.trans S3) hw
    · rw [if_neg hl] at e; cases e
end DL

/-! The data layer, 5: statements, targets, loops, comprehensions, defs. -/
namespace DL
open PySem L2

/-! ### slots set -/
section
variable {Z : TSys} {ad : Z.Ad} {env : List Sl} {T : Z.T} {F H : Hp} {σ : L2.St} {A : List Addr}
theorem set_out {α : Type} {l : List α} {i : Nat} {x : α} (h : l[i]? = none) : l.set i x = l := by
  rw [List.set_eq_of_length_le]; simpa using h
theorem Rel.setSh (R : Rel Z ad env T F σ H A) (i : Nat) {d : D} {v : V} (hv : Holds (Z.root ad) F d v) : ∃ A', Rel Z ad (env.set i (.sh d)) T F (σ.set i (some v)) H A' ∧ Stp Z ad A F H A' F H := by
  cases q : env[i]? with
  | none =>
    have q2 : σ[i]? = none := by
      rw [List.getElem?_eq_none_iff] at q ⊢
      rw [R.env.length]; exact q
    rw [set_out q, set_out q2]
    exact ⟨A, R, Stp.refl⟩
  | some x =>
    obtain ⟨o, A0, A1, A2, e1, eA, _, re⟩ := R.env.split q
    subst eA
    have sub : ∀ a ∈ A0 ++ [] ++ A2, a ∈ A0 ++ A1 ++ A2 := fun a ha => by
      simp only [List.append_nil, List.mem_append] at ha ⊢
      rcases ha with z | z
      · exact .inl (.inl z)
      · exact .inr z
    refine ⟨A0 ++ [] ++ A2, ⟨R.same, re (Same.refl _) (fun a ha => ⟨rfl, ?_⟩) ⟨rfl, v, rfl, hv⟩, ?_, R.tp, fun b hb => ⟨(R.tf b hb).1, fun z => (R.tf b hb).2 (sub b z)⟩⟩, Same.refl _, fun a h => .inl h, fun a ha => .inl (sub a ha), fun a o h _ _ => h, fun a o h => ⟨o, h⟩⟩
    · exact (R.at a (sub a (by simpa using ha))).1
    · have nd := R.nd
      rw [List.append_nil]
      rw [List.nodup_append, List.nodup_append] at nd
      rw [List.nodup_append]
      exact ⟨nd.1.1, nd.2.1, fun a h1 b h2 => nd.2.2 a (List.mem_append_left _ h1) b h2⟩
theorem Rel.setNo (R : Rel Z ad env T F σ H A) (i : Nat) (o' : Option V) : ∃ A', Rel Z ad (env.set i .no) T F (σ.set i o') H A' ∧ Stp Z ad A F H A' F H := by
  cases q : env[i]? with
  | none =>
    have q2 : σ[i]? = none := by
      rw [List.getElem?_eq_none_iff] at q ⊢
      rw [R.env.length]; exact q
    rw [set_out q, set_out q2]
    exact ⟨A, R, Stp.refl⟩
  | some x =>
    obtain ⟨o, A0, A1, A2, e1, eA, _, re⟩ := R.env.split q
    subst eA
    have sub : ∀ a ∈ A0 ++ [] ++ A2, a ∈ A0 ++ A1 ++ A2 := fun a ha => by
      simp only [List.append_nil, List.mem_append] at ha ⊢
      rcases ha with z | z
      · exact .inl (.inl z)
      · exact .inr z
    refine ⟨A0 ++ [] ++ A2, ⟨R.same, re (Same.refl _) (fun a ha => ⟨rfl, ?_⟩) rfl, ?_, R.tp, fun b hb => ⟨(R.tf b hb).1, fun z => (R.tf b hb).2 (sub b z)⟩⟩, Same.refl _, fun a h => .inl h, fun a ha => .inl (sub a ha), fun a o h _ _ => h, fun a o h => ⟨o, h⟩⟩
    · exact (R.at a (sub a (by simpa using ha))).1
    · have nd := R.nd
      rw [List.append_nil]
      rw [List.nodup_append, List.nodup_append] at nd
      rw [List.nodup_append]
      exact ⟨nd.1.1, nd.2.1, fun a h1 b h2 => nd.2.2 a (List.mem_append_left _ h1) b h2⟩
theorem Rel.setOw (R : Rel Z ad env T F σ H A) (i : Nat) {n : Nat} {d : D} {v : V} {B : List Addr} (hv : Own (Z.root ad) F H n d v B) (nB : B.Nodup) (hB : ∀ a ∈ B, a ∉ A ∧ a ∉ Z.addrs ad) :
    ∃ A', Rel Z ad (env.set i (.ow n d)) T F (σ.set i (some v)) H A' ∧ Same F F ∧ (∀ a ∈ A', a ∈ A ∨ a ∈ B) := by
  cases q : env[i]? with
  | none =>
    have q2 : σ[i]? = none := by
      rw [List.getElem?_eq_none_iff] at q ⊢
      rw [R.env.length]; exact q
    rw [set_out q, set_out q2]
    exact ⟨A, R, Same.refl _, fun a h => .inl h⟩
  | some x =>
    obtain ⟨o, A0, A1, A2, e1, eA, _, re⟩ := R.env.split q
    subst eA
    have nd := R.nd
    rw [List.nodup_append, List.nodup_append] at nd
    have inA : ∀ a, a ∈ A0 ∨ a ∈ A2 → a ∈ A0 ++ A1 ++ A2 := fun a ha => by
      simp only [List.mem_append]
      rcases ha with z | z
      · exact .inl (.inl z)
      · exact .inr z
    refine ⟨A0 ++ B ++ A2, ⟨R.same, re (Same.refl _) (fun a ha => ⟨rfl, ?_⟩) ⟨v, rfl, hv⟩, ?_, R.tp, fun b hb => ⟨(R.tf b hb).1, fun z => ?_⟩⟩, Same.refl _, fun a ha => ?_⟩
    · exact (R.at a (inA a (List.mem_append.mp ha))).1
    · rw [List.nodup_append, List.nodup_append]
      refine ⟨⟨nd.1.1, nB, fun a h1 b h2 e => (hB b h2).1 (inA b (.inl (e ▸ h1)))⟩, nd.2.1, fun a h1 b h2 e => ?_⟩
      rcases List.mem_append.mp h1 with z | z
      · exact nd.2.2 a (List.mem_append_left _ z) b h2 e
      · exact (hB a z).1 (inA a (.inr (e ▸ h2)))
    · simp only [List.mem_append] at z
      rcases z with (z | z) | z
      · exact (R.tf b hb).2 (inA b (.inl z))
      · exact (hB b z).2 hb
      · exact (R.tf b hb).2 (inA b (.inr z))
    · simp only [List.mem_append] at ha
      rcases ha with (z | z) | z
      · exact .inl (inA a (.inl z))
      · exact .inr z
      · exact .inl (inA a (.inr z))
end

/-! ### statements -/
inductive Fl where
  | nx | bk | ct | rt (d : D)
abbrev SM (Z : TSys) := List Sl → Z.T → Option (Fl × List Sl × Z.T)
def endS (Dn : Ends) (rt : V) (F : Hp) (σ : L2.St) (H : Hp) : Fl → Prop
  | .nx => Dn.nx σ H
  | .bk => Dn.bk σ H
  | .ct => Dn.ct σ H
  | .rt d => ∀ v, Holds rt F d v → Dn.rt v H
def denS (Z : TSys) (m : SM Z) : TS := fun Dn σ H => ∃ (ad : Z.Ad) (env : List Sl) (T : Z.T) (F : Hp) (A : List Addr) (fl : Fl) (env' : List Sl) (T' : Z.T),
  Rel Z ad env T F σ H A ∧ m env T = some (fl, env', T') ∧ ∀ σ' H' F' A', Rel Z ad env' T' F' σ' H' A' → Stp Z ad A F H A' F' H' → endS Dn (Z.root ad) F' σ' H' fl
structure IsS (Z : TSys) (X : Cx) (st : Stmt) (m : SM Z) : Prop where
  ps : PS X st (denS Z m)
structure IsB (Z : TSys) (X : Cx) (sts : List Stmt) (m : SM Z) : Prop where
  ps : PSs X sts (denS Z m)
theorem PS.imp {X : Cx} {st : Stmt} {t u : TS} (h : PS X st t) (f : ∀ D σ H, u D σ H → t D σ H) : PS X st u := ⟨fun pins s σ H D I q => h.run pins s σ H D I (f _ _ _ q)⟩
theorem PSs.imp {X : Cx} {st : List Stmt} {t u : TS} (h : PSs X st t) (f : ∀ D σ H, u D σ H → t D σ H) : PSs X st u := ⟨fun pins s σ H D I q => h.run pins s σ H D I (f _ _ _ q)⟩
def snil {Z : TSys} : SM Z := fun e t => some (.nx, e, t)
def scons {Z : TSys} (a b : SM Z) : SM Z := fun e t => match a e t with
  | some (.nx, e1, t1) => b e1 t1
  | some (.bk, e1, t1) => some (.bk, e1, t1)
  | some (.ct, e1, t1) => some (.ct, e1, t1)
  | some (.rt d, e1, t1) => some (.rt d, e1, t1)
  | none => none
def sfl {Z : TSys} (f : Fl) : SM Z := fun e t => some (f, e, t)
def sret {Z : TSys} (m : M Z) : SM Z := fun e t => match m e t with
  | some (d, e1, t1) => some (.rt d, e1, t1)
  | none => none
def sset {Z : TSys} (i : Nat) (m : M Z) : SM Z := fun e t => match m e t with
  | some (d, e1, t1) => some (.nx, e1.set i (.sh d), t1)
  | none => none
def ssetO {Z : TSys} (i n : Nat) (m : M Z) : SM Z := fun e t => match m e t with
  | some (d, e1, t1) => some (.nx, e1.set i (.ow n d), t1)
  | none => none
def sdrop {Z : TSys} (m : M Z) : SM Z := fun e t => match m e t with
  | some (d, e1, t1) => some (.nx, e1, t1)
  | none => none
def sif {Z : TSys} (c : MB Z) (a b : SM Z) : SM Z := fun e t => match c e t with
  | some (true, e1, t1) => a e1 t1
  | some (false, e1, t1) => b e1 t1
  | none => none
section
variable {Z : TSys} {X : Cx} {st : Stmt} {rest : List Stmt} {e c : Expr} {pos pos' : Pos}
theorem ib_nil : IsB Z X [] snil := ⟨PSs.imp pss_nil fun D σ H ⟨ad, env, T, F, A, fl, env', T', R, e, k⟩ => by
  simp only [snil, Option.some.injEq, Prod.mk.injEq] at e
  obtain ⟨rfl, rfl, rfl⟩ := e
  exact k σ H F A R Stp.refl⟩
theorem ib_cons {a b : SM Z} (h1 : IsS Z X st a) (h2 : IsB Z X rest b) : IsB Z X (st :: rest) (scons a b) := ⟨PSs.imp (pss_cons h1.ps h2.ps) fun D σ H ⟨ad, env, T, F, A, fl, env', T', R, e, k⟩ => by
  unfold scons at e
  cases q : a env T with
  | none => rw [q] at e; cases e
  | some z =>
    obtain ⟨f1, e1, t1⟩ := z
    rw [q] at e
    refine ⟨ad, env, T, F, A, f1, e1, t1, R, q, fun σ' H' F' A' R' S' => ?_⟩
    cases f1 with
    | nx => exact ⟨ad, e1, t1, F', A', fl, env', T', R', e, fun σ2 H2 F2 A2 R2 S2 => k σ2 H2 F2 A2 R2 (S'.trans S2)⟩
    | bk => simp only [Option.some.injEq, Prod.mk.injEq] at e; obtain ⟨rfl, rfl, rfl⟩ := e; exact k σ' H' F' A' R' S'
    | ct => simp only [Option.some.injEq, Prod.mk.injEq] at e; obtain ⟨rfl, rfl, rfl⟩ := e; exact k σ' H' F' A' R' S'
    | rt d => simp only [Option.some.injEq, Prod.mk.injEq] at e; obtain ⟨rfl, rfl, rfl⟩ := e; exact k σ' H' F' A' R' S'⟩
theorem ib_one {a : SM Z} (h1 : IsS Z X st a) : IsB Z X [st] a := ⟨pss_one h1.ps⟩
theorem is_break : IsS Z X (.Break pos) (sfl .bk) := ⟨PS.imp ps_break fun D σ H ⟨ad, env, T, F, A, fl, env', T', R, e, k⟩ => by
  simp only [sfl, Option.some.injEq, Prod.mk.injEq] at e
  obtain ⟨rfl, rfl, rfl⟩ := e
  exact k σ H F A R Stp.refl⟩
theorem is_continue : IsS Z X (.Continue pos) (sfl .ct) := ⟨PS.imp ps_continue fun D σ H ⟨ad, env, T, F, A, fl, env', T', R, e, k⟩ => by
  simp only [sfl, Option.some.injEq, Prod.mk.injEq] at e
  obtain ⟨rfl, rfl, rfl⟩ := e
  exact k σ H F A R Stp.refl⟩
theorem is_pass : IsS Z X (.Pass pos) (sfl .nx) := ⟨PS.imp ps_pass fun D σ H ⟨ad, env, T, F, A, fl, env', T', R, e, k⟩ => by
  simp only [sfl, Option.some.injEq, Prod.mk.injEq] at e
  obtain ⟨rfl, rfl, rfl⟩ := e
  exact k σ H F A R Stp.refl⟩
theorem is_ret {m : M Z} (h : IsE Z X e m) : IsS Z X (.Return (some e) pos) (sret m) := ⟨PS.imp (ps_ret h.pe) fun D σ H ⟨ad, env, T, F, A, fl, env', T', R, e, k⟩ => by
  unfold sret at e
  cases q : m env T with
  | none => rw [q] at e; cases e
  | some z =>
    obtain ⟨d, e1, t1⟩ := z
    rw [q] at e
    simp only [Option.some.injEq, Prod.mk.injEq] at e
    obtain ⟨rfl, rfl, rfl⟩ := e
    exact ⟨ad, env, T, F, A, d, e1, t1, R, q, fun v H' F' A' R' S' hv => k σ H' F' A' R' S' v hv⟩⟩
theorem is_drop {m : M Z} (h : IsE Z X e m) (hs : swapsWith e none pos.line X.env = pure false := by rfl) : IsS Z X (.Expr e pos) (sdrop m) := ⟨PS.imp (ps_expr h.pe hs) fun D σ H ⟨ad, env, T, F, A, fl, env', T', R, e, k⟩ => by
  unfold sdrop at e
  cases q : m env T with
  | none => rw [q] at e; cases e
  | some z =>
    obtain ⟨d, e1, t1⟩ := z
    rw [q] at e
    simp only [Option.some.injEq, Prod.mk.injEq] at e
    obtain ⟨rfl, rfl, rfl⟩ := e
    exact ⟨ad, env, T, F, A, d, e1, t1, R, q, fun v H' F' A' R' S' hv => k σ H' F' A' R' S'⟩⟩
theorem set_core {i : Nat} {m : M Z} {t : TE} (ht : ∀ σ H Q, den Z m σ H Q → t σ H Q) {D : Ends} {σ : L2.St} {H : Hp} (h : denS Z (sset i m) D σ H) : tAsg t (gName i) D σ H := by
  obtain ⟨ad, env, T, F, A, fl, env', T', R, e, k⟩ := h
  unfold sset at e
  cases q : m env T with
  | none => rw [q] at e; cases e
  | some z =>
    obtain ⟨d, e1, t1⟩ := z
    rw [q] at e
    simp only [Option.some.injEq, Prod.mk.injEq] at e
    obtain ⟨rfl, rfl, rfl⟩ := e
    refine ht σ H _ ⟨ad, env, T, F, A, d, e1, t1, R, q, fun v H' F' A' R' S' hv => ?_⟩
    obtain ⟨A2, R2, S2⟩ := R'.setSh i hv
    exact k (σ.set i (some v)) H' F' A2 R2 (S'.trans S2)
theorem setO_core {i n : Nat} {m : M Z} {t : TE} (ht : ∀ σ H Q, denO Z n m σ H Q → t σ H Q) {D : Ends} {σ : L2.St} {H : Hp} (h : denS Z (ssetO i n m) D σ H) : tAsg t (gName i) D σ H := by
  obtain ⟨ad, env, T, F, A, fl, env', T', R, e, k⟩ := h
  unfold ssetO at e
  cases q : m env T with
  | none => rw [q] at e; cases e
  | some z =>
    obtain ⟨d, e1, t1⟩ := z
    rw [q] at e
    simp only [Option.some.injEq, Prod.mk.injEq] at e
    obtain ⟨rfl, rfl, rfl⟩ := e
    refine ht σ H _ ⟨ad, env, T, F, A, d, e1, t1, R, q, fun v H' F' A' B R' S' ho nB hB => ?_⟩
    obtain ⟨A2, R2, _, inA⟩ := R'.setOw i ho nB fun a ha => ⟨(hB a ha).1, (hB a ha).2.2⟩
    refine k (σ.set i (some v)) H' F' A2 R2 ⟨S'.sF, fun a ha => S'.nF a ha, fun a ha => ?_, S'.fr, S'.ex⟩
    rcases inA a ha with z | z
    · exact S'.nA a z
    · exact .inr (hB a z).2.1
theorem is_set {i : Nat} {x : Str} {m : M Z} (hN : X.N.Nodup) (hi : X.N[i]? = some x) (hx : Loc X.env.scope x) (he : IsE Z X e m) (hs : swapsWith e (some (.Name x pos')) pos.line X.env = pure false := by rfl) (hf : X.fn x = true ∨ X.env.scope.names.lookup x = some .local := by first | exact .inl rfl | exact .inr rfl | assumption) :
    IsS Z X (.Assign [.Name x pos'] e pos) (sset i m) := ⟨PS.imp (ps_set hN hi hx he.pe hs hf) fun _ _ _ h => set_core (fun _ _ _ h => h) h⟩
theorem is_setO {i n : Nat} {x : Str} {m : M Z} (hN : X.N.Nodup) (hi : X.N[i]? = some x) (hx : Loc X.env.scope x) (he : IsO Z n X e m) (hs : swapsWith e (some (.Name x pos')) pos.line X.env = pure false := by rfl) (hf : X.fn x = true ∨ X.env.scope.names.lookup x = some .local := by first | exact .inl rfl | exact .inr rfl | assumption) :
    IsS Z X (.Assign [.Name x pos'] e pos) (ssetO i n m) := ⟨PS.imp (ps_set hN hi hx he.pe hs hf) fun _ _ _ h => setO_core (fun _ _ _ h => h) h⟩
theorem is_if {k : MB Z} {a b : List Stmt} {ma mb : SM Z} (hc : IsT Z X c k) (ha : IsB Z X a ma) (hb : IsB Z X b mb) : IsS Z X (.If c a b pos) (sif k ma mb) := ⟨PS.imp (ps_if hc.pt ha.ps hb.ps) fun D σ H ⟨ad, env, T, F, A, fl, env', T', R, e, kk⟩ => by
  unfold sif at e
  cases q : k env T with
  | none => rw [q] at e; cases e
  | some z =>
    obtain ⟨b, e1, t1⟩ := z
    rw [q] at e
    refine ⟨ad, env, T, F, A, b, e1, t1, R, q, fun H' F' A' R' S' => ?_⟩
    cases b with
    | true => exact ⟨ad, e1, t1, F', A', fl, env', T', R', e, fun σ2 H2 F2 A2 R2 S2 => kk σ2 H2 F2 A2 R2 (S'.trans S2)⟩
    | false => exact ⟨ad, e1, t1, F', A', fl, env', T', R', e, fun σ2 H2 F2 A2 R2 S2 => kk σ2 H2 F2 A2 R2 (S'.trans S2)⟩⟩
end

/-! ### targets -/
abbrev G := D → List Sl → Option (List Sl)
def denG (Z : TSys) (is : List Nat) (g : G) : TG := fun v σ H Q => ∃ (ad : Z.Ad) (env : List Sl) (T : Z.T) (F : Hp) (A : List Addr) (d : D) (env' : List Sl),
  Rel Z ad env T F σ H A ∧ Holds (Z.root ad) F d v ∧ g d env = some env' ∧ ∀ σ' A', Rel Z ad env' T F σ' H A' → Stp Z ad A F H A' F H → σ'.length = σ.length → (∀ j, j ∉ is → σ'[j]? = σ[j]?) → Q σ' H
structure IsG (Z : TSys) (X : Cx) (tg : Expr) (is : List Nat) (g : G) : Prop where
  pg : PG X tg (denG Z is g)
theorem PG.imp {X : Cx} {tg : Expr} {t u : TG} (h : PG X tg t) (f : ∀ v σ H Q, u v σ H Q → t v σ H Q) : PG X tg u := ⟨fun pins s σ H v w Q I r q => h.run pins s σ H v w Q I r (f _ _ _ _ q)⟩
abbrev Gs := List D → List Sl → Option (List Sl)
def denGs (Z : TSys) (is : List Nat) (g : Gs) : TGs := fun vs σ H Q => ∃ (ad : Z.Ad) (env : List Sl) (T : Z.T) (F : Hp) (A : List Addr) (ds : List D) (env' : List Sl),
  Rel Z ad env T F σ H A ∧ HoldsL (Z.root ad) F ds vs ∧ g ds env = some env' ∧ ∀ σ' A', Rel Z ad env' T F σ' H A' → Stp Z ad A F H A' F H → σ'.length = σ.length → (∀ j, j ∉ is → σ'[j]? = σ[j]?) → Q σ' H
structure IsGs (Z : TSys) (X : Cx) (tgs : List Expr) (is : List Nat) (g : Gs) : Prop where
  pg : PGs X tgs (denGs Z is g)
theorem PGs.imp {X : Cx} {tg : List Expr} {t u : TGs} (h : PGs X tg t) (f : ∀ v σ H Q, u v σ H Q → t v σ H Q) : PGs X tg u := ⟨fun pins s σ H v w Q I r q => h.run pins s σ H v w Q I r (f _ _ _ _ q)⟩
def gset (i : Nat) : G := fun d env => some (env.set i (.sh d))
def gnil : Gs := fun ds env => match ds with
  | [] => some env
  | _ :: _ => none
def gcons (g : G) (h : Gs) : Gs := fun ds env => match ds with
  | [] => none
  | d :: r => match g d env with
    | some e1 => h r e1
    | none => none
def gtup (n : Nat) (g : Gs) : G := fun d env => match d with
  | .tup ds => if ds.length = n then g ds env else none
  | _ => none
section
variable {Z : TSys} {X : Cx} {pos : Pos}
theorem ig_name {i : Nat} {x : Str} (hN : X.N.Nodup) (hi : X.N[i]? = some x) (hx : Loc X.env.scope x) (hf : X.fn x = true ∨ X.env.scope.names.lookup x = some .local := by first | exact .inl rfl | exact .inr rfl | assumption) : IsG Z X (.Name x pos) [i] (gset i) :=
  ⟨PG.imp (pg_name hN hi hx hf) fun v σ H Q ⟨ad, env, T, F, A, d, env', R, hv, e, k⟩ => by
    simp only [gset, Option.some.injEq] at e
    subst e
    obtain ⟨A', R', S'⟩ := R.setSh i hv
    refine k _ A' R' S' (by simp) fun j hj => ?_
    rw [List.getElem?_set_ne]
    simpa using fun z => hj (by simp [z])⟩
theorem igs_nil : IsGs Z X [] [] gnil := ⟨PGs.imp pgs_nil fun v σ H Q ⟨ad, env, T, F, A, ds, env', R, hv, e, k⟩ => by
  cases ds with
  | nil =>
    simp only [gnil, Option.some.injEq] at e
    subst e
    simp only [HoldsL] at hv
    exact ⟨hv, k σ A R Stp.refl rfl fun _ _ => rfl⟩
  | cons d ds => cases e⟩
theorem igs_cons {e : Expr} {es : List Expr} {is js : List Nat} {g : G} {h : Gs} (h1 : IsG Z X e is g) (h2 : IsGs Z X es js h) (hs : (assignEach (e :: es) X.env).map (·.2) = assign e X.env :: (assignEach es X.env).map (·.2) := by rfl) : IsGs Z X (e :: es) (is ++ js) (gcons g h) :=
  ⟨PGs.imp (pgs_cons h1.pg h2.pg hs) fun v σ H Q ⟨ad, env, T, F, A, ds, env', R, hv, e, k⟩ => by
    cases ds with
    | nil => cases e
    | cons d ds =>
      simp only [gcons] at e
      simp only [HoldsL] at hv
      obtain ⟨v0, r, rfl, hv0, hr⟩ := hv
      cases q : g d env with
      | none => rw [q] at e; cases e
      | some e1 =>
        rw [q] at e
        refine ⟨v0, r, rfl, ad, env, T, F, A, d, e1, R, hv0, q, fun σ' A' R' S' l1 o1 => ?_⟩
        refine ⟨ad, e1, T, F, A', ds, env', R', hr, e, fun σ2 A2 R2 S2 l2 o2 => k σ2 A2 R2 (S'.trans S2) (l2.trans l1) fun j hj => ?_⟩
        exact (o2 j fun z => hj (List.mem_append_right _ z)).trans (o1 j fun z => hj (List.mem_append_left _ z))⟩
theorem ig_tup {es : List Expr} {k n : Nat} {is : List Nat} {g : Gs} (hc : X.calm = true) (h : IsGs Z X es is g) (hn : (assignEach es X.env).length = n := by rfl) (hst : (assignEach es X.env).findIdx? (·.1) = none := by rfl) : IsG Z X (.Tuple es k pos) is (gtup n g) :=
  ⟨PG.imp (pg_tup hc h.pg hn hst) fun v σ H Q ⟨ad, env, T, F, A, d, env', R, hv, e, kk⟩ => by
    cases d with
    | tup ds =>
      simp only [gtup] at e
      simp only [Holds] at hv
      obtain ⟨a, vs, rfl, fa, hl⟩ := hv
      by_cases q : ds.length = n
      · rw [if_pos q] at e
        exact ⟨a, vs, rfl, (fa.mono R.same).sq, by rw [hl.length, q], ad, env, T, F, A, ds, env', R, hl, e, kk⟩
      · rw [if_neg q] at e; cases e
    | _ => cases e⟩
/-- target = value -/
def sasg {Z : TSys} (g : G) (m : M Z) : SM Z := fun e t => match m e t with
  | some (d, e1, t1) => match g d e1 with
    | some e2 => some (.nx, e2, t1)
    | none => none
  | none => none
theorem is_asg {tg e : Expr} {is : List Nat} {g : G} {m : M Z} (he : IsE Z X e m) (hg : IsG Z X tg is g) (hs : swapsWithSole [tg] e pos.line X.env = pure false := by rfl) (hw : swappedStores [tg] e X.env = pure none := by rfl)
    (h1 : (assignEach [tg] X.env).map (·.2) = [assign tg X.env] := by rfl) : IsS Z X (.Assign [tg] e pos) (sasg g m) := ⟨PS.imp (ps_asg he.pe hg.pg hs hw h1) fun D σ H ⟨ad, env, T, F, A, fl, env', T', R, e, k⟩ => by
  unfold sasg at e
  cases q : m env T with
  | none => rw [q] at e; cases e
  | some z =>
    obtain ⟨d, e1, t1⟩ := z
    rw [q] at e
    simp only at e
    cases q2 : g d e1 with
    | none => rw [q2] at e; cases e
    | some e2 =>
      rw [q2] at e
      simp only [Option.some.injEq, Prod.mk.injEq] at e
      obtain ⟨rfl, rfl, rfl⟩ := e
      refine ⟨ad, env, T, F, A, d, e1, t1, R, q, fun v H' F' A' R' S' hv => ?_⟩
      exact ⟨ad, e1, t1, F', A', d, e2, R', hv, q2, fun σ2 A2 R2 S2 _ _ => k σ2 H' F' A2 R2 (S'.trans S2)⟩⟩
end

/-! ### what is walked -/
structure Walks (rt : V) (F : Hp) (ds : List D) (J : It) : Prop where
  go : ∀ i H d, Same F H → ds[i]? = some d → J.go i H
  yld : ∀ i H d x H' F2, Same F H → Same F2 H → Same F F2 → ds[i]? = some d → J.yld i H x H' → ∃ F3, New F2 H F3 H' ∧ Holds rt F3 d x
  stop : ∀ i H, Same F H → ds.length ≤ i → J.stop i H
def denI (Z : TSys) (m : ML Z) : TI := fun σ H R => ∃ (ad : Z.Ad) (env : List Sl) (T : Z.T) (F : Hp) (A : List Addr) (ds : List D) (env' : List Sl) (T' : Z.T),
  Rel Z ad env T F σ H A ∧ m env T = some (ds, env', T') ∧ ∀ J H' F' A', Rel Z ad env' T' F' σ H' A' → Stp Z ad A F H A' F' H' → Walks (Z.root ad) F' ds J → R J H'
structure IsI (Z : TSys) (X : Cx) (tg e : Expr) (m : ML Z) : Prop where
  pi : PI X tg e (denI Z m)
theorem PI.imp {X : Cx} {tg e : Expr} {t u : TI} (h : PI X tg e t) (f : ∀ σ H R, u σ H R → t σ H R) : PI X tg e u := ⟨fun pins s σ H R I q => h.run pins s σ H R I (f _ _ _ q)⟩
def signsD (x : Str) : List D := x.cps.toList.map fun c => .str ⟨#[c]⟩
/-- a list, a tuple, a text -/
def iseq {Z : TSys} (m : M Z) : ML Z := fun e t => match m e t with
  | some (.lst ds, e1, t1) => some (ds, e1, t1)
  | some (.tup ds, e1, t1) => some (ds, e1, t1)
  | some (.str x, e1, t1) => some (signsD x, e1, t1)
  | _ => none
def rangeD (lo : Int) (n : Nat) : List D := (List.range n).map fun (k : Nat) => D.int (lo + (k : Int))
def irange1 {Z : TSys} (l : ML Z) : ML Z := fun e t => match l e t with
  | some ([.int j], e1, t1) => if j < 2 ^ 62 ∧ -(2 ^ 62) ≤ j then some (rangeD 0 j.toNat, e1, t1) else none
  | _ => none
def irange2 {Z : TSys} (l : ML Z) : ML Z := fun e t => match l e t with
  | some ([.int i, .int j], e1, t1) => if (i < 2 ^ 62 ∧ -(2 ^ 62) ≤ i) ∧ (j < 2 ^ 62 ∧ -(2 ^ 62) ≤ j) then some (rangeD i (j - i).toNat, e1, t1) else none
  | _ => none
section
variable {X : Cx} {tg : Expr}
def iSeq (K : PySem.W.Frag) (tl : TE) : TI := fun σ H R => tl σ H fun x H1 => (∃ a, x = .ref a ∧ (∃ xs, SqL K H1 a xs) ∧ R (Itl K a) H1) ∨ (∃ a, x = .ref a ∧ (∃ xs, SqT K H1 a xs) ∧ R (Itt K a) H1) ∨ ∃ z, x = .str z ∧ R (Its z) H1
theorem pi_seq {l : Expr} {tl : TE} (hl : PE X l tl) : PI X tg l (iSeq X.K tl) := by
  refine ⟨fun pins s σ H R I h => ?_⟩
  refine thn (hl.run pins s σ H _ I h) fun v s1 ⟨x, H1, I1, r1, q1⟩ => ?_
  rcases q1 with ⟨a, e, ⟨xs, hq⟩, q⟩ | ⟨a, e, ⟨xs, hq⟩, q⟩ | ⟨z, e, q⟩
  · subst e
    cases r1
    obtain ⟨its, rv, p, hz⟩ := I1.list hq
    refine wpAny_pyIter_list p.isList ?_
    refine ⟨s1.heap.objs.size, [s1.heap.objs.size], _, _, H1, rfl, I1.kept (t' := s1.toks) fun b o e => Heap.get?_push_of_some _ e, turn_list a _, ⟨_, Heap.get?_push_size _ rfl, rfl, rfl⟩, fun b hb => ?_, q⟩
    have e : b = s1.heap.objs.size := by simpa using hb
    subst e
    exact I1.fpOk (Nat.le_refl _) (I1.hok.fresh (Nat.le_refl _))
  · subst e
    cases r1
    obtain ⟨its, rv, p, hz⟩ := I1.tuple hq
    refine wpAny_pyIter_tuple (show s1.heap.IsTuple a its.toArray from p) ?_
    refine ⟨s1.heap.objs.size, [s1.heap.objs.size], _, _, H1, rfl, I1.kept (t' := s1.toks) fun b o e => Heap.get?_push_of_some _ e, turn_tuple a _, ⟨_, Heap.get?_push_size _ rfl, rfl, rfl⟩, fun b hb => ?_, q⟩
    have e : b = s1.heap.objs.size := by simpa using hb
    subst e
    exact I1.fpOk (Nat.le_refl _) (I1.hok.fresh (Nat.le_refl _))
  · subst e
    obtain ⟨t, rfl⟩ := r1
    cases ha : z.cps.all (· < 128)
    · exact wpAny_pyIter_wide ha (pi_one (tk := s1.toks) I1 _ (turn_str _ z t "str_iterator" (.inr rfl)) ⟨_, Heap.get?_push_size _ rfl, rfl, rfl⟩ q)
    · exact wpAny_pyIter_ascii ha (pi_one (tk := s1.toks) I1 _ (turn_str _ z t "str_ascii_iterator" (.inl rfl)) ⟨_, Heap.get?_push_size _ rfl, rfl, rfl⟩ q)
end
section
variable {rt : V} {F : Hp}
theorem walks_list {K : PySem.W.Frag} {a : Addr} {ds : List D} {vs : List V} (f : F a = some (.lst vs)) (h : HoldsL rt F ds vs) : Walks rt F ds (Itl K a) := by
  refine ⟨fun i H d s e => ?_, fun i H d x H' F2 s s2 s3 e y => ?_, fun i H s hl => ⟨vs, SqL.of (s _ _ f), by rw [h.length]; exact hl⟩⟩
  · obtain ⟨v, ev, _⟩ := h.get e
    exact ⟨vs, v, SqL.of (s _ _ f), ev⟩
  · obtain ⟨rfl, y⟩ := y
    obtain ⟨v, ev, hv⟩ := h.get e
    have := y vs (SqL.of (s _ _ f))
    rw [ev] at this; cases this
    exact ⟨F2, New.refl s2, hv.mono s3⟩
theorem walks_tup {K : PySem.W.Frag} {a : Addr} {ds : List D} {vs : List V} (f : TupF F a vs) (h : HoldsL rt F ds vs) : Walks rt F ds (Itt K a) := by
  refine ⟨fun i H d s e => ?_, fun i H d x H' F2 s s2 s3 e y => ?_, fun i H s hl => ⟨vs, (f.mono s).sq, by rw [h.length]; exact hl⟩⟩
  · obtain ⟨v, ev, _⟩ := h.get e
    exact ⟨vs, v, (f.mono s).sq, ev⟩
  · obtain ⟨rfl, y⟩ := y
    obtain ⟨v, ev, hv⟩ := h.get e
    have := y vs ((f.mono s).sq)
    rw [ev] at this; cases this
    exact ⟨F2, New.refl s2, hv.mono s3⟩
theorem signsD_length (z : Str) : (signsD z).length = z.cps.size := by simp [signsD]
theorem walks_str {z : Str} : Walks rt F (signsD z) (Its z) := by
  refine ⟨fun i H d s e => ?_, fun i H d x H' F2 s s2 s3 e y => ?_, fun i H s hl => by rw [signsD_length] at hl; exact hl⟩
  · have := (List.getElem?_eq_some_iff.mp e).1
    rw [signsD_length] at this
    exact this
  · obtain ⟨rfl, c, hc, rfl⟩ := y
    refine ⟨F2, New.refl s2, ?_⟩
    have e2 : (signsD z)[i]? = some (.str ⟨#[c]⟩) := by
      unfold signsD
      rw [List.getElem?_map, Array.getElem?_toList, hc]; rfl
    rw [e2] at e; cases e
    simp only [Holds]
theorem rangeD_length (lo : Int) (n : Nat) : (rangeD lo n).length = n := by simp [rangeD]
theorem rangeD_get {lo : Int} {n i : Nat} {d : D} (h : (rangeD lo n)[i]? = some d) : i < n ∧ d = .int (lo + (i : Int)) := by
  have hi := (List.getElem?_eq_some_iff.mp h).1
  rw [rangeD_length] at hi
  unfold rangeD at h
  rw [List.getElem?_map, List.getElem?_range hi] at h
  simp at h
  exact ⟨hi, h.symm⟩
theorem walks_range {lo : Int} {n : Nat} : Walks rt F (rangeD lo n) (Itr lo n) := by
  refine ⟨fun i H d s e => (rangeD_get e).1, fun i H d x H' F2 s s2 s3 e y => ?_, fun i H s hl => by rw [rangeD_length] at hl; exact hl⟩
  obtain ⟨rfl, rfl⟩ := y
  obtain ⟨_, rfl⟩ := rangeD_get e
  exact ⟨F2, New.refl s2, by simp only [Holds]⟩
end
section
variable {Z : TSys} {X : Cx} {tg e a b : Expr} {p pos : Pos}
theorem ii_seq {m : M Z} (h : IsE Z X e m) : IsI Z X tg e (iseq m) := ⟨PI.imp (pi_seq h.pe) fun σ H Rr ⟨ad, env, T, F, A, ds, env', T', R, e, k⟩ => by
  unfold iseq at e
  split at e
  · rename_i ds' e1 t1 q
    simp only [Option.some.injEq, Prod.mk.injEq] at e
    obtain ⟨rfl, rfl, rfl⟩ := e
    refine ⟨ad, env, T, F, A, _, e1, t1, R, q, fun v H' F' A' R' S' hv => .inl ?_⟩
    simp only [Holds] at hv
    obtain ⟨a, vs, rfl, f, hl⟩ := hv
    exact ⟨a, rfl, ⟨vs, SqL.of (R'.same _ _ f)⟩, k _ H' F' A' R' S' (walks_list f hl)⟩
  · rename_i ds' e1 t1 q
    simp only [Option.some.injEq, Prod.mk.injEq] at e
    obtain ⟨rfl, rfl, rfl⟩ := e
    refine ⟨ad, env, T, F, A, _, e1, t1, R, q, fun v H' F' A' R' S' hv => .inr (.inl ?_)⟩
    simp only [Holds] at hv
    obtain ⟨a, vs, rfl, f, hl⟩ := hv
    exact ⟨a, rfl, ⟨vs, (f.mono R'.same).sq⟩, k _ H' F' A' R' S' (walks_tup f hl)⟩
  · rename_i x e1 t1 q
    simp only [Option.some.injEq, Prod.mk.injEq] at e
    obtain ⟨rfl, rfl, rfl⟩ := e
    refine ⟨ad, env, T, F, A, _, e1, t1, R, q, fun v H' F' A' R' S' hv => .inr (.inr ?_)⟩
    simp only [Holds] at hv
    exact ⟨x, hv, k _ H' F' A' R' S' walks_str⟩
  · cases e⟩
theorem ii_range1 {l : ML Z} (hg : Gl X "range") (hm : X.mg "range" = none) (ha : IsL Z X [a] l) (hs : starEach [a] X.env = [(false, eval a X.env)] := by rfl) : IsI Z X tg (.Call (.Name "range" p) [a] [] pos) (irange1 l) := ⟨PI.imp (pi_range1 hg hm ha.pa hs) fun σ H Rr ⟨ad, env, T, F, A, ds, env', T', R, e, k⟩ => by
  unfold irange1 at e
  split at e
  · rename_i j e1 t1 q
    by_cases hj : j < 2 ^ 62 ∧ -(2 ^ 62) ≤ j
    · rw [if_pos hj] at e
      simp only [Option.some.injEq, Prod.mk.injEq] at e
      obtain ⟨rfl, rfl, rfl⟩ := e
      refine ⟨ad, env, T, F, A, _, e1, t1, R, q, fun vs H' F' A' R' S' hv => ?_⟩
      simp only [HoldsL, Holds] at hv
      obtain ⟨v, r, rfl, rfl, rfl⟩ := hv
      exact ⟨j, rfl, hj.2, hj.1, k _ H' F' A' R' S' walks_range⟩
    · rw [if_neg hj] at e; cases e
  · cases e⟩
theorem ii_range2 {l : ML Z} (hg : Gl X "range") (hm : X.mg "range" = none) (ha : IsL Z X [a, b] l) (hs : starEach [a, b] X.env = [(false, eval a X.env), (false, eval b X.env)] := by rfl) (hs2 : starEach [b] X.env = [(false, eval b X.env)] := by rfl) :
    IsI Z X tg (.Call (.Name "range" p) [a, b] [] pos) (irange2 l) := ⟨PI.imp (pi_range2 hg hm ha.pa hs hs2) fun σ H Rr ⟨ad, env, T, F, A, ds, env', T', R, e, k⟩ => by
  unfold irange2 at e
  split at e
  · rename_i i j e1 t1 q
    by_cases hj : (i < 2 ^ 62 ∧ -(2 ^ 62) ≤ i) ∧ (j < 2 ^ 62 ∧ -(2 ^ 62) ≤ j)
    · rw [if_pos hj] at e
      simp only [Option.some.injEq, Prod.mk.injEq] at e
      obtain ⟨rfl, rfl, rfl⟩ := e
      refine ⟨ad, env, T, F, A, _, e1, t1, R, q, fun vs H' F' A' R' S' hv => ?_⟩
      simp only [HoldsL, Holds] at hv
      obtain ⟨v, r, rfl, rfl, v2, r2, rfl, rfl, rfl⟩ := hv
      exact ⟨i, j, rfl, ⟨hj.1.2, hj.1.1, hj.2.2, hj.2.1⟩, k _ H' F' A' R' S' walks_range⟩
    · rw [if_neg hj] at e; cases e
  · cases e⟩
end

/-! ### for -/
def forL {Z : TSys} (g : G) (b : SM Z) : List D → SM Z
  | [], e, t => some (.nx, e, t)
  | d :: ds, e, t => match g d e with
    | some e1 => match b e1 t with
      | some (.nx, e2, t2) => forL g b ds e2 t2
      | some (.ct, e2, t2) => forL g b ds e2 t2
      | some (.bk, e2, t2) => some (.nx, e2, t2)
      | some (.rt r, e2, t2) => some (.rt r, e2, t2)
      | none => none
    | none => none
def sfor {Z : TSys} (src : ML Z) (g : G) (b : SM Z) : SM Z := fun e t => match src e t with
  | some (ds, e1, t1) => forL g b ds e1 t1
  | none => none
theorem is_for {Z : TSys} {X : Cx} {tg iter : Expr} {body : List Stmt} {src : ML Z} {is : List Nat} {g : G} {b : SM Z} {pos : Pos} (hp : PassesOwn (model X.prog X.w) X.A X.env X.xe) (hc : X.calm = true) (hi : IsI Z X tg iter src) (hg : IsG Z X tg is g) (hb : IsB Z X body b)
    (hs : ∀ x, foldedSetIterable iter X.env x = pure x := by intro _; rfl) : IsS Z X (.For tg iter body [] pos) (sfor src g b) := ⟨PS.imp (ps_for hp hc hi.pi hg.pg hb.ps hs) fun D σ H ⟨ad, env, T, F, A, fl, env', T', R, e, k⟩ => by
  unfold sfor at e
  cases q : src env T with
  | none => rw [q] at e; cases e
  | some z =>
    obtain ⟨ds, e1, t1⟩ := z
    rw [q] at e
    refine ⟨ad, env, T, F, A, ds, e1, t1, R, q, fun J H1 F1 A1 R1 S1 wk => ?_⟩
    refine ⟨fun i m σ' H' => m = ds.length - i ∧ ∃ env2 T2 F2 A2, Rel Z ad env2 T2 F2 σ' H' A2 ∧ Stp Z ad A1 F1 H1 A2 F2 H' ∧ forL g b (ds.drop i) env2 T2 = some (fl, env', T'), ⟨ds.length, by simp, e1, t1, F1, A1, R1, Stp.refl, e⟩, ?_⟩
    rintro i m σ2 H2 ⟨rfl, env2, T2, F2, A2, R2, S2, e2⟩
    have sF : Same F1 H2 := S2.sF.trans R2.same
    by_cases hlt : i < ds.length
    · refine .inr ⟨wk.go i H2 ds[i] sF (List.getElem?_eq_getElem hlt), fun σ' H' => ds.length - (i + 1) = ds.length - (i + 1) ∧ ∃ env2 T2 F2 A2, Rel Z ad env2 T2 F2 σ' H' A2 ∧ Stp Z ad A1 F1 H1 A2 F2 H' ∧ forL g b (ds.drop (i + 1)) env2 T2 = some (fl, env', T'), fun σ' H' h => ⟨_, by omega, h⟩, fun x H3 y => ?_⟩
      obtain ⟨F3, n3, hx⟩ := wk.yld i H2 ds[i] x H3 F2 sF R2.same S2.sF (List.getElem?_eq_getElem hlt) y
      obtain ⟨R3, S3⟩ := R2.new n3
      rw [List.drop_eq_getElem_cons hlt] at e2
      simp only [forL] at e2
      cases q3 : g ds[i] env2 with
      | none => rw [q3] at e2; cases e2
      | some e3 =>
        rw [q3] at e2
        simp only at e2
        refine ⟨ad, env2, T2, F3, A2, ds[i], e3, R3, hx, q3, fun σ4 A4 R4 S4 _ _ => ?_⟩
        cases q4 : b e3 T2 with
        | none => rw [q4] at e2; cases e2
        | some z4 =>
          obtain ⟨f4, e4, t4⟩ := z4
          rw [q4] at e2
          refine ⟨ad, e3, T2, F3, A4, f4, e4, t4, R4, q4, fun σ5 H5 F5 A5 R5 S5 => ?_⟩
          have S' := ((S2.trans S3).trans S4).trans S5
          cases f4 with
          | nx => exact ⟨rfl, e4, t4, F5, A5, R5, S', e2⟩
          | ct => exact ⟨rfl, e4, t4, F5, A5, R5, S', e2⟩
          | bk =>
            simp only [Option.some.injEq, Prod.mk.injEq] at e2
            obtain ⟨rfl, rfl, rfl⟩ := e2
            exact k σ5 H5 F5 A5 R5 (S1.trans S')
          | rt r =>
            simp only [Option.some.injEq, Prod.mk.injEq] at e2
            obtain ⟨rfl, rfl, rfl⟩ := e2
            exact k σ5 H5 F5 A5 R5 (S1.trans S')
    · refine .inl ⟨wk.stop i H2 sF (by omega), ?_⟩
      rw [List.drop_eq_nil_of_le (by omega)] at e2
      simp only [forL, Option.some.injEq, Prod.mk.injEq] at e2
      obtain ⟨rfl, rfl, rfl⟩ := e2
      exact k σ2 H2 F2 A2 R2 (S1.trans S2)⟩

/-! ### while -/
def whileL {Z : TSys} (c : MB Z) (b : SM Z) : Nat → SM Z
  | 0, _, _ => none
  | n + 1, e, t => match c e t with
    | some (true, e1, t1) => match b e1 t1 with
      | some (.nx, e2, t2) => whileL c b n e2 t2
      | some (.ct, e2, t2) => whileL c b n e2 t2
      | some (.bk, e2, t2) => some (.nx, e2, t2)
      | some (.rt r, e2, t2) => some (.rt r, e2, t2)
      | none => none
    | some (false, e1, t1) => some (.nx, e1, t1)
    | none => none
theorem is_while {Z : TSys} {X : Cx} {c : Expr} {body : List Stmt} {mc : MB Z} {b : SM Z} {pos : Pos} (n : Nat) (hp : PassesOwn (model X.prog X.w) X.A X.env X.xe) (hc : IsT Z X c mc) (hb : IsB Z X body b) : IsS Z X (.While c body [] pos) (whileL mc b n) :=
  ⟨PS.imp (ps_while hp hc.pt hb.ps) fun D σ H ⟨ad, env, T, F, A, fl, env', T', R, e, k⟩ => by
  refine ⟨fun m σ' H' => ∃ env2 T2 F2 A2, Rel Z ad env2 T2 F2 σ' H' A2 ∧ Stp Z ad A F H A2 F2 H' ∧ whileL mc b m env2 T2 = some (fl, env', T'), ⟨n, env, T, F, A, R, Stp.refl, e⟩, ?_⟩
  rintro m σ2 H2 ⟨env2, T2, F2, A2, R2, S2, e2⟩
  cases m with
  | zero => cases e2
  | succ m =>
    simp only [whileL] at e2
    cases q : mc env2 T2 with
    | none => rw [q] at e2; cases e2
    | some z =>
      obtain ⟨kb, e3, t3⟩ := z
      rw [q] at e2
      refine ⟨ad, env2, T2, F2, A2, kb, e3, t3, R2, q, fun H3 F3 A3 R3 S3 => ?_⟩
      cases kb with
      | false =>
        simp only [Option.some.injEq, Prod.mk.injEq] at e2
        obtain ⟨rfl, rfl, rfl⟩ := e2
        exact k σ2 H3 F3 A3 R3 (S2.trans S3)
      | true =>
        simp only at e2
        refine ⟨fun σ' H' => ∃ env2 T2 F2 A2, Rel Z ad env2 T2 F2 σ' H' A2 ∧ Stp Z ad A F H A2 F2 H' ∧ whileL mc b m env2 T2 = some (fl, env', T'), fun σ' H' h => ⟨m, Nat.lt_succ_self m, h⟩, ?_⟩
        cases q4 : b e3 t3 with
        | none => rw [q4] at e2; cases e2
        | some z4 =>
          obtain ⟨f4, e4, t4⟩ := z4
          rw [q4] at e2
          refine ⟨ad, e3, t3, F3, A3, f4, e4, t4, R3, q4, fun σ5 H5 F5 A5 R5 S5 => ?_⟩
          have S' := (S2.trans S3).trans S5
          cases f4 with
          | nx => exact ⟨e4, t4, F5, A5, R5, S', e2⟩
          | ct => exact ⟨e4, t4, F5, A5, R5, S', e2⟩
          | bk =>
            simp only [Option.some.injEq, Prod.mk.injEq] at e2
            obtain ⟨rfl, rfl, rfl⟩ := e2
            exact k σ5 H5 F5 A5 R5 S'
          | rt r =>
            simp only [Option.some.injEq, Prod.mk.injEq] at e2
            obtain ⟨rfl, rfl, rfl⟩ := e2
            exact k σ5 H5 F5 A5 R5 S'⟩

/-! ### a def's promise from its body -/
def runFn {Z : TSys} (N n : Nat) (m : SM Z) : FnM Z := fun ds T => match m (ds.map .sh ++ List.replicate (N - n) .no) T with
  | some (.rt d, _, T') => some (d, T')
  | some (.nx, _, T') => some (.non, T')
  | _ => none
section
variable {Z : TSys} {P : Program} {w : World} {K : PySem.W.Frag} {mg : Str → Option Value} {base : Heap}
theorem env_start {rt : V} {F H : Hp} (k : Nat) : ∀ {ds : List D} {vs : List V}, HoldsL rt F ds vs → EnvR rt F H (ds.map .sh ++ List.replicate k .no) (vs.map some ++ List.replicate k none) []
  | [], _, h => by
    simp only [HoldsL] at h
    subst h
    simp only [List.map_nil, List.nil_append]
    induction k with
    | zero => exact ⟨rfl, rfl⟩
    | succ k ih => exact ⟨none, _, [], [], rfl, rfl, rfl, ih⟩
  | d :: ds, _, h => by
    simp only [HoldsL] at h
    obtain ⟨v, r, rfl, h1, h2⟩ := h
    exact ⟨some v, _, [], [], rfl, rfl, ⟨rfl, v, rfl, h1⟩, env_start k h2⟩
theorem fn_ok {x qual : Str} {st : Stmt} {f : Addr} {fd : FuncData} {N ps : List Str} {k : Nat} {m : SM Z} (Fu : Fun K x qual st f fd) (S : FnScope N ps (defScope st))
    (h : ∀ (cdv : Value) (A : Around) (outer : List Env) (s : Shared) (H : Hp) (E : XK), Room k (A.deeper (PyProof.Rows.envOfC qual (defScope st) s.heap.objs.size f cdv)) →
      IsB Z (cxOf CX0 P w K mg base N qual (defScope st) f cdv A outer s H E).nox (defBody st) m) : FnOk P w K mg base CX0 (k + 1) f fd ps (spD Z ps.length (runFn N.length ps.length m)) := by
  refine Fu.ok S (fun vs H Q E h => h.1) fun cdv A outer s H vs Q E hr hsp => ?_
  obtain ⟨hl, ad, ds, T, F, r, T', hv, R, e, kk⟩ := hsp
  refine ⟨_, (h cdv A outer s H E hr).ps, ?_⟩
  have hlen : ds.length = ps.length := by rw [← hv.length, hl]
  have hst : L2.start N vs = vs.map some ++ List.replicate (N.length - ps.length) none := by unfold L2.start; rw [hl]
  unfold runFn at e
  have R0 : Rel Z ad (ds.map .sh ++ List.replicate (N.length - ps.length) .no) T F (L2.start N vs) H [] := ⟨R.same, by rw [hst]; exact env_start _ hv, List.nodup_nil, R.tp, R.tf⟩
  split at e
  · rename_i d e1 t1 q
    simp only [Option.some.injEq, Prod.mk.injEq] at e
    obtain ⟨rfl, rfl⟩ := e
    refine ⟨ad, _, T, F, [], .rt d, e1, t1, R0, q, fun σ' H' F' A' R' S' v hv => ?_⟩
    exact kk v H' F' R'.bare ⟨S'.sF, S'.nF, fun a ha => by simp at ha, S'.fr, S'.ex⟩ hv
  · rename_i e1 t1 q
    simp only [Option.some.injEq, Prod.mk.injEq] at e
    obtain ⟨rfl, rfl⟩ := e
    refine ⟨ad, _, T, F, [], .nx, e1, t1, R0, q, fun σ' H' F' A' R' S' => ?_⟩
    exact kk .non H' F' R'.bare ⟨S'.sF, S'.nF, fun a ha => by simp at ha, S'.fr, S'.ex⟩ (by simp only [Holds])
  · cases e
end
end DL

/-! The data layer, 6: comprehensions. -/
namespace DL
open PySem L2

/-! ### the block's own slots: wiped, and back -/
def wipeE (env : List Sl) : List Nat → List Sl
  | [] => env
  | v :: vs => (wipeE env vs).set v .no
def restE (env : List Sl) : List Nat → List Sl → List Sl
  | [], e => e
  | v :: vs, e => restE env vs (e.set v (env.getD v .no))
def restS (σ : L2.St) : List Nat → L2.St → L2.St
  | [], e => e
  | v :: vs, e => restS σ vs (e.set v (σ.getD v none))
/-- none of these slots owns anything -/
def ownOk (env : List Sl) (vs : List Nat) : Bool := vs.all fun v => match env[v]? with
  | some (.ow _ _) => false
  | _ => true
theorem wipe_in {σ : L2.St} {i : Nat} : ∀ {vs : List Nat}, i ∈ vs → (wipe σ vs)[i]? = (if i < σ.length then some none else none)
  | v :: vs, h => by
    unfold wipe
    by_cases e : v = i
    · subst e
      rw [List.getElem?_set, wipe_length]
      simp
    · rw [List.getElem?_set_ne e]
      exact wipe_in (by rcases List.mem_cons.mp h with z | z; exact absurd z.symm e; exact z)
theorem wipe_off {σ : L2.St} {i : Nat} : ∀ {vs : List Nat}, i ∉ vs → (wipe σ vs)[i]? = σ[i]?
  | [], _ => rfl
  | v :: vs, h => by
    unfold wipe
    rw [List.getElem?_set_ne (fun e => h (by simp [e]))]
    exact wipe_off fun z => h (List.mem_cons_of_mem _ z)
/-- slots that agree but at these -/
theorem wipe_agree {σ τ : L2.St} {vs : List Nat} (hl : σ.length = τ.length) (h : ∀ j, j ∉ vs → σ[j]? = τ[j]?) : wipe σ vs = wipe τ vs := by
  apply List.ext_getElem?
  intro i
  by_cases hi : i ∈ vs
  · rw [wipe_in hi, wipe_in hi, hl]
  · rw [wipe_off hi, wipe_off hi, h i hi]
theorem wipe_wipe {σ : L2.St} {vs : List Nat} : wipe (wipe σ vs) vs = wipe σ vs :=
  wipe_agree (wipe_length σ vs) fun j hj => wipe_off hj
theorem restS_length (σ : L2.St) : ∀ (vs : List Nat) (e : L2.St), (restS σ vs e).length = e.length
  | [], _ => rfl
  | v :: vs, e => by unfold restS; rw [restS_length σ vs, List.length_set]
theorem restS_off {σ : L2.St} {i : Nat} : ∀ {vs : List Nat} {e : L2.St}, i ∉ vs → (restS σ vs e)[i]? = e[i]?
  | [], _, _ => rfl
  | v :: vs, e, h => by
    unfold restS
    rw [restS_off fun z => h (List.mem_cons_of_mem _ z), List.getElem?_set_ne fun z => h (by simp [z])]
theorem restS_in {σ : L2.St} {i : Nat} : ∀ {vs : List Nat} {e : L2.St}, i ∈ vs → i < e.length → (restS σ vs e)[i]? = some (σ.getD i none)
  | v :: vs, e, h, hl => by
    unfold restS
    by_cases m : i ∈ vs
    · exact restS_in m (by rw [List.length_set]; exact hl)
    · rw [restS_off m]
      have ev : v = i := by rcases List.mem_cons.mp h with z | z; exact z.symm; exact absurd z m
      subst ev
      rw [List.getElem?_set_self hl]
theorem restS_wipe {σ : L2.St} {vs : List Nat} : restS σ vs (wipe σ vs) = σ := by
  apply List.ext_getElem?
  intro i
  by_cases hi : i ∈ vs
  · by_cases hl : i < σ.length
    · rw [restS_in hi (by rw [wipe_length]; exact hl)]
      rw [List.getD_eq_getElem?_getD, List.getElem?_eq_getElem hl]
      rfl
    · rw [List.getElem?_eq_none (by rw [restS_length, wipe_length]; omega), List.getElem?_eq_none (by omega)]
  · rw [restS_off hi, wipe_off hi]
section
variable {Z : TSys} {ad : Z.Ad} {env : List Sl} {T : Z.T} {F H : Hp} {σ : L2.St} {A : List Addr}
theorem Rel.wipe (R : Rel Z ad env T F σ H A) : ∀ vs : List Nat, ∃ A', Rel Z ad (wipeE env vs) T F (L2.wipe σ vs) H A' ∧ Stp Z ad A F H A' F H
  | [] => ⟨A, R, Stp.refl⟩
  | v :: vs => by
    obtain ⟨A1, R1, S1⟩ := R.wipe vs
    obtain ⟨A2, R2, S2⟩ := R1.setNo v none
    exact ⟨A2, R2, S1.trans S2⟩
/-- back to the outer slots, which own nothing at these places -/
theorem Rel.rest (R : Rel Z ad env T F σ H A) {vs : List Nat} (ok : ownOk env vs = true) {env2 : List Sl} {T2 : Z.T} {F2 H2 : Hp} {A2 : List Addr} (sF : Same F F2) :
    ∀ (us : List Nat) {e : List Sl} {τ : L2.St} {A3 : List Addr}, (∀ v ∈ us, v ∈ vs) → Rel Z ad e T2 F2 τ H2 A3 → ∃ A4, Rel Z ad (restE env us e) T2 F2 (restS σ us τ) H2 A4 ∧ Stp Z ad A3 F2 H2 A4 F2 H2
  | [], e, τ, A3, _, R3 => ⟨A3, R3, Stp.refl⟩
  | v :: us, e, τ, A3, hu, R3 => by
    have step : ∃ A', Rel Z ad (e.set v (env.getD v .no)) T2 F2 (τ.set v (σ.getD v none)) H2 A' ∧ Stp Z ad A3 F2 H2 A' F2 H2 := by
      have okv := List.all_eq_true.mp ok v (hu v List.mem_cons_self)
      cases q : env[v]? with
      | none =>
        rw [List.getD_eq_getElem?_getD, q]
        exact R3.setNo v _
      | some x =>
        rw [List.getD_eq_getElem?_getD, q]
        cases x with
        | no => exact R3.setNo v _
        | ow n d => rw [q] at okv; cases okv
        | sh d =>
          obtain ⟨o, A0, A1, Ab, e1, _, ⟨_, w, ew, hw⟩, _⟩ := R.env.split q
          subst ew
          rw [List.getD_eq_getElem?_getD, e1]
          exact R3.setSh v (hw.mono sF)
    obtain ⟨A4, R4, S4⟩ := step
    obtain ⟨A5, R5, S5⟩ := R.rest ok sF us (fun v hv => hu v (List.mem_cons_of_mem _ hv)) R4 (env2 := env2) (A2 := A2)
    exact ⟨A5, R5, S4.trans S5⟩
end

/-! ### one clause -/
def lcL {Z : TSys} (own : List Nat) (g : G) (tt : MB Z) (el : M Z) : List D → List D → List Sl → Z.T → Option (List D × List Sl × Z.T)
  | [], acc, e, t => some (acc, e, t)
  | d :: ds, acc, e, t => match g d (wipeE e own) with
    | some e1 => match tt e1 t with
      | some (true, e2, t2) => match el e2 t2 with
        | some (y, e3, t3) => lcL own g tt el ds (acc ++ [y]) (wipeE e3 own) t3
        | none => none
      | some (false, e2, t2) => lcL own g tt el ds acc (wipeE e2 own) t2
      | none => none
    | none => none
def byes {Z : TSys} : MB Z := fun e t => some (true, e, t)
def mlc {Z : TSys} (own : List Nat) (src : ML Z) (g : G) (tt : MB Z) (el : M Z) : M Z := fun e t => match src e t with
  | some (ds, e1, t1) => if ownOk e1 own && decide (ds.length ≤ sizeLine) then match lcL own g tt el ds [] (wipeE e1 own) t1 with
    | some (acc, e2, t2) => some (.lst acc, restE e1 own e2, t2)
    | none => none
    else none
  | none => none
structure IsTs (Z : TSys) (X : Cx) (ifs : List Expr) (m : MB Z) : Prop where
  pt : PTs X ifs (denB Z m)
theorem PTs.imp {X : Cx} {ifs : List Expr} {t u : TT} (h : PTs X ifs t) (f : ∀ σ H Q, u σ H Q → t σ H Q) : PTs X ifs u := ⟨fun pins s σ H Q I q => h.run pins s σ H Q I (f _ _ _ q)⟩
theorem its_nil {Z : TSys} {X : Cx} : IsTs Z X [] byes := ⟨PTs.imp pts_nil fun σ H Q ⟨ad, env, T, F, A, r, env', T', R, e, k⟩ => by
  simp only [byes, Option.some.injEq, Prod.mk.injEq] at e
  obtain ⟨rfl, rfl, rfl⟩ := e
  exact k H F A R Stp.refl⟩
theorem its_one {Z : TSys} {X : Cx} {c : Expr} {m : MB Z} (h : IsT Z X c m) : IsTs Z X [c] m := ⟨pts_one h.pt⟩
section
variable {Z : TSys}
/-- L, the new list, is not ours -/
def Out (Z : TSys) (ad : Z.Ad) (L : Addr) (A : List Addr) (F : Hp) : Prop := L ∉ A ∧ F L = none ∧ L ∉ Z.addrs ad
theorem Out.step {ad : Z.Ad} {L : Addr} {A2 A3 : List Addr} {F2 F3 H2 H3 : Hp} {us : List V} (S : Stp Z ad A2 F2 H2 A3 F3 H3) (h : Out Z ad L A2 F2) (h3 : H2 L = some (.lst us)) : Out Z ad L A3 F3 ∧ H3 L = some (.lst us) := by
  obtain ⟨h1, h2, nt⟩ := h
  refine ⟨⟨fun z => ?_, ?_, nt⟩, S.fr L _ h3 h1 nt⟩
  · rcases S.nA L z with w | w
    · exact h1 w
    · rw [h3] at w; cases w
  · cases qq : F3 L with
    | none => rfl
    | some o =>
      rcases S.nF L (by rw [qq]; exact fun z => by cases z) with w | w | w
      · exact absurd h2 w
      · exact absurd w h1
      · rw [h3] at w; cases w
/-- the new list grows -/
theorem Rel.grow {ad : Z.Ad} {env : List Sl} {T : Z.T} {F H : Hp} {σ : L2.St} {A : List Addr} (R : Rel Z ad env T F σ H A) {L : Addr} (o : Out Z ad L A F) (x : HO) : Rel Z ad env T F σ (L2.upd H L x) A := by
  obtain ⟨nm, nF, nT⟩ := o
  refine ⟨fun a o z => ?_, R.env.keep (Same.refl _) fun a ha => ⟨L2.upd_ne fun z => nm (z ▸ ha), (R.at a ha).1⟩, R.nd, Z.loc R.tp fun b hb => L2.upd_ne fun z => nT (z ▸ hb), R.tf⟩
  rw [L2.upd_ne fun w => by rw [w, nF] at z; cases z]
  exact R.same _ _ z
theorem lcL_len {own : List Nat} {g : G} {tt : MB Z} {el : M Z} : ∀ {ds acc : List D} {e : List Sl} {t : Z.T} {r : List D} {e' : List Sl} {t' : Z.T}, lcL own g tt el ds acc e t = some (r, e', t') → acc.length ≤ r.length ∧ r.length ≤ acc.length + ds.length
  | [], acc, e, t, r, e', t', h => by
    simp only [lcL, Option.some.injEq, Prod.mk.injEq] at h
    obtain ⟨rfl, rfl, rfl⟩ := h
    exact ⟨Nat.le_refl _, Nat.le_add_right _ _⟩
  | d :: ds, acc, e, t, r, e', t', h => by
    simp only [lcL] at h
    cases q : g d (wipeE e own) with
    | none => rw [q] at h; cases h
    | some e1 =>
      rw [q] at h
      simp only at h
      cases q2 : tt e1 t with
      | none => rw [q2] at h; cases h
      | some z =>
        obtain ⟨b, e2, t2⟩ := z
        rw [q2] at h
        cases b with
        | false =>
          have := lcL_len h
          simp only [List.length_cons]
          omega
        | true =>
          simp only at h
          cases q3 : el e2 t2 with
          | none => rw [q3] at h; cases h
          | some z3 =>
            obtain ⟨y, e3, t3⟩ := z3
            rw [q3] at h
            have := lcL_len h
            simp only [List.length_append, List.length_cons, List.length_nil] at this ⊢
            omega
/-- the loop of one clause, the new list at L -/
theorem lc_loop {own is : List Nat} {g : G} {tt : MB Z} {el : M Z} (sub : ∀ j ∈ is, j ∈ own) {ad : Z.Ad} {ds : List D} {J : It} {σ : L2.St} {L : Addr} {e1 : List Sl} {t1 : Z.T} {F1 H1 : Hp} {A1 : List Addr} {ac0 acc : List D} {us0 : List V} {e2 : List Sl} {t2 : Z.T} {K : Hp → Prop}
    (R1 : Rel Z ad e1 t1 F1 (L2.wipe σ own) H1 A1) (o1 : Out Z ad L A1 F1) (h1 : H1 L = some (.lst us0)) (hac0 : HoldsL (Z.root ad) F1 ac0 us0) (wk : Walks (Z.root ad) F1 ds J) (hz : acc.length ≤ sizeLine)
    (q : lcL own g tt el ds ac0 e1 t1 = some (acc, e2, t2))
    (hK : ∀ H' F' A' us, Rel Z ad e2 t2 F' (L2.wipe σ own) H' A' → (∀ a o, H1 a = some o → a ∉ A1 → a ∉ Z.addrs ad → a ≠ L → H' a = some o) → Same F1 F' → (∀ a, F' a ≠ none → F1 a ≠ none ∨ a ∈ A1 ∨ H1 a = none) → (∀ a ∈ A', a ∈ A1 ∨ H1 a = none) → (∀ a o, H1 a = some o → ∃ o', H' a = some o') → Out Z ad L A' F' → H' L = some (.lst us) → HoldsL (Z.root ad) F' acc us → K H') :
    ∃ W : Nat → Nat → Hp → Prop, (∃ m, W 0 m H1) ∧ ∀ i m H, W i m H → (J.stop i H ∧ K H) ∨ (J.go i H ∧ ∃ Nx : Hp → Prop, (∀ H', Nx H' → ∃ m', m' < m ∧ W (i + 1) m' H') ∧ ∀ x H', J.yld i H x H' → denG Z is g x (L2.wipe σ own) H' fun σ2 H2 => L2.wipe σ2 own = L2.wipe σ own ∧ denB Z tt σ2 H2 fun b H3 =>
      if b = true then den Z el σ2 H3 fun y H4 => ∃ acc, H4 L = some (.lst acc) ∧ acc.length < sizeLine ∧ Nx (upd H4 L (.lst (acc ++ [y]))) else Nx H3) := by
  let W : Nat → Nat → Hp → Prop := fun i m H' => m = ds.length - i ∧ ∃ (en : List Sl) (T2 : Z.T) (F2 : Hp) (A2 : List Addr) (ac : List D) (us : List V),
    Rel Z ad en T2 F2 (L2.wipe σ own) H' A2 ∧ ((∀ a o, H1 a = some o → a ∉ A1 → a ∉ Z.addrs ad → a ≠ L → H' a = some o) ∧ Same F1 F2 ∧ (∀ a, F2 a ≠ none → F1 a ≠ none ∨ a ∈ A1 ∨ H1 a = none) ∧ (∀ a ∈ A2, a ∈ A1 ∨ H1 a = none) ∧ (∀ a o, H1 a = some o → ∃ o', H' a = some o')) ∧ Out Z ad L A2 F2 ∧ H' L = some (.lst us) ∧ HoldsL (Z.root ad) F2 ac us ∧ lcL own g tt el (ds.drop i) ac en T2 = some (acc, e2, t2)
  have go : ∀ {A2 A3 : List Addr} {F2 F3 H2 H3 : Hp}, (∀ a o, H1 a = some o → a ∉ A1 → a ∉ Z.addrs ad → a ≠ L → H2 a = some o) ∧ Same F1 F2 ∧ (∀ a, F2 a ≠ none → F1 a ≠ none ∨ a ∈ A1 ∨ H1 a = none) ∧ (∀ a ∈ A2, a ∈ A1 ∨ H1 a = none) ∧ (∀ a o, H1 a = some o → ∃ o', H2 a = some o') → Stp Z ad A2 F2 H2 A3 F3 H3 →
      (∀ a o, H1 a = some o → a ∉ A1 → a ∉ Z.addrs ad → a ≠ L → H3 a = some o) ∧ Same F1 F3 ∧ (∀ a, F3 a ≠ none → F1 a ≠ none ∨ a ∈ A1 ∨ H1 a = none) ∧ (∀ a ∈ A3, a ∈ A1 ∨ H1 a = none) ∧ (∀ a o, H1 a = some o → ∃ o', H3 a = some o') := by
    intro A2 A3 F2 F3 H2 H3 ⟨c1, c2, c3, c4, c5⟩ S
    have back : ∀ a, H2 a = none → H1 a = none := fun a e => by
      cases q : H1 a with
      | none => rfl
      | some o => obtain ⟨o', e'⟩ := c5 a o q; rw [e] at e'; cases e'
    refine ⟨fun a o e hA hT hL => S.fr a o (c1 a o e hA hT hL) (fun z => ?_) hT, c2.trans S.sF, fun a ha => ?_, fun a ha => ?_, fun a o e => ?_⟩
    · rcases c4 a z with w | w
      · exact hA w
      · rw [e] at w; cases w
    · rcases S.nF a ha with w | w | w
      · exact c3 a w
      · exact .inr (c4 a w)
      · exact .inr (.inr (back a w))
    · rcases S.nA a ha with w | w
      · exact c4 a w
      · exact .inr (back a w)
    · obtain ⟨o', e'⟩ := c5 a o e
      exact S.ex a o' e'
  refine ⟨W, ⟨ds.length, by simp, e1, t1, F1, A1, ac0, us0, R1, ⟨fun _ _ h _ _ _ => h, Same.refl _, fun _ h => .inl h, fun _ h => .inl h, fun _ o h => ⟨o, h⟩⟩, o1, h1, hac0, q⟩, ?_⟩
  rintro i m H2 ⟨rfl, en, T2, F2, A2, ac, us, R2, c, hap, hDu, hac, e3⟩
  have sF : Same F1 H2 := c.2.1.trans R2.same
  by_cases hlt : i < ds.length
  · refine .inr ⟨wk.go i H2 ds[i] sF (List.getElem?_eq_getElem hlt), fun H' => W (i + 1) (ds.length - (i + 1)) H', fun H' h => ⟨_, by omega, h⟩, fun x H3 y => ?_⟩
    obtain ⟨F3, n3, hx⟩ := wk.yld i H2 ds[i] x H3 F2 sF R2.same c.2.1 (List.getElem?_eq_getElem hlt) y
    obtain ⟨R3, S3⟩ := R2.new n3
    rw [List.drop_eq_getElem_cons hlt] at e3
    simp only [lcL] at e3
    cases q3 : g ds[i] (wipeE en own) with
    | none => rw [q3] at e3; cases e3
    | some e4 =>
      rw [q3] at e3
      simp only at e3
      obtain ⟨A3w, R3w, S3w⟩ := R3.wipe own
      rw [wipe_wipe] at R3w
      refine ⟨ad, wipeE en own, T2, F3, A3w, ds[i], e4, R3w, hx, q3, fun σ4 A4 R4 S4 l4 o4 => ?_⟩
      have eσ : L2.wipe σ4 own = L2.wipe σ own := by
        rw [wipe_agree (τ := L2.wipe σ own) l4 fun j hj => o4 j fun z => hj (sub j z), wipe_wipe]
      refine ⟨eσ, ?_⟩
      have S24 := (S3.trans S3w).trans S4
      cases q4 : tt e4 T2 with
      | none => rw [q4] at e3; cases e3
      | some z4 =>
        obtain ⟨b4, e5, t5⟩ := z4
        rw [q4] at e3
        refine ⟨ad, e4, T2, F3, A4, b4, e5, t5, R4, q4, fun H5 F5 A5 R5 S5 => ?_⟩
        have S25 := S24.trans S5
        cases b4 with
        | false =>
          simp only at e3
          refine iteF ?_
          obtain ⟨A6, R6, S6⟩ := R5.wipe own
          rw [eσ] at R6
          have S26 := S25.trans S6
          obtain ⟨ap, hD6⟩ := hap.step S26 hDu
          exact ⟨rfl, _, _, F5, A6, ac, us, R6, go c S26, ap, hD6, hac.mono S26.sF, e3⟩
        | true =>
          simp only at e3
          refine iteT ?_
          cases q5 : el e5 t5 with
          | none => rw [q5] at e3; cases e3
          | some z5 =>
            obtain ⟨y5, e6, t6⟩ := z5
            rw [q5] at e3
            simp only at e3
            refine ⟨ad, e5, t5, F5, A5, y5, e6, t6, R5, q5, fun v6 H6 F6 A6 R6 S6 hv6 => ?_⟩
            obtain ⟨A7, R7, S7⟩ := R6.wipe own
            rw [eσ] at R7
            have S27 := (S25.trans S6).trans S7
            obtain ⟨ap, hD6⟩ := hap.step S27 hDu
            have hl := (lcL_len e3).1
            simp only [List.length_append, List.length_singleton] at hl
            refine ⟨us, hD6, by rw [hac.length]; omega, ?_⟩
            obtain ⟨c1, c2, c3, c4, c5⟩ := go c S27
            refine ⟨rfl, _, _, F6, A7, ac ++ [y5], us ++ [v6], R7.grow ap _, ⟨fun a o z hA hT hL => ?_, c2, c3, c4, fun a o z => ?_⟩, ap, upd_same, (hac.mono S27.sF).app (.one hv6), e3⟩
            · rw [upd_ne hL]; exact c1 a o z hA hT hL
            · by_cases w : a = L
              · subst w; exact ⟨_, upd_same⟩
              · rw [upd_ne w]; exact c5 a o z
  · refine .inl ⟨wk.stop i H2 sF (by omega), ?_⟩
    rw [List.drop_eq_nil_of_le (by omega)] at e3
    simp only [lcL, Option.some.injEq, Prod.mk.injEq] at e3
    obtain ⟨rfl, rfl, rfl⟩ := e3
    obtain ⟨c1, c2, c3, c4, c5⟩ := c
    exact hK H2 F2 A2 us R2 c1 c2 c3 c4 c5 hap hDu hac
end
section
variable {Z : TSys} {X : Cx}
theorem lc_run {own is : List Nat} {src : ML Z} {g : G} {tt : MB Z} {el : M Z} (sub : ∀ j ∈ is, j ∈ own) {σ : L2.St} {H : Hp} {Q : VK} (h : denO Z 1 (mlc own src g tt el) σ H Q) :
    tLc (denI Z src) (denG Z is g) (denB Z tt) (den Z el) own σ H Q := by
  obtain ⟨ad, env, T, F, A, r, env', T', R, e, k⟩ := h
  unfold mlc at e
  cases q : src env T with
  | none => rw [q] at e; cases e
  | some z =>
    obtain ⟨ds, e1, t1⟩ := z
    rw [q] at e
    simp only at e
    by_cases hok : (ownOk e1 own && decide (ds.length ≤ sizeLine)) = true
    · rw [if_pos hok] at e
      have ok1 : ownOk e1 own = true := (Bool.and_eq_true_iff.mp hok).1
      have ok2 : ds.length ≤ sizeLine := of_decide_eq_true (Bool.and_eq_true_iff.mp hok).2
      cases q2 : lcL own g tt el ds [] (wipeE e1 own) t1 with
      | none => rw [q2] at e; cases e
      | some z2 =>
        obtain ⟨acc, e2, t2⟩ := z2
        rw [q2] at e
        simp only [Option.some.injEq, Prod.mk.injEq] at e
        obtain ⟨rfl, rfl, rfl⟩ := e
        refine ⟨ad, env, T, F, A, ds, e1, t1, R, q, fun J H1 F1 A1 R1 S1 wk L hL => ?_⟩
        obtain ⟨Aw, Rw, Sw⟩ := R1.wipe own
        obtain ⟨RD, SD⟩ := Rw.own hL (.lst [])
        obtain ⟨nD1, nD2⟩ := Rw.notin hL
        have fD : F1 L = none := R1.same.free hL
        refine lc_loop sub RD ⟨nD1, fD, nD2⟩ upd_same .nil wk (by have := (lcL_len q2).2; simp at this; omega) q2 fun H2 F2 A2 us R2 c1 c2 c3 c4 c5 ap hD hac => ?_
        have S2 : Stp Z ad Aw F1 H1 A2 F2 H2 := ⟨c2, fun a ha => ?_, fun a ha => ?_, fun a o e hA hT => ?_, fun a o e => ?_⟩
        · obtain ⟨A4, R4, S4⟩ := R1.rest ok1 c2 own (fun v hv => hv) R2 (env2 := e2) (A2 := A2)
          rw [restS_wipe] at R4
          have S := (S1.trans (Sw.trans S2)).trans S4
          obtain ⟨ap4, hD4⟩ := ap.step S4 hD
          refine k _ H2 F2 A4 [L] R4 S ⟨L, [], rfl, ap4.2.1, rfl, us, hD4, OwnL.ofHolds hac⟩ (by simp) fun a ha => ?_
          have ea : a = L := by simpa using ha
          subst ea
          exact ⟨ap4.1, S1.none hL, nD2⟩
        · rcases c3 a ha with w | w | w
          · exact .inl w
          · exact .inr (.inl w)
          · refine .inr (.inr ?_)
            by_cases z : a = L
            · rw [z]; exact hL
            · rw [upd_ne z] at w; exact w
        · rcases c4 a ha with w | w
          · exact .inl w
          · refine .inr ?_
            by_cases z : a = L
            · rw [z]; exact hL
            · rw [upd_ne z] at w; exact w
        · have ne : a ≠ L := fun z => by rw [z, hL] at e; cases e
          exact c1 a o (by rw [upd_ne ne]; exact e) hA hT ne
        · have ne : a ≠ L := fun z => by rw [z, hL] at e; cases e
          exact c5 a o (by rw [upd_ne ne]; exact e)
    · rw [if_neg hok] at e; cases e
end

/-! ### two clauses -/
def lc2L {Z : TSys} (own own1 : List Nat) (g : G) (tt : MB Z) (src1 : ML Z) (g1 : G) (tt1 : MB Z) (el : M Z) : List D → List D → List Sl → Z.T → Option (List D × List Sl × Z.T)
  | [], acc, e, t => some (acc, e, t)
  | d :: ds, acc, e, t => match g d (wipeE e own) with
    | some e1 => match tt e1 t with
      | some (true, e2, t2) => match src1 e2 t2 with
        | some (ds1, e3, t3) => match lcL own1 g1 tt1 el ds1 acc (wipeE e3 own1) t3 with
          | some (acc', e4, t4) => lc2L own own1 g tt src1 g1 tt1 el ds acc' (wipeE e4 own) t4
          | none => none
        | none => none
      | some (false, e2, t2) => lc2L own own1 g tt src1 g1 tt1 el ds acc (wipeE e2 own) t2
      | none => none
    | none => none
def mlc2 {Z : TSys} (own own1 : List Nat) (src : ML Z) (g : G) (tt : MB Z) (src1 : ML Z) (g1 : G) (tt1 : MB Z) (el : M Z) : M Z := fun e t => match src e t with
  | some (ds, e1, t1) => if ownOk e1 own then match lc2L own own1 g tt src1 g1 tt1 el ds [] (wipeE e1 own) t1 with
    | some (acc, e2, t2) => if acc.length ≤ sizeLine then some (.lst acc, restE e1 own e2, t2) else none
    | none => none
    else none
  | none => none
section
variable {Z : TSys}
theorem lc2L_len {own own1 : List Nat} {g : G} {tt : MB Z} {src1 : ML Z} {g1 : G} {tt1 : MB Z} {el : M Z} : ∀ {ds acc : List D} {e : List Sl} {t : Z.T} {r : List D} {e' : List Sl} {t' : Z.T}, lc2L own own1 g tt src1 g1 tt1 el ds acc e t = some (r, e', t') → acc.length ≤ r.length
  | [], acc, e, t, r, e', t', h => by
    simp only [lc2L, Option.some.injEq, Prod.mk.injEq] at h
    obtain ⟨rfl, rfl, rfl⟩ := h
    exact Nat.le_refl _
  | d :: ds, acc, e, t, r, e', t', h => by
    simp only [lc2L] at h
    cases q : g d (wipeE e own) with
    | none => rw [q] at h; cases h
    | some e1 =>
      rw [q] at h
      simp only at h
      cases q2 : tt e1 t with
      | none => rw [q2] at h; cases h
      | some z =>
        obtain ⟨b, e2, t2⟩ := z
        rw [q2] at h
        cases b with
        | false => exact lc2L_len h
        | true =>
          simp only at h
          cases q3 : src1 e2 t2 with
          | none => rw [q3] at h; cases h
          | some z3 =>
            obtain ⟨ds1, e3, t3⟩ := z3
            rw [q3] at h
            simp only at h
            cases q4 : lcL own1 g1 tt1 el ds1 acc (wipeE e3 own1) t3 with
            | none => rw [q4] at h; cases h
            | some z4 =>
              obtain ⟨acc', e4, t4⟩ := z4
              rw [q4] at h
              exact Nat.le_trans (lcL_len q4).1 (lc2L_len h)
theorem lc2_run {own own1 is is1 : List Nat} {src src1 : ML Z} {g g1 : G} {tt tt1 : MB Z} {el : M Z} (sub : ∀ j ∈ is, j ∈ own) (sub1 : ∀ j ∈ is1, j ∈ own1) (s11 : ∀ j ∈ own1, j ∈ own) {σ : L2.St} {H : Hp} {Q : VK} (h : denO Z 1 (mlc2 own own1 src g tt src1 g1 tt1 el) σ H Q) :
    tLc2 (denI Z src) (denG Z is g) (denB Z tt) (denI Z src1) (denG Z is1 g1) (denB Z tt1) (den Z el) own own1 σ H Q := by
  obtain ⟨ad, env, T, F, A, r, env', T', R, e, k⟩ := h
  unfold mlc2 at e
  cases q : src env T with
  | none => rw [q] at e; cases e
  | some z =>
    obtain ⟨ds, e1, t1⟩ := z
    rw [q] at e
    simp only at e
    by_cases ok1 : ownOk e1 own = true
    · rw [if_pos ok1] at e
      cases q2 : lc2L own own1 g tt src1 g1 tt1 el ds [] (wipeE e1 own) t1 with
      | none => rw [q2] at e; cases e
      | some z2 =>
        obtain ⟨acc, e2, t2⟩ := z2
        rw [q2] at e
        simp only at e
        by_cases ok2 : acc.length ≤ sizeLine
        · rw [if_pos ok2] at e
          simp only [Option.some.injEq, Prod.mk.injEq] at e
          obtain ⟨rfl, rfl, rfl⟩ := e
          refine ⟨ad, env, T, F, A, ds, e1, t1, R, q, fun J H1 F1 A1 R1 S1 wk L hL => ?_⟩
          obtain ⟨Aw, Rw, Sw⟩ := R1.wipe own
          obtain ⟨RD, SD⟩ := Rw.own hL (.lst [])
          obtain ⟨nD1, nD2⟩ := Rw.notin hL
          have fD : F1 L = none := R1.same.free hL
          let W : Nat → Nat → Hp → Prop := fun i m H' => m = ds.length - i ∧ ∃ (en : List Sl) (T2 : Z.T) (F2 : Hp) (A2 : List Addr) (ac : List D) (us : List V),
            Rel Z ad en T2 F2 (L2.wipe σ own) H' A2 ∧ Stp Z ad Aw F1 H1 A2 F2 H' ∧ Out Z ad L A2 F2 ∧ H' L = some (.lst us) ∧ HoldsL (Z.root ad) F2 ac us ∧ lc2L own own1 g tt src1 g1 tt1 el (ds.drop i) ac en T2 = some (acc, e2, t2)
          refine ⟨W, ⟨ds.length, by simp, wipeE e1 own, t1, F1, Aw, [], [], RD, SD, ⟨nD1, fD, nD2⟩, upd_same, .nil, q2⟩, ?_⟩
          rintro i m H2 ⟨rfl, en, T2, F2, A2, ac, us, R2, S2, hap, hDu, hac, e3⟩
          have sF : Same F1 H2 := S2.sF.trans R2.same
          by_cases hlt : i < ds.length
          · refine .inr ⟨wk.go i H2 ds[i] sF (List.getElem?_eq_getElem hlt), fun H' => W (i + 1) (ds.length - (i + 1)) H', fun H' h => ⟨_, by omega, h⟩, fun x H3 y => ?_⟩
            obtain ⟨F3, n3, hx⟩ := wk.yld i H2 ds[i] x H3 F2 sF R2.same S2.sF (List.getElem?_eq_getElem hlt) y
            obtain ⟨R3, S3⟩ := R2.new n3
            rw [List.drop_eq_getElem_cons hlt] at e3
            simp only [lc2L] at e3
            cases q3 : g ds[i] (wipeE en own) with
            | none => rw [q3] at e3; cases e3
            | some e4 =>
              rw [q3] at e3
              simp only at e3
              obtain ⟨A3w, R3w, S3w⟩ := R3.wipe own
              rw [wipe_wipe] at R3w
              refine ⟨ad, wipeE en own, T2, F3, A3w, ds[i], e4, R3w, hx, q3, fun σ4 A4 R4 S4 l4 o4 => ?_⟩
              have eσ : L2.wipe σ4 own = L2.wipe σ own := by
                rw [wipe_agree (τ := L2.wipe σ own) l4 fun j hj => o4 j fun z => hj (sub j z), wipe_wipe]
              refine ⟨eσ, ?_⟩
              have S24 := (S3.trans S3w).trans S4
              cases q4 : tt e4 T2 with
              | none => rw [q4] at e3; cases e3
              | some z4 =>
                obtain ⟨b4, e5, t5⟩ := z4
                rw [q4] at e3
                refine ⟨ad, e4, T2, F3, A4, b4, e5, t5, R4, q4, fun H5 F5 A5 R5 S5 => ?_⟩
                have S25 := S24.trans S5
                cases b4 with
                | false =>
                  simp only at e3
                  refine iteF ?_
                  obtain ⟨A6, R6, S6⟩ := R5.wipe own
                  rw [eσ] at R6
                  have S26 := S25.trans S6
                  obtain ⟨ap, hD6⟩ := hap.step S26 hDu
                  exact ⟨rfl, _, _, F5, A6, ac, us, R6, S2.trans S26, ap, hD6, hac.mono S26.sF, e3⟩
                | true =>
                  simp only at e3
                  refine iteT ?_
                  cases q5 : src1 e5 t5 with
                  | none => rw [q5] at e3; cases e3
                  | some z5 =>
                    obtain ⟨ds1, e6, t6⟩ := z5
                    rw [q5] at e3
                    simp only at e3
                    cases q6 : lcL own1 g1 tt1 el ds1 ac (wipeE e6 own1) t6 with
                    | none => rw [q6] at e3; cases e3
                    | some z6 =>
                      obtain ⟨ac7, e7, t7⟩ := z6
                      rw [q6] at e3
                      simp only at e3
                      refine ⟨ad, e5, t5, F5, A5, ds1, e6, t6, R5, q5, fun J1 H6 F6 A6 R6 S6 wk1 => ?_⟩
                      have S26 := S25.trans S6
                      obtain ⟨ap6, hD6⟩ := hap.step S26 hDu
                      obtain ⟨A6w, R6w, S6w⟩ := R6.wipe own1
                      obtain ⟨ap6w, hD6w⟩ := ap6.step S6w hD6
                      have hl2 := lc2L_len e3
                      have c26 := S2.trans (S26.trans S6w)
                      refine lc_loop sub1 R6w ap6w hD6w (hac.mono S26.sF) wk1 (by omega) q6 fun H8 F8 A8 us8 R8 c1 c2 c3 c4 c5 ap8 hD8 hac8 => ?_
                      obtain ⟨A9, R9, S9⟩ := R8.wipe own
                      have eσ2 : L2.wipe (L2.wipe σ4 own1) own = L2.wipe σ own := by
                        rw [← eσ]
                        exact wipe_agree (wipe_length _ _) fun j hj => wipe_off fun z => hj (s11 j z)
                      rw [eσ2] at R9
                      obtain ⟨ap9, hD9⟩ := ap8.step S9 hD8
                      have S28 : Stp Z ad Aw F1 H1 A8 F8 H8 := ⟨c26.sF.trans c2, fun a ha => ?_, fun a ha => ?_, fun a o e hA hT => ?_, fun a o e => ?_⟩
                      · exact ⟨rfl, _, _, F8, A9, ac7, us8, R9, S28.trans S9, ap9, hD9, hac8, e3⟩
                      · rcases c3 a ha with w | w | w
                        · exact c26.nF a w
                        · exact .inr (c26.nA a w)
                        · exact .inr (.inr (c26.none w))
                      · rcases c4 a ha with w | w
                        · exact c26.nA a w
                        · exact .inr (c26.none w)
                      · refine c1 a o (c26.fr a o e hA hT) (fun z => ?_) hT fun z => by rw [z, hL] at e; cases e
                        rcases c26.nA a z with w | w
                        · exact hA w
                        · rw [e] at w; cases w
                      · obtain ⟨o', e'⟩ := c26.ex a o e
                        exact c5 a o' e'
          · refine .inl ⟨wk.stop i H2 sF (by omega), ?_⟩
            rw [List.drop_eq_nil_of_le (by omega)] at e3
            simp only [lc2L, Option.some.injEq, Prod.mk.injEq] at e3
            obtain ⟨rfl, rfl, rfl⟩ := e3
            obtain ⟨A4, R4, S4⟩ := R1.rest ok1 S2.sF own (fun v hv => hv) R2 (env2 := en) (A2 := A2)
            rw [restS_wipe] at R4
            have S := (S1.trans (Sw.trans S2)).trans S4
            obtain ⟨ap4, hD4⟩ := hap.step S4 hDu
            refine k _ H2 F2 A4 [L] R4 S ⟨L, [], rfl, ap4.2.1, rfl, us, hD4, OwnL.ofHolds hac⟩ (by simp) fun a ha => ?_
            have ea : a = L := by simpa using ha
            subst ea
            exact ⟨ap4.1, S1.none hL, nD2⟩
        · rw [if_neg ok2] at e; cases e
    · rw [if_neg ok1] at e; cases e
end

/-! ### the judgements -/
theorem den_O {Z : TSys} {n : Nat} {m : M Z} {σ : L2.St} {H : Hp} {Q : VK} (h : den Z m σ H Q) : denO Z n m σ H Q := by
  obtain ⟨ad, env, T, F, A, r, env', T', R, e, k⟩ := h
  refine ⟨ad, env, T, F, A, r, env', T', R, e, fun v H' F' A' B R' S' ho nd hB => ?_⟩
  obtain ⟨R2, s2, h2, n2⟩ := R'.frzB ho fun a ha => ⟨(hB a ha).1, (hB a ha).2.2⟩
  refine k v H' _ A' R2 ⟨S'.sF.trans s2, fun a ha => ?_, S'.nA, S'.fr, S'.ex⟩ h2
  rcases n2 a ha with z | z
  · exact S'.nF a z
  · exact .inr (.inr (hB a z).2.1)
section
variable {Z : TSys} {X : Cx} {elt tg iter tg1 iter1 : Expr} {ifs ifs1 : List Expr} {scope : Scope} {own : List (Str × Nat)} {pos spos : Pos} {src src1 : ML Z} {is is1 own1 : List Nat} {g g1 : G} {tt tt1 : MB Z} {el : M Z}
theorem io_lc (own : List (Str × Nat)) (hc : X.calm = true) (hN : X.N.Nodup) (hi : IsI Z X tg iter src) (ok : BlkOk X.N X.env.scope scope own)
    (hg : ∀ (s : Shared) (H : Hp) (C : Addr) (cl : List (Str × Addr)) (fp : List Addr), IsG Z (X.blk s H scope (compEnvC scope cl C X.env) fp) tg is g) (ht : ∀ (s : Shared) (H : Hp) (C : Addr) (cl : List (Str × Addr)) (fp : List Addr), IsTs Z (X.blk s H scope (compEnvC scope cl C X.env) fp) ifs tt)
    (he : ∀ (s : Shared) (H : Hp) (C : Addr) (cl : List (Str × Addr)) (fp : List Addr), IsE Z (X.blk s H scope (compEnvC scope cl C X.env) fp) elt el) (sub : ∀ j ∈ is, j ∈ own.map (·.2) := by decide) (hs : ∀ x, foldedSetIterable iter X.env x = pure x := by intro _; rfl) :
    IsO Z 1 X (.ListComp elt [⟨tg, iter, ifs, 0⟩] scope pos) (mlc (own.map (·.2)) src g tt el) :=
  ⟨PE.imp (pe_lc hc hN hi.pi ok (fun s H C cl fp => (hg s H C cl fp).pg) (fun s H C cl fp => (ht s H C cl fp).pt) (fun s H C cl fp => (he s H C cl fp).pe) hs) fun σ H Q h => lc_run sub h⟩
theorem is_lcO (own : List (Str × Nat)) {i : Nat} {y : Str} {py : Pos} (hc : X.calm = true) (hN : X.N.Nodup) (hy : X.N[i]? = some y) (hyl : X.env.scope.names.lookup y = some .local)
    (hsw : swapsWith (.ListComp elt [⟨tg, iter, ifs, 0⟩] scope pos) (some (.Name y py)) spos.line X.env = pure true) (hi : IsI Z X tg iter src) (ok : BlkOk X.N X.env.scope scope own)
    (hg : ∀ (s : Shared) (H : Hp) (C : Addr) (cl : List (Str × Addr)) (fp : List Addr), IsG Z (X.blk s H scope (compEnvC scope cl C X.env) fp) tg is g) (ht : ∀ (s : Shared) (H : Hp) (C : Addr) (cl : List (Str × Addr)) (fp : List Addr), IsTs Z (X.blk s H scope (compEnvC scope cl C X.env) fp) ifs tt)
    (he : ∀ (s : Shared) (H : Hp) (C : Addr) (cl : List (Str × Addr)) (fp : List Addr), IsE Z (X.blk s H scope (compEnvC scope cl C X.env) fp) elt el) (sub : ∀ j ∈ is, j ∈ own.map (·.2) := by decide) (hs : ∀ x, foldedSetIterable iter X.env x = pure x := by intro _; rfl) :
    IsS Z X (.Assign [.Name y py] (.ListComp elt [⟨tg, iter, ifs, 0⟩] scope pos) spos) (ssetO i 1 (mlc (own.map (·.2)) src g tt el)) :=
  ⟨PS.imp (ps_setLc hc hN hy hyl hsw hi.pi ok (fun s H C cl fp => (hg s H C cl fp).pg) (fun s H C cl fp => (ht s H C cl fp).pt) (fun s H C cl fp => (he s H C cl fp).pe) hs) fun D σ H h => setO_core (fun _ _ _ h => lc_run sub h) h⟩
theorem is_lc (own : List (Str × Nat)) {i : Nat} {y : Str} {py : Pos} (hc : X.calm = true) (hN : X.N.Nodup) (hy : X.N[i]? = some y) (hyl : X.env.scope.names.lookup y = some .local)
    (hsw : swapsWith (.ListComp elt [⟨tg, iter, ifs, 0⟩] scope pos) (some (.Name y py)) spos.line X.env = pure true) (hi : IsI Z X tg iter src) (ok : BlkOk X.N X.env.scope scope own)
    (hg : ∀ (s : Shared) (H : Hp) (C : Addr) (cl : List (Str × Addr)) (fp : List Addr), IsG Z (X.blk s H scope (compEnvC scope cl C X.env) fp) tg is g) (ht : ∀ (s : Shared) (H : Hp) (C : Addr) (cl : List (Str × Addr)) (fp : List Addr), IsTs Z (X.blk s H scope (compEnvC scope cl C X.env) fp) ifs tt)
    (he : ∀ (s : Shared) (H : Hp) (C : Addr) (cl : List (Str × Addr)) (fp : List Addr), IsE Z (X.blk s H scope (compEnvC scope cl C X.env) fp) elt el) (sub : ∀ j ∈ is, j ∈ own.map (·.2) := by decide) (hs : ∀ x, foldedSetIterable iter X.env x = pure x := by intro _; rfl) :
    IsS Z X (.Assign [.Name y py] (.ListComp elt [⟨tg, iter, ifs, 0⟩] scope pos) spos) (sset i (mlc (own.map (·.2)) src g tt el)) :=
  ⟨PS.imp (ps_setLc hc hN hy hyl hsw hi.pi ok (fun s H C cl fp => (hg s H C cl fp).pg) (fun s H C cl fp => (ht s H C cl fp).pt) (fun s H C cl fp => (he s H C cl fp).pe) hs) fun D σ H h => set_core (fun _ _ _ h => lc_run sub (den_O h)) h⟩
theorem io_lc2 (own : List (Str × Nat)) (own1 : List Nat) (hc : X.calm = true) (hN : X.N.Nodup) (hi : IsI Z X tg iter src) (ok : BlkOk X.N X.env.scope scope own) (s11 : ∀ j ∈ own1, j ∈ own.map (·.2))
    (hg : ∀ (s : Shared) (H : Hp) (C : Addr) (cl : List (Str × Addr)) (fp : List Addr), IsG Z (X.blk s H scope (compEnvC scope cl C X.env) fp) tg is g) (ht : ∀ (s : Shared) (H : Hp) (C : Addr) (cl : List (Str × Addr)) (fp : List Addr), IsTs Z (X.blk s H scope (compEnvC scope cl C X.env) fp) ifs tt)
    (hi1 : ∀ (s : Shared) (H : Hp) (C : Addr) (cl : List (Str × Addr)) (fp : List Addr), IsI Z (X.blk s H scope (compEnvC scope cl C X.env) fp) tg1 iter1 src1)
    (hg1 : ∀ (s : Shared) (H : Hp) (C : Addr) (cl : List (Str × Addr)) (fp : List Addr), IsG Z (X.blk s H scope (compEnvC scope cl C X.env) fp) tg1 is1 g1) (ht1 : ∀ (s : Shared) (H : Hp) (C : Addr) (cl : List (Str × Addr)) (fp : List Addr), IsTs Z (X.blk s H scope (compEnvC scope cl C X.env) fp) ifs1 tt1)
    (he : ∀ (s : Shared) (H : Hp) (C : Addr) (cl : List (Str × Addr)) (fp : List Addr), IsE Z (X.blk s H scope (compEnvC scope cl C X.env) fp) elt el) (sub : ∀ j ∈ is, j ∈ own.map (·.2) := by decide) (sub1 : ∀ j ∈ is1, j ∈ own1 := by decide) (hs : ∀ x, foldedSetIterable iter X.env x = pure x := by intro _; rfl) (hs1 : ∀ env x, foldedSetIterable iter1 env x = pure x := by intro _ _; rfl) :
    IsO Z 1 X (.ListComp elt [⟨tg, iter, ifs, 0⟩, ⟨tg1, iter1, ifs1, 0⟩] scope pos) (mlc2 (own.map (·.2)) own1 src g tt src1 g1 tt1 el) :=
  ⟨PE.imp (pe_lc2 hc hN hi.pi ok s11 (fun s H C cl fp => (hg s H C cl fp).pg) (fun s H C cl fp => (ht s H C cl fp).pt) (fun s H C cl fp => (hi1 s H C cl fp).pi) (fun s H C cl fp => (hg1 s H C cl fp).pg) (fun s H C cl fp => (ht1 s H C cl fp).pt) (fun s H C cl fp => (he s H C cl fp).pe) hs hs1) fun σ H Q h => lc2_run sub sub1 s11 h⟩
theorem is_lc2 (own : List (Str × Nat)) (own1 : List Nat) {i : Nat} {y : Str} {py : Pos} (hc : X.calm = true) (hN : X.N.Nodup) (hy : X.N[i]? = some y) (hyl : X.env.scope.names.lookup y = some .local)
    (hsw : swapsWith (.ListComp elt [⟨tg, iter, ifs, 0⟩, ⟨tg1, iter1, ifs1, 0⟩] scope pos) (some (.Name y py)) spos.line X.env = pure true) (hi : IsI Z X tg iter src) (ok : BlkOk X.N X.env.scope scope own) (s11 : ∀ j ∈ own1, j ∈ own.map (·.2))
    (hg : ∀ (s : Shared) (H : Hp) (C : Addr) (cl : List (Str × Addr)) (fp : List Addr), IsG Z (X.blk s H scope (compEnvC scope cl C X.env) fp) tg is g) (ht : ∀ (s : Shared) (H : Hp) (C : Addr) (cl : List (Str × Addr)) (fp : List Addr), IsTs Z (X.blk s H scope (compEnvC scope cl C X.env) fp) ifs tt)
    (hi1 : ∀ (s : Shared) (H : Hp) (C : Addr) (cl : List (Str × Addr)) (fp : List Addr), IsI Z (X.blk s H scope (compEnvC scope cl C X.env) fp) tg1 iter1 src1)
    (hg1 : ∀ (s : Shared) (H : Hp) (C : Addr) (cl : List (Str × Addr)) (fp : List Addr), IsG Z (X.blk s H scope (compEnvC scope cl C X.env) fp) tg1 is1 g1) (ht1 : ∀ (s : Shared) (H : Hp) (C : Addr) (cl : List (Str × Addr)) (fp : List Addr), IsTs Z (X.blk s H scope (compEnvC scope cl C X.env) fp) ifs1 tt1)
    (he : ∀ (s : Shared) (H : Hp) (C : Addr) (cl : List (Str × Addr)) (fp : List Addr), IsE Z (X.blk s H scope (compEnvC scope cl C X.env) fp) elt el) (sub : ∀ j ∈ is, j ∈ own.map (·.2) := by decide) (sub1 : ∀ j ∈ is1, j ∈ own1 := by decide) (hs : ∀ x, foldedSetIterable iter X.env x = pure x := by intro _; rfl) (hs1 : ∀ env x, foldedSetIterable iter1 env x = pure x := by intro _ _; rfl) :
    IsS Z X (.Assign [.Name y py] (.ListComp elt [⟨tg, iter, ifs, 0⟩, ⟨tg1, iter1, ifs1, 0⟩] scope pos) spos) (sset i (mlc2 (own.map (·.2)) own1 src g tt src1 g1 tt1 el)) :=
  ⟨PS.imp (ps_setLc2 hc hN hy hyl hsw hi.pi ok s11 (fun s H C cl fp => (hg s H C cl fp).pg) (fun s H C cl fp => (ht s H C cl fp).pt) (fun s H C cl fp => (hi1 s H C cl fp).pi) (fun s H C cl fp => (hg1 s H C cl fp).pg) (fun s H C cl fp => (ht1 s H C cl fp).pt) (fun s H C cl fp => (he s H C cl fp).pe) hs hs1) fun D σ H h => set_core (fun _ _ _ h => lc2_run sub sub1 s11 (den_O h)) h⟩
end
end DL

/-! The data layer, 7: pure operations. -/
namespace DL
open PySem L2

/-! ### helpers -/
def intsD : List D → Option (List Int)
  | [] => some []
  | .int i :: r => match intsD r with
    | some l => some (i :: l)
    | none => none
  | _ :: _ => none
def blsD : List D → Option (List Bool)
  | [] => some []
  | .bl i :: r => match blsD r with
    | some l => some (i :: l)
    | none => none
  | _ :: _ => none
def strsD : List D → Option (List Str)
  | [] => some []
  | .str i :: r => match strsD r with
    | some l => some (i :: l)
    | none => none
  | _ :: _ => none
@[simp] theorem intsD_map (ns : List Int) : intsD (ns.map .int) = some ns := by induction ns with | nil => rfl | cons a r ih => simp [intsD, ih]
@[simp] theorem blsD_map (ns : List Bool) : blsD (ns.map .bl) = some ns := by induction ns with | nil => rfl | cons a r ih => simp [blsD, ih]
@[simp] theorem strsD_map (ns : List Str) : strsD (ns.map .str) = some ns := by induction ns with | nil => rfl | cons a r ih => simp [strsD, ih]
theorem intsD_inv : ∀ {ds : List D} {ns : List Int}, intsD ds = some ns → ds = ns.map .int
  | [], _, h => by simp only [intsD, Option.some.injEq] at h; subst h; rfl
  | d :: r, ns, h => by
    cases d with
    | int i =>
      simp only [intsD] at h
      cases q : intsD r with
      | none => rw [q] at h; cases h
      | some l => rw [q] at h; simp only [Option.some.injEq] at h; subst h; rw [intsD_inv q]; rfl
    | _ => cases h
theorem blsD_inv : ∀ {ds : List D} {ns : List Bool}, blsD ds = some ns → ds = ns.map .bl
  | [], _, h => by simp only [blsD, Option.some.injEq] at h; subst h; rfl
  | d :: r, ns, h => by
    cases d with
    | bl i =>
      simp only [blsD] at h
      cases q : blsD r with
      | none => rw [q] at h; cases h
      | some l => rw [q] at h; simp only [Option.some.injEq] at h; subst h; rw [blsD_inv q]; rfl
    | _ => cases h
theorem strsD_inv : ∀ {ds : List D} {ns : List Str}, strsD ds = some ns → ds = ns.map .str
  | [], _, h => by simp only [strsD, Option.some.injEq] at h; subst h; rfl
  | d :: r, ns, h => by
    cases d with
    | str i =>
      simp only [strsD] at h
      cases q : strsD r with
      | none => rw [q] at h; cases h
      | some l => rw [q] at h; simp only [Option.some.injEq] at h; subst h; rw [strsD_inv q]; rfl
    | _ => cases h
section
variable {rt : V} {F H : Hp}
theorem holds_ints : ∀ {ns : List Int} {vs : List V}, HoldsL rt F (ns.map .int) vs → vs = ns.map V.int
  | [], _, h => by simpa only [List.map_nil, HoldsL] using h
  | n :: r, _, h => by
    simp only [List.map_cons, HoldsL, Holds] at h
    obtain ⟨v, t, rfl, rfl, h⟩ := h
    rw [holds_ints h]; rfl
theorem holds_bls : ∀ {ns : List Bool} {vs : List V}, HoldsL rt F (ns.map .bl) vs → vs = ns.map V.bl
  | [], _, h => by simpa only [List.map_nil, HoldsL] using h
  | n :: r, _, h => by
    simp only [List.map_cons, HoldsL, Holds] at h
    obtain ⟨v, t, rfl, rfl, h⟩ := h
    rw [holds_bls h]; rfl
theorem holds_strs : ∀ {ns : List Str} {vs : List V}, HoldsL rt F (ns.map .str) vs → vs = ns.map V.str
  | [], _, h => by simpa only [List.map_nil, HoldsL] using h
  | n :: r, _, h => by
    simp only [List.map_cons, HoldsL, Holds] at h
    obtain ⟨v, t, rfl, rfl, h⟩ := h
    rw [holds_strs h]; rfl
theorem hbl1 {d : D} {vs : List V} (h : HBL rt F H [d] vs) : ∃ v, vs = [v] ∧ HB rt F H d v := by
  obtain ⟨v, r, rfl, h1, rfl⟩ := h
  exact ⟨v, rfl, h1⟩
theorem hbl2 {d e : D} {vs : List V} (h : HBL rt F H [d, e] vs) : ∃ v w, vs = [v, w] ∧ HB rt F H d v ∧ HB rt F H e w := by
  obtain ⟨v, r, rfl, h1, w, r2, rfl, h2, rfl⟩ := h
  exact ⟨v, w, rfl, h1, h2⟩
theorem HB.int {i : Int} {v : V} (h : HB rt F H (.int i) v) : v = .int i := by simpa only [HB, Holds] using h
theorem HB.bl {i : Bool} {v : V} (h : HB rt F H (.bl i) v) : v = .bl i := by simpa only [HB, Holds] using h
theorem HB.str {i : Str} {v : V} (h : HB rt F H (.str i) v) : v = .str i := by simpa only [HB, Holds] using h
theorem HB.non {v : V} (h : HB rt F H .non v) : v = .non := by simpa only [HB, Holds] using h
theorem HB.tup {ds : List D} {v : V} (h : HB rt F H (.tup ds) v) : ∃ a vs, v = .ref a ∧ TupF F a vs ∧ HoldsL rt F ds vs := by simpa only [HB, Holds] using h
theorem HB.lst {ds : List D} {v : V} (h : HB rt F H (.lst ds) v) : ∃ a vs, v = .ref a ∧ H a = some (.lst vs) ∧ HoldsL rt F ds vs := h
/-- a list or a tuple -/
theorem HB.seq {K : PySem.W.Frag} (s : Same F H) {d : D} {ds : List D} {v : V} (h : HB rt F H d v) (e : d = .lst ds ∨ d = .tup ds) : ∃ a vs, v = .ref a ∧ (SqL K H a vs ∨ SqT K H a vs) ∧ HoldsL rt F ds vs := by
  rcases e with rfl | rfl
  · obtain ⟨a, vs, e, f, l⟩ := h.lst
    exact ⟨a, vs, e, .inl (SqL.of f), l⟩
  · obtain ⟨a, vs, e, f, l⟩ := h.tup
    exact ⟨a, vs, e, .inr (f.mono s).sq, l⟩
end
/-- a result without a new object -/
theorem fin0 {rt : V} {F H : Hp} {d : D} {v : V} {Q : VK} (s : Same F H) (k : ∀ v F' H', New F H F' H' → Holds rt F' d v → Q v H') (h : Holds rt F d v) : Q v H := k v F H (New.refl s) h

/-! ### a new tuple, its object known -/
theorem TupF.new {F : Hp} {p : Addr} {o : Obj} {vs : List V} (ho : o.dict = none) : TupF (upd F p (.frz o (.tup vs))) p vs := ⟨o, upd_same, ho⟩
theorem finT {rt : V} {F H : Hp} {ds : List D} {vs : List V} {Q : VK} {p : Addr} {o : Obj} (s : Same F H) (k : ∀ v F' H', New F H F' H' → Holds rt F' (.tup ds) v → Q v H') (hp : H p = none) (ho : o.dict = none) (h : HoldsL rt F ds vs) :
    Q (.ref p) (upd H p (.frz o (.tup vs))) := k _ _ _ (New.upd s hp _) (by
  simp only [Holds]
  exact ⟨p, vs, rfl, TupF.new ho, h.mono (New.upd s hp _).sF⟩)
section
variable {X : Cx}
def rCatF (K : PySem.W.Frag) : R2 := fun x y H Q => ∃ a b xs ys, x = .ref a ∧ y = .ref b ∧ SqT K H a xs ∧ SqT K H b ys ∧ xs.length + ys.length ≤ sizeLine ∧
  (xs = [] → Q (.ref b) H) ∧ (xs ≠ [] → ys = [] → Q (.ref a) H) ∧ (xs ≠ [] → ys ≠ [] → ∀ p o, H p = none → o.dict = none → Q (.ref p) (upd H p (.frz o (.tup (xs ++ ys)))))
theorem op_catF : OpR X (binaryOp .Add) (rCatF X.K) := by
  intro pins s σ H x y v u Q I rx ry h
  obtain ⟨a, b, xs, ys, rfl, rfl, ha, hb, hz, q0, q1, q2⟩ := h
  cases rx
  cases ry
  obtain ⟨its, r1, p1, _⟩ := I.tuple ha
  obtain ⟨its2, r2, p2, _⟩ := I.tuple hb
  by_cases hx : xs = []
  · subst hx
    cases r1
    exact cat_tup0 p1 p2 ⟨.ref b, H, I, rfl, q0 rfl⟩
  · refine HT.cat_tup p1 p2 (fun z => hx (r1.nil_iff.mp z)) (fun z => ⟨.ref a, H, I, rfl, q1 hx (r2.nil_iff.mp z)⟩) (fun z => ?_) (by rw [← r1.length, ← r2.length]; exact hz)
    exact ⟨.ref s.heap.objs.size, _, laidT I (r1.append r2) (by rw [List.length_append]; exact hz) s.toks, rfl, q2 hx (fun w => z (r2.nil_iff.mpr w)) _ _ (I.hok.fresh (Nat.le_refl _)) rfl⟩
def rSlF (K : PySem.W.Frag) : V → Option Int → Option Int → Hp → VK → Prop := fun x lo hi H Q => ∃ a xs, x = .ref a ∧ SqT K H a xs ∧
  (cutV xs lo hi = xs → Q (.ref a) H) ∧ (∀ p o, H p = none → o.dict = none → Q (.ref p) (upd H p (.frz o (.tup (cutV xs lo hi)))))
theorem sl_tupF : L2.SlR X (rSlF X.K) := by
  intro pins s σ H x v vl vu lo hi sl Q I rx hs pl pu h
  obtain ⟨a, xs, rfl, hx, q1, q2⟩ := h
  cases rx
  obtain ⟨its, r, ht, hz⟩ := I.tuple hx
  have hlen : its.toArray.size = xs.length := by rw [List.size_toArray]; exact r.length.symm
  refine ⟨"tuple", _, PyProof.Rows.slot_tuple_getitem.lookup, ht.typeIs, ?_⟩
  by_cases hw : HT.sIx xs.length 0 lo = 0 ∧ HT.sIx xs.length xs.length hi = xs.length
  · refine getItem_tuple_whole ht hs pl pu (by rw [hlen]; exact hw) ⟨.ref a, H, I, rfl, q1 ?_⟩
    unfold cutV
    rw [hw.1, hw.2]; simp
  · refine HT.getItem_tuple_cut ht hs pl pu (by rw [hlen]; exact hw) ?_ (by rw [hlen]; exact hz)
    rw [hlen]
    exact ⟨.ref s.heap.objs.size, _, laidT I ((r.drop (HT.sIx xs.length 0 lo)).take (HT.sIx xs.length xs.length hi - HT.sIx xs.length 0 lo)) (Nat.le_trans (cutV_length xs lo hi) hz) s.toks, rfl, q2 _ _ (I.hok.fresh (Nat.le_refl _)) rfl⟩
theorem call_tuple_F : CallR X (.type "tuple") (fun xs H Q => ∃ p ys, xs = [.ref p] ∧ ((SqL X.K H p ys ∧ ∀ l o, H l = none → o.dict = none → Q (.ref l) (upd H l (.frz o (.tup ys)))) ∨ (SqT X.K H p ys ∧ Q (.ref p) H))) := by
  intro pins s σ H xs us Q I r h
  obtain ⟨p, ys, rfl, h⟩ := h
  obtain ⟨u, rfl, rx⟩ := vals1 r
  cases rx
  rcases h with ⟨hq, q⟩ | ⟨hq, q⟩
  · obtain ⟨its, r', pl, hz⟩ := I.list hq
    have hlen := r'.length
    refine PySem.call_tuple_list pl.isList (fun h' kp => ?_) (by simp only [List.size_toArray] <;> omega)
    have I1 : Inv X pins σ H { s with heap := h' } := I.kept (t' := s.toks) kp
    exact ⟨.ref h'.objs.size, _, laidT I1 r' hz s.toks, rfl, q _ _ (I1.hok.fresh (Nat.le_refl _)) rfl⟩
  · obtain ⟨its, r', pl, hz⟩ := I.tuple hq
    exact PySem.call_tuple_same pl ⟨.ref p, H, I, rfl, q⟩
end

/-! ### + - * // % -/
def addD : D → D → Option D
  | .int i, .int j => some (.int (i + j))
  | .str x, .str y => if x.length + y.length ≤ sizeLine then some (.str (x ++ y)) else none
  | .tup xs, .tup ys => if xs.length + ys.length ≤ sizeLine then some (.tup (xs ++ ys)) else none
  | .lst xs, .lst ys => if xs.length + ys.length ≤ sizeLine then some (.lst (xs ++ ys)) else none
  | _, _ => none
def catN : D → D → Option (List D)
  | .lst xs, .lst ys => if xs.length + ys.length ≤ sizeLine then some (xs ++ ys) else none
  | _, _ => none
theorem od_cat : OpN rCat catN := by
  intro rt F H dx dy ds x y Q s hx hy e k
  cases dx with
  | lst xs =>
    cases dy with
    | lst ys =>
      simp only [catN] at e
      split at e
      · rename_i hz
        simp only [Option.some.injEq] at e
        subst e
        obtain ⟨a, vs, rfl, f, l⟩ := hx.lst
        obtain ⟨b, us, rfl, f2, l2⟩ := hy.lst
        exact ⟨a, b, vs, us, rfl, rfl, f, f2, by rw [l.length, l2.length]; exact hz, fun p hp => k p _ hp (l.app l2)⟩
      · cases e
    | _ => cases e
  | _ => cases e
def rAddAll (K : PySem.W.Frag) : R2 := fun x y H Q => (rI0 fun i j => .int (i + j)) x y H Q ∨ (∃ i j, x = .str i ∧ y = .str j ∧ i.length + j.length ≤ sizeLine ∧ Q (.str (i ++ j)) H) ∨ rCatF K x y H Q ∨ rCat x y H Q
theorem op_addAll {X : Cx} : OpR X (binaryOp .Add) (rAddAll X.K) := op_add.or (op_add_str.or (op_catF.or op_cat))
theorem od_add {K : PySem.W.Frag} : OpD (rAddAll K) addD := by
  intro rt F H dx dy d x y Q s hx hy e k
  cases dx with
  | int i =>
    cases dy with
    | int j =>
      simp only [addD, Option.some.injEq] at e
      subst e
      exact .inl ⟨i, j, hx.int, hy.int, fin0 s k (by simp only [Holds])⟩
    | _ => cases e
  | str i =>
    cases dy with
    | str j =>
      simp only [addD] at e
      split at e
      · rename_i hz
        simp only [Option.some.injEq] at e
        subst e
        exact .inr (.inl ⟨i, j, hx.str, hy.str, hz, fin0 s k (by simp only [Holds])⟩)
      · cases e
    | _ => cases e
  | tup xs =>
    cases dy with
    | tup ys =>
      simp only [addD] at e
      split at e
      · rename_i hz
        simp only [Option.some.injEq] at e
        subst e
        obtain ⟨a, vs, rfl, f, l⟩ := hx.tup
        obtain ⟨b, us, rfl, f2, l2⟩ := hy.tup
        refine .inr (.inr (.inl ⟨a, b, vs, us, rfl, rfl, (f.mono s).sq, (f2.mono s).sq, by rw [l.length, l2.length]; exact hz, fun e => ?_, fun _ e => ?_, fun _ _ p o hp ho => finT s k hp ho (l.app l2)⟩))
        · subst e
          have : xs = [] := List.eq_nil_of_length_eq_zero l.length.symm
          subst this
          exact fin0 s k (by simp only [Holds]; exact ⟨b, us, rfl, f2, l2⟩)
        · subst e
          have : ys = [] := List.eq_nil_of_length_eq_zero l2.length.symm
          subst this
          rw [List.append_nil] at k
          exact fin0 s k (by simp only [Holds]; exact ⟨a, vs, rfl, f, l⟩)
      · cases e
    | _ => cases e
  | lst xs =>
    cases dy with
    | lst ys =>
      simp only [addD] at e
      refine .inr (.inr (.inr (od_cat.toD rt F H (.lst xs) (.lst ys) d x y Q s hx hy ?_ k)))
      simp only [catN]
      split at e
      · rename_i hz; rw [if_pos hz]; exact e
      · cases e
    | _ => cases e
  | _ => cases e
def subD : D → D → Option D
  | .int i, .int j => some (.int (i - j))
  | _, _ => none
theorem od_sub : OpD (rI0 fun i j => .int (i - j)) subD := by
  intro rt F H dx dy d x y Q s hx hy e k
  cases dx with
  | int i =>
    cases dy with
    | int j =>
      simp only [subD, Option.some.injEq] at e
      subst e
      exact ⟨i, j, hx.int, hy.int, fin0 s k (by simp only [Holds])⟩
    | _ => cases e
  | _ => cases e
def modD : D → D → Option D
  | .int i, .int j => if 0 < j then some (.int (i % j)) else none
  | _, _ => none
theorem od_mod : OpD (rI (fun _ j => 0 < j) fun i j => .int (i % j)) modD := by
  intro rt F H dx dy d x y Q s hx hy e k
  cases dx with
  | int i =>
    cases dy with
    | int j =>
      simp only [modD] at e
      split at e
      · rename_i hj
        simp only [Option.some.injEq] at e
        subst e
        exact ⟨i, j, hx.int, hy.int, hj, fin0 s k (by simp only [Holds])⟩
      · cases e
    | _ => cases e
  | _ => cases e
def divD : D → D → Option D
  | .int i, .int j => if 0 < j ∧ j < 1073741824 then some (.int (i / j)) else none
  | _, _ => none
theorem od_div : OpD (rI CDiv fun i j => .int (i / j)) divD := by
  intro rt F H dx dy d x y Q s hx hy e k
  cases dx with
  | int i =>
    cases dy with
    | int j =>
      simp only [divD] at e
      split at e
      · rename_i hj
        simp only [Option.some.injEq] at e
        subst e
        exact ⟨i, j, hx.int, hy.int, hj, fin0 s k (by simp only [Holds])⟩
      · cases e
    | _ => cases e
  | _ => cases e

/-! ### order and equality -/
def cmpD (p : Int → Int → Bool) : D → D → Option D
  | .int i, .int j => some (.bl (p i j))
  | _, _ => none
theorem od_cmp {p : Int → Int → Bool} : OpD (rI0 fun i j => .bl (p i j)) (cmpD p) := by
  intro rt F H dx dy d x y Q s hx hy e k
  cases dx with
  | int i =>
    cases dy with
    | int j =>
      simp only [cmpD, Option.some.injEq] at e
      subst e
      exact ⟨i, j, hx.int, hy.int, fin0 s k (by simp only [Holds])⟩
    | _ => cases e
  | _ => cases e
def cmpSD (p : List Nat → List Nat → Bool) : D → D → Option D
  | .str i, .str j => some (.bl (p i.cps.toList j.cps.toList))
  | _, _ => none
theorem od_cmpS {p : List Nat → List Nat → Bool} : OpD (fun x y H Q => ∃ i j : Str, x = .str i ∧ y = .str j ∧ Q (.bl (p i.cps.toList j.cps.toList)) H) (cmpSD p) := by
  intro rt F H dx dy d x y Q s hx hy e k
  cases dx with
  | str i =>
    cases dy with
    | str j =>
      simp only [cmpSD, Option.some.injEq] at e
      subst e
      exact ⟨i, j, hx.str, hy.str, fin0 s k (by simp only [Holds])⟩
    | _ => cases e
  | _ => cases e
def leD : D → D → Option D := fun x y => match cmpD (fun i j => decide (i ≤ j)) x y with
  | some d => some d
  | none => cmpSD (fun i j => !decide (j < i)) x y
def ltD : D → D → Option D := fun x y => match cmpD (fun i j => decide (i < j)) x y with
  | some d => some d
  | none => cmpSD (fun i j => decide (i < j)) x y
def gtD : D → D → Option D := fun x y => match cmpD (fun i j => decide (j < i)) x y with
  | some d => some d
  | none => cmpSD (fun i j => decide (j < i)) x y
def geD : D → D → Option D := fun x y => match cmpD (fun i j => decide (j ≤ i)) x y with
  | some d => some d
  | none => cmpSD (fun i j => !decide (i < j)) x y
section
variable {X : Cx}
def rLeA : R2 := fun x y H Q => (rI0 fun i j => .bl (decide (i ≤ j))) x y H Q ∨ (∃ i j : Str, x = .str i ∧ y = .str j ∧ Q (.bl (!decide (j.cps.toList < i.cps.toList))) H)
def rLtA : R2 := fun x y H Q => (rI0 fun i j => .bl (decide (i < j))) x y H Q ∨ (∃ i j : Str, x = .str i ∧ y = .str j ∧ Q (.bl (decide (i.cps.toList < j.cps.toList))) H)
def rGtA : R2 := fun x y H Q => (rI0 fun i j => .bl (decide (j < i))) x y H Q ∨ (∃ i j : Str, x = .str i ∧ y = .str j ∧ Q (.bl (decide (j.cps.toList < i.cps.toList))) H)
def rGeA : R2 := fun x y H Q => (rI0 fun i j => .bl (decide (j ≤ i))) x y H Q ∨ (∃ i j : Str, x = .str i ∧ y = .str j ∧ Q (.bl (!decide (i.cps.toList < j.cps.toList))) H)
theorem op_leA : OpR X (compareOp .LtE) rLeA := op_le.or op_le_str
theorem op_ltA : OpR X (compareOp .Lt) rLtA := op_lt.or op_lt_str
theorem op_gtA : OpR X (compareOp .Gt) rGtA := op_gt.or op_gt_str
theorem op_geA : OpR X (compareOp .GtE) rGeA := op_ge.or op_ge_str
theorem od_le : OpD rLeA leD := od_cmp.or (od_cmpS (p := fun i j => !decide (j < i)))
theorem od_lt : OpD rLtA ltD := od_cmp.or (od_cmpS (p := fun i j => decide (i < j)))
theorem od_gt : OpD rGtA gtD := od_cmp.or (od_cmpS (p := fun i j => decide (j < i)))
theorem od_ge : OpD rGeA geD := od_cmp.or (od_cmpS (p := fun i j => !decide (i < j)))
end
/-- data of plain kinds, at most so deep -/
def okD : Nat → D → Bool
  | _, .non => true
  | _, .bl _ => true
  | _, .int _ => true
  | _, .str x => PyData.strOk x
  | n + 1, .tup xs => xs.all (okD n)
  | n + 1, .lst xs => xs.all (okD n)
  | _, _ => false
mutual
def eqvD : D → D → Bool
  | .non, .non => true
  | .bl a, .bl b => a == b
  | .bl a, .int j => (if a then 1 else 0) == j
  | .int i, .bl b => i == (if b then 1 else 0)
  | .int i, .int j => i == j
  | .str x, .str y => x == y
  | .lst xs, .lst ys => eqvL xs ys
  | .tup xs, .tup ys => eqvL xs ys
  | _, _ => false
def eqvL : List D → List D → Bool
  | [], [] => true
  | x :: xs, y :: ys => eqvD x y && eqvL xs ys
  | _, _ => false
end
mutual
def toPy : D → PyData
  | .non => .none
  | .bl b => .bool b
  | .int i => .int i
  | .str x => .str x
  | .lst xs => .list (toPyL xs)
  | .tup xs => .tuple (toPyL xs)
  | .dic _ _ => .dict []
  | .set _ => .dict []
  | .tape => .dict []
def toPyL : List D → List PyData
  | [] => []
  | x :: xs => toPy x :: toPyL xs
end
theorem toPyL_map : ∀ xs : List D, toPyL xs = xs.map toPy
  | [] => rfl
  | x :: xs => by simp only [toPyL, List.map_cons, toPyL_map xs]
end DL

/-! The data layer, 8: pure operations, further. -/
namespace DL
open PySem L2

/-! ### == != in -/
mutual
theorem eqvD_py : ∀ x y : D, PyData.eqv (toPy x) (toPy y) = eqvD x y
  | .lst xs, y => by
    cases y with
    | lst ys => simp only [toPy, PyData.eqv, eqvD]; exact eqvL_py xs ys
    | _ => simp [toPy, PyData.eqv, eqvD]
  | .tup xs, y => by
    cases y with
    | tup ys => simp only [toPy, PyData.eqv, eqvD]; exact eqvL_py xs ys
    | _ => simp [toPy, PyData.eqv, eqvD]
  | .non, y => by cases y <;> simp [toPy, PyData.eqv, eqvD]
  | .bl _, y => by cases y <;> simp [toPy, PyData.eqv, eqvD]
  | .int _, y => by cases y <;> simp [toPy, PyData.eqv, eqvD]
  | .str _, y => by cases y <;> simp [toPy, PyData.eqv, eqvD]
  | .dic _ _, y => by cases y <;> simp [toPy, PyData.eqv, eqvD]
  | .set _, y => by cases y <;> simp [toPy, PyData.eqv, eqvD]
  | .tape, y => by cases y <;> simp [toPy, PyData.eqv, eqvD]
theorem eqvL_py : ∀ xs ys : List D, PyData.eqvAll (toPyL xs) (toPyL ys) = eqvL xs ys
  | [], [] => by simp [toPyL, PyData.eqvAll, eqvL]
  | [], _ :: _ => by simp [toPyL, PyData.eqvAll, eqvL]
  | _ :: _, [] => by simp [toPyL, PyData.eqvAll, eqvL]
  | x :: xs, y :: ys => by simp only [toPyL, PyData.eqvAll, eqvL]; rw [eqvD_py x y, eqvL_py xs ys]
end
theorem lay_all : ∀ {ds : List PyData}, PyData.canLayAll0 ds = ds.all (·.canLay0)
  | [] => by simp [PyData.canLayAll0]
  | d :: ds => by simp only [PyData.canLayAll0, List.all_cons, lay_all (ds := ds)]
theorem depth_all_le {n : Nat} : ∀ {ds : List PyData}, (∀ d ∈ ds, d.depth ≤ n) → PyData.depthAll ds ≤ n
  | [], _ => by simp [PyData.depthAll]
  | d :: ds, h => by
    simp only [PyData.depthAll]
    exact Nat.max_le.mpr ⟨h d List.mem_cons_self, depth_all_le fun x hx => h x (List.mem_cons_of_mem _ hx)⟩
theorem okD_lay : ∀ {n : Nat} {d : D}, okD n d = true → (toPy d).canLay0 = true ∧ (toPy d).depth ≤ n := by
  intro n
  induction n with
  | zero => intro d h; cases d <;> simp_all [okD, toPy, PyData.canLay0, PyData.depth]
  | succ n ih =>
    intro d h
    cases d with
    | tup xs =>
      simp only [okD, List.all_eq_true] at h
      simp only [toPy, PyData.canLay0, PyData.depth, toPyL_map, lay_all, List.all_eq_true]
      refine ⟨fun x hx => ?_, Nat.succ_le_succ (depth_all_le fun x hx => ?_)⟩
      · obtain ⟨y, hy, rfl⟩ := List.mem_map.mp hx; exact (ih (h y hy)).1
      · obtain ⟨y, hy, rfl⟩ := List.mem_map.mp hx; exact (ih (h y hy)).2
    | lst xs =>
      simp only [okD, List.all_eq_true] at h
      simp only [toPy, PyData.canLay0, PyData.depth, toPyL_map, lay_all, List.all_eq_true]
      refine ⟨fun x hx => ?_, Nat.succ_le_succ (depth_all_le fun x hx => ?_)⟩
      · obtain ⟨y, hy, rfl⟩ := List.mem_map.mp hx; exact (ih (h y hy)).1
      · obtain ⟨y, hy, rfl⟩ := List.mem_map.mp hx; exact (ih (h y hy)).2
    | _ => simp_all [okD, toPy, PyData.canLay0, PyData.depth]
theorem okD_shaped {n : Nat} {d : D} (h : okD n d = true) (hn : n ≤ 64) : SeqAt.shaped (toPy d) = true := by
  obtain ⟨h1, h2⟩ := okD_lay h
  show ((toPy d).canLay0 && decide ((toPy d).depth ≤ 64)) = true
  rw [h1, decide_eq_true (by omega)]; rfl
mutual
theorem Holds.dp {K : PySem.W.Frag} {rt : V} {H : Hp} : ∀ {d : D} {v : V} {n : Nat}, okD n d = true → Holds rt H d v → Dp K H v (toPy d)
  | .non, _, _, _, h => by simp only [Holds] at h; subst h; exact .non
  | .bl _, _, _, _, h => by simp only [Holds] at h; subst h; exact .bl _
  | .int _, _, _, _, h => by simp only [Holds] at h; subst h; exact .int _
  | .str _, _, _, _, h => by simp only [Holds] at h; subst h; exact .str _
  | .tup xs, _, 0, o, h => by simp [okD] at o
  | .lst xs, _, 0, o, h => by simp [okD] at o
  | .tup xs, _, n + 1, o, h => by
    simp only [Holds] at h
    obtain ⟨a, vs, rfl, f, l⟩ := h
    simp only [okD, List.all_eq_true] at o
    exact .tup f.sq (HoldsL.dp o l)
  | .lst xs, _, n + 1, o, h => by
    simp only [Holds] at h
    obtain ⟨a, vs, rfl, f, l⟩ := h
    simp only [okD, List.all_eq_true] at o
    exact .lst (SqL.of f) (HoldsL.dp o l)
  | .dic _ _, _, n, o, _ => by cases n <;> simp [okD] at o
  | .set _, _, n, o, _ => by cases n <;> simp [okD] at o
  | .tape, _, n, o, _ => by cases n <;> simp [okD] at o
theorem HoldsL.dp {K : PySem.W.Frag} {rt : V} {H : Hp} : ∀ {ds : List D} {vs : List V} {n : Nat}, (∀ x ∈ ds, okD n x = true) → HoldsL rt H ds vs → DpAll K H vs (toPyL ds)
  | [], _, _, _, h => by simp only [HoldsL] at h; subst h; exact .nil
  | d :: ds, _, n, o, h => by
    simp only [HoldsL] at h
    obtain ⟨v, r, rfl, h1, h2⟩ := h
    exact .cons (h1.dp (o d List.mem_cons_self)) (HoldsL.dp (fun x hx => o x (List.mem_cons_of_mem _ hx)) h2)
end
def scalD : D → D → Bool
  | .non, .non => true
  | .non, .int _ => true
  | .int _, .non => true
  | .non, .bl _ => true
  | .bl _, .non => true
  | .non, .str _ => true
  | .str _, .non => true
  | .int _, .int _ => true
  | .bl _, .bl _ => true
  | .str _, .str _ => true
  | .int _, .str _ => true
  | .str _, .int _ => true
  | .bl _, .str _ => true
  | .str _, .bl _ => true
  | _, _ => false
def eqD (x y : D) : Option D := if scalD x y || (okD 30 x && okD 30 y) then some (.bl (eqvD x y)) else none
def neD (x y : D) : Option D := if scalD x y || (okD 30 x && okD 30 y) then some (.bl (!eqvD x y)) else none
theorem scal_eq {rt : V} {F H : Hp} {dx dy : D} {x y : V} (hx : HB rt F H dx x) (hy : HB rt F H dy y) (h : scalD dx dy = true) : scal x y = true ∧ decide (x = y) = eqvD dx dy := by
  cases dx <;> cases dy <;> first | (simp [scalD] at h; done) | skip
  all_goals (simp only [HB, Holds] at hx hy; subst hx; subst hy)
  all_goals first
    | (refine ⟨rfl, ?_⟩; simp only [eqvD]; first | exact dec_int | exact dec_bl | exact dec_str | rfl | (exact decide_eq_false (by intro z; cases z)))
def rEqA (K : PySem.W.Frag) : R2 := fun x y H Q => rEq x y H Q ∨ rEqD K x y H Q
def rNeA (K : PySem.W.Frag) : R2 := fun x y H Q => rNe x y H Q ∨ rNeD K x y H Q
theorem room64 {k : Nat} {A : Around} (r : Room k A) : A.units + 64 < cLine := r.units
theorem op_eqA {X : Cx} {k : Nat} (hr : Room k X.A) : OpR X (compareOp .Eq) (rEqA X.K) := op_eq.or (op_eqD hr.units)
theorem op_neA {X : Cx} {k : Nat} (hr : Room k X.A) : OpR X (compareOp .NotEq) (rNeA X.K) := op_ne.or (op_neD hr.units)
theorem od_eq {K : PySem.W.Frag} : OpD (rEqA K) eqD := by
  intro rt F H dx dy d x y Q s hx hy e k
  unfold eqD at e
  split at e
  · rename_i h
    simp only [Option.some.injEq] at e
    subst e
    cases q : scalD dx dy with
    | true =>
      obtain ⟨h1, h2⟩ := scal_eq hx hy q
      exact .inl ⟨h1, fin0 s k (by rw [h2]; simp only [Holds])⟩
    | false =>
      rw [q, Bool.false_or, Bool.and_eq_true] at h
      refine .inr ⟨toPy dx, toPy dy, (hx.inH s).dp h.1, (hy.inH s).dp h.2, okD_shaped h.1 (by decide), okD_shaped h.2 (by decide), ?_⟩
      rw [eqvD_py]
      exact fin0 s k (by simp only [Holds])
  · cases e
theorem od_ne {K : PySem.W.Frag} : OpD (rNeA K) neD := by
  intro rt F H dx dy d x y Q s hx hy e k
  unfold neD at e
  split at e
  · rename_i h
    simp only [Option.some.injEq] at e
    subst e
    cases q : scalD dx dy with
    | true =>
      obtain ⟨h1, h2⟩ := scal_eq hx hy q
      exact .inl ⟨h1, fin0 s k (by rw [h2]; simp only [Holds])⟩
    | false =>
      rw [q, Bool.false_or, Bool.and_eq_true] at h
      refine .inr ⟨toPy dx, toPy dy, (hx.inH s).dp h.1, (hy.inH s).dp h.2, okD_shaped h.1 (by decide), okD_shaped h.2 (by decide), ?_⟩
      rw [eqvD_py]
      exact fin0 s k (by simp only [Holds])
  · cases e
def isNonD : D → Bool
  | .non => true
  | _ => false
theorem Holds.isN {rt : V} {F H : Hp} {d : D} {x : V} (h : HB rt F H d x) (hr : d = .tape → x ≠ .non) : decide (x = .non) = isNonD d := by
  cases d with
  | non => rw [h.non]; rfl
  | bl b => rw [h.bl]; rfl
  | int b => rw [h.int]; rfl
  | str b => rw [h.str]; rfl
  | tup b => obtain ⟨a, vs, e, _⟩ := h.tup; rw [e]; rfl
  | lst b => obtain ⟨a, vs, e, _⟩ := h.lst; rw [e]; rfl
  | dic ks b => obtain ⟨a, vs, e, _⟩ := h; rw [e]; rfl
  | set b => exact (show False from by simpa only [HB, Holds] using h).elim
  | tape => exact decide_eq_false (hr rfl)
def noTape : D → Bool
  | .tape => false
  | _ => true
/-- is None -/
def isND (x y : D) : Option D := match y with
  | .non => if noTape x then some (.bl (isNonD x)) else none
  | _ => none
def isntND (x y : D) : Option D := match y with
  | .non => if noTape x then some (.bl (!isNonD x)) else none
  | _ => none
theorem od_isN : OpD (fun x y H Q => y = .non ∧ Q (.bl (decide (x = .non))) H) isND := by
  intro rt F H dx dy d x y Q s hx hy e k
  cases dy with
  | non =>
    simp only [isND] at e
    split at e
    · rename_i nt
      simp only [Option.some.injEq] at e
      subst e
      have hn := Holds.isN hx (by rintro rfl; cases nt)
      exact ⟨hy.non, fin0 s k (by rw [hn]; simp only [Holds])⟩
    · cases e
  | _ => cases e
theorem od_isntN : OpD (fun x y H Q => y = .non ∧ Q (.bl (!decide (x = .non))) H) isntND := by
  intro rt F H dx dy d x y Q s hx hy e k
  cases dy with
  | non =>
    simp only [isntND] at e
    split at e
    · rename_i nt
      simp only [Option.some.injEq] at e
      subst e
      have hn := Holds.isN hx (by rintro rfl; cases nt)
      exact ⟨hy.non, fin0 s k (by rw [hn]; simp only [Holds])⟩
    · cases e
  | _ => cases e
/-- x in xs: lists, tuples, texts -/
def seqD : D → Option (List D)
  | .lst ds => some ds
  | .tup ds => some ds
  | _ => none
def memD (x : D) (ds : List D) : Bool := ds.any fun z => eqvD z x
def subS (x y : Str) : Bool := !(Builtin.Str.occurrences y x 0 y.length 1).isEmpty
def inD (x y : D) : Option D := match seqD y with
  | some ds => if okD 30 x && ds.all (okD 30) then some (.bl (memD x ds)) else none
  | none => match x, y with
    | .str a, .str b => some (.bl (subS a b))
    | _, _ => none
def notinD (x y : D) : Option D := match seqD y with
  | some ds => if okD 30 x && ds.all (okD 30) then some (.bl (!memD x ds)) else none
  | none => match x, y with
    | .str a, .str b => some (.bl (!subS a b))
    | _, _ => none
section
variable {X : Cx}
def rInSq (K : PySem.W.Frag) (ng : Bool) : R2 := fun x y H Q => ∃ d ds, Dp K H x d ∧ (Dp K H y (.list ds) ∨ Dp K H y (.tuple ds)) ∧ SeqAt.shaped d = true ∧ PyData.canLayAll0 ds = true ∧ Q (.bl (if ng then !ds.any fun z => PyData.eqv z d else ds.any fun z => PyData.eqv z d)) H
theorem room_in {k : Nat} {A : Around} {d : PyData} {ds : List PyData} (r : Room k A) (sd : SeqAt.shaped d = true) : A.units + 1 + min (PyData.depthAll ds) d.depth < cLine := by
  have h1 := SeqAt.depth_of_shaped sd
  have h2 := r.un
  have h3 : min (PyData.depthAll ds) d.depth ≤ d.depth := Nat.min_le_right _ _
  omega
theorem op_inSq {k : Nat} (hr : Room k X.A) : OpR X (compareOp .In) (rInSq X.K false) := by
  intro pins s σ H x y v u Q I rx ry h
  obtain ⟨d, ds, hd, he, sd, se, q⟩ := h
  obtain ⟨as, r1⟩ := Dp.reads I d x v hd rx
  rcases he with he | he
  · obtain ⟨bs, r2⟩ := Dp.reads I (.list ds) y u he ry
    exact SeqAt.in_list_reads r2 r1 se (SeqAt.canLay_of_shaped sd) (room_in hr sd) ⟨.bl _, H, I, rfl, q⟩
  · obtain ⟨bs, r2⟩ := Dp.reads I (.tuple ds) y u he ry
    exact SeqAt.in_tuple_reads r2 r1 se (SeqAt.canLay_of_shaped sd) (room_in hr sd) ⟨.bl _, H, I, rfl, q⟩
theorem op_notInSq {k : Nat} (hr : Room k X.A) : OpR X (compareOp .NotIn) (rInSq X.K true) := by
  intro pins s σ H x y v u Q I rx ry h
  obtain ⟨d, ds, hd, he, sd, se, q⟩ := h
  obtain ⟨as, r1⟩ := Dp.reads I d x v hd rx
  rcases he with he | he
  · obtain ⟨bs, r2⟩ := Dp.reads I (.list ds) y u he ry
    exact SeqAt.notIn_list_reads r2 r1 se (SeqAt.canLay_of_shaped sd) (room_in hr sd) ⟨.bl _, H, I, rfl, q⟩
  · obtain ⟨bs, r2⟩ := Dp.reads I (.tuple ds) y u he ry
    exact SeqAt.notIn_tuple_reads r2 r1 se (SeqAt.canLay_of_shaped sd) (room_in hr sd) ⟨.bl _, H, I, rfl, q⟩
def rInA (K : PySem.W.Frag) : R2 := fun x y H Q => rInSq K false x y H Q ∨ ∃ i j, x = .str i ∧ y = .str j ∧ Q (.bl (!(Builtin.Str.occurrences j i 0 j.length 1).isEmpty)) H
def rNotInA (K : PySem.W.Frag) : R2 := fun x y H Q => rInSq K true x y H Q ∨ ∃ i j, x = .str i ∧ y = .str j ∧ Q (.bl (!(!(Builtin.Str.occurrences j i 0 j.length 1).isEmpty))) H
theorem op_inA {k : Nat} (hr : Room k X.A) : OpR X (compareOp .In) (rInA X.K) := (op_inSq hr).or op_in_str
theorem op_notInA {k : Nat} (hr : Room k X.A) : OpR X (compareOp .NotIn) (rNotInA X.K) := (op_notInSq hr).or op_notIn_str
end
theorem mem_py {x : D} {ds : List D} : ((toPyL ds).any fun z => PyData.eqv z (toPy x)) = memD x ds := by
  rw [toPyL_map, List.any_map]
  unfold memD
  congr 1
  funext z
  exact eqvD_py z x
theorem HB.dpS {K : PySem.W.Frag} {rt : V} {F H : Hp} {d : D} {ds : List D} {v : V} (s : Same F H) (h : HB rt F H d v) (e : seqD d = some ds) (o : ∀ x ∈ ds, okD 30 x = true) : Dp K H v (.list (toPyL ds)) ∨ Dp K H v (.tuple (toPyL ds)) := by
  cases d with
  | lst xs =>
    simp only [seqD, Option.some.injEq] at e
    subst e
    obtain ⟨a, vs, rfl, f, l⟩ := h.lst
    exact .inl (.lst (SqL.of f) (HoldsL.dp o (l.mono s)))
  | tup xs =>
    simp only [seqD, Option.some.injEq] at e
    subst e
    obtain ⟨a, vs, rfl, f, l⟩ := h.tup
    exact .inr (.tup (f.mono s).sq (HoldsL.dp o (l.mono s)))
  | _ => cases e
theorem layAll_of {ds : List D} (o : ∀ x ∈ ds, okD 30 x = true) : PyData.canLayAll0 (toPyL ds) = true := by
  rw [lay_all, toPyL_map, List.all_eq_true]
  intro x hx
  obtain ⟨y, hy, rfl⟩ := List.mem_map.mp hx
  exact (okD_lay (o y hy)).1
theorem od_in {K : PySem.W.Frag} : OpD (rInA K) inD := by
  intro rt F H dx dy d x y Q s hx hy e k
  unfold inD at e
  cases q : seqD dy with
  | some ds =>
    rw [q] at e
    simp only at e
    split at e
    · rename_i h
      simp only [Option.some.injEq] at e
      subst e
      rw [Bool.and_eq_true, List.all_eq_true] at h
      refine .inl ⟨toPy dx, toPyL ds, (hx.inH s).dp h.1, hy.dpS s q h.2, okD_shaped h.1 (by decide), layAll_of h.2, ?_⟩
      rw [if_neg Bool.false_ne_true, mem_py]
      exact fin0 s k (by simp only [Holds])
    · cases e
  | none =>
    rw [q] at e
    simp only at e
    split at e
    · simp only [Option.some.injEq] at e
      subst e
      exact .inr ⟨_, _, hx.str, hy.str, fin0 s k (by simp only [Holds, subS])⟩
    · cases e
theorem od_notin {K : PySem.W.Frag} : OpD (rNotInA K) notinD := by
  intro rt F H dx dy d x y Q s hx hy e k
  unfold notinD at e
  cases q : seqD dy with
  | some ds =>
    rw [q] at e
    simp only at e
    split at e
    · rename_i h
      simp only [Option.some.injEq] at e
      subst e
      rw [Bool.and_eq_true, List.all_eq_true] at h
      refine .inl ⟨toPy dx, toPyL ds, (hx.inH s).dp h.1, hy.dpS s q h.2, okD_shaped h.1 (by decide), layAll_of h.2, ?_⟩
      rw [if_pos rfl, mem_py]
      exact fin0 s k (by simp only [Holds])
    · cases e
  | none =>
    rw [q] at e
    simp only at e
    split at e
    · simp only [Option.some.injEq] at e
      subst e
      exact .inr ⟨_, _, hx.str, hy.str, fin0 s k (by simp only [Holds, subS])⟩
    · cases e

/-! ### subscripts, slices -/
def idxD : D → D → Option D
  | .lst ds, .int i => atI ds i
  | .tup ds, .int i => atI ds i
  | .str z, .int i => if z.length ≤ sizeLine then match atI z.cps.toList i with
    | some c => some (.str ⟨#[c]⟩)
    | none => none
    else none
  | _, _ => none
theorem HoldsL.atI {rt : V} {F : Hp} {ds : List D} {vs : List V} {i : Int} {d : D} (h : HoldsL rt F ds vs) (e : atI ds i = some d) : ∃ v, L2.atI vs i = some v ∧ Holds rt F d v := by
  unfold L2.atI at e ⊢
  rw [h.length]
  cases q : ixN ds.length i with
  | none => rw [q] at e; cases e
  | some j =>
    rw [q] at e
    simp only [Option.bind_some] at e ⊢
    exact h.get e
theorem od_idx {K : PySem.W.Frag} : OpD (rIx K) idxD := by
  intro rt F H dx dy d x y Q s hx hy e k
  cases dy with
  | int i =>
    cases dx with
    | lst ds =>
      simp only [idxD] at e
      obtain ⟨a, vs, rfl, f, l⟩ := hx.lst
      obtain ⟨v, ev, hv⟩ := l.atI e
      exact .inl ⟨a, vs, i, v, rfl, hy.int, SqL.of f, ev, fin0 s k hv⟩
    | tup ds =>
      simp only [idxD] at e
      obtain ⟨a, vs, rfl, f, l⟩ := hx.tup
      obtain ⟨v, ev, hv⟩ := l.atI e
      exact .inr (.inl ⟨a, vs, i, v, rfl, hy.int, (f.mono s).sq, ev, fin0 s k hv⟩)
    | str z =>
      simp only [idxD] at e
      split at e
      · rename_i hz
        cases q : L2.atI z.cps.toList i with
        | none => rw [q] at e; cases e
        | some c =>
          rw [q] at e
          simp only [Option.some.injEq] at e
          subst e
          exact .inr (.inr ⟨z, i, c, hx.str, hy.int, hz, q, fin0 s k (by simp only [Holds])⟩)
      · cases e
    | _ => cases e
  | _ => cases dx <;> cases e
def cutD (xs : List D) (lo hi : Option Int) : List D := (xs.drop (HT.sIx xs.length 0 lo)).take (HT.sIx xs.length xs.length hi - HT.sIx xs.length 0 lo)
theorem HoldsL.cut {rt : V} {F : Hp} {ds : List D} {vs : List V} (h : HoldsL rt F ds vs) (lo hi : Option Int) : HoldsL rt F (cutD ds lo hi) (cutV vs lo hi) := by
  unfold cutD cutV
  rw [h.length]
  exact (h.drop _).take _
def sliceD : D → Option Int → Option Int → Option D
  | .lst ds, lo, hi => some (.lst (cutD ds lo hi))
  | .tup ds, lo, hi => some (.tup (cutD ds lo hi))
  | .str z, lo, hi => if z.length ≤ sizeLine then some (.str (cutS z lo hi)) else none
  | _, _, _ => none
def rSlAll (K : PySem.W.Frag) : V → Option Int → Option Int → Hp → VK → Prop := fun x lo hi H Q => rSlL K x lo hi H Q ∨ rSlF K x lo hi H Q ∨ rSlS x lo hi H Q
theorem sl_all {X : Cx} : L2.SlR X (rSlAll X.K) := sl_list.or (sl_tupF.or sl_str)
theorem sd_all {K : PySem.W.Frag} : SlD (rSlAll K) sliceD := by
  intro rt F H dx d x lo hi Q s hx e k
  cases dx with
  | lst ds =>
    simp only [sliceD, Option.some.injEq] at e
    subst e
    obtain ⟨a, vs, rfl, f, l⟩ := hx.lst
    refine .inl ⟨a, vs, rfl, SqL.of f, fun p hp => k _ _ _ (New.upd s hp _) ?_⟩
    simp only [Holds]
    exact ⟨p, _, rfl, upd_same, (l.cut lo hi).mono (New.upd s hp _).sF⟩
  | tup ds =>
    simp only [sliceD, Option.some.injEq] at e
    subst e
    obtain ⟨a, vs, rfl, f, l⟩ := hx.tup
    refine .inr (.inl ⟨a, vs, rfl, (f.mono s).sq, fun ec => ?_, fun p o hp ho => finT s k hp ho (l.cut lo hi)⟩)
    refine fin0 s k ?_
    simp only [Holds]
    exact ⟨a, vs, rfl, f, by rw [← ec]; exact l.cut lo hi⟩
  | str z =>
    simp only [sliceD] at e
    split at e
    · rename_i hz
      simp only [Option.some.injEq] at e
      subst e
      exact .inr (.inr ⟨z, hx.str, hz, fin0 s k (by simp only [Holds])⟩)
    · cases e
  | _ => cases e

/-! ### built-in functions -/
def len1 : List D → Option D
  | [.lst ds] => some (.int ds.length)
  | [.tup ds] => some (.int ds.length)
  | [.str z] => if z.length ≤ sizeLine then some (.int z.length) else none
  | _ => none
theorem cd_len {K : PySem.W.Frag} : CallD (fun xs H Q => ∃ x n, xs = [x] ∧ LenV K x H n ∧ Q (.int n) H) len1 := by
  intro rt F H ds d vs Q s h e k
  match ds, e with
  | [.lst xs], e =>
    simp only [len1, Option.some.injEq] at e
    subst e
    obtain ⟨v, rfl, hv⟩ := hbl1 h
    obtain ⟨a, us, rfl, f, l⟩ := hv.lst
    exact ⟨_, us.length, rfl, .inl ⟨us, SqL.of f, rfl⟩, fin0 s k (by simp only [Holds, l.length])⟩
  | [.tup xs], e =>
    simp only [len1, Option.some.injEq] at e
    subst e
    obtain ⟨v, rfl, hv⟩ := hbl1 h
    obtain ⟨a, us, rfl, f, l⟩ := hv.tup
    exact ⟨_, us.length, rfl, .inr ⟨us, (f.mono s).sq, rfl⟩, fin0 s k (by simp only [Holds, l.length])⟩
  | [.str z], e =>
    simp only [len1] at e
    split at e
    · rename_i hz
      simp only [Option.some.injEq] at e
      subst e
      obtain ⟨v, rfl, hv⟩ := hbl1 h
      rw [hv.str]
      exact ⟨_, z.length, rfl, ⟨hz, rfl⟩, fin0 s k (by simp only [Holds])⟩
    · cases e
def all1 : List D → Option D
  | [.lst ds] => (blsD ds).map fun bs => .bl (bs.all id)
  | _ => none
def any1 : List D → Option D
  | [.lst ds] => (blsD ds).map fun bs => .bl (bs.any id)
  | _ => none
def sum1 : List D → Option D
  | [.lst ds] => (intsD ds).map fun ns => .int ns.sum
  | _ => none
theorem cd_all {K : PySem.W.Frag} : CallD (rAll K) all1 := by
  intro rt F H ds d vs Q s h e k
  match ds, e with
  | [.lst xs], e =>
    simp only [all1] at e
    cases q : blsD xs with
    | none => rw [q] at e; cases e
    | some bs =>
      rw [q] at e
      simp only [Option.map_some, Option.some.injEq] at e
      subst e
      have ex := blsD_inv q
      subst ex
      obtain ⟨v, rfl, hv⟩ := hbl1 h
      obtain ⟨a, us, rfl, f, l⟩ := hv.lst
      have eu := holds_bls l
      subst eu
      exact ⟨a, bs, rfl, SqL.of f, fin0 s k (by simp only [Holds])⟩
theorem cd_any {K : PySem.W.Frag} : CallD (rAny K) any1 := by
  intro rt F H ds d vs Q s h e k
  match ds, e with
  | [.lst xs], e =>
    simp only [any1] at e
    cases q : blsD xs with
    | none => rw [q] at e; cases e
    | some bs =>
      rw [q] at e
      simp only [Option.map_some, Option.some.injEq] at e
      subst e
      have ex := blsD_inv q
      subst ex
      obtain ⟨v, rfl, hv⟩ := hbl1 h
      obtain ⟨a, us, rfl, f, l⟩ := hv.lst
      have eu := holds_bls l
      subst eu
      exact ⟨a, bs, rfl, SqL.of f, fin0 s k (by simp only [Holds])⟩
theorem cd_sum {K : PySem.W.Frag} : CallD (rSum K) sum1 := by
  intro rt F H ds d vs Q s h e k
  match ds, e with
  | [.lst xs], e =>
    simp only [sum1] at e
    cases q : intsD xs with
    | none => rw [q] at e; cases e
    | some bs =>
      rw [q] at e
      simp only [Option.map_some, Option.some.injEq] at e
      subst e
      have ex := intsD_inv q
      subst ex
      obtain ⟨v, rfl, hv⟩ := hbl1 h
      obtain ⟨a, us, rfl, f, l⟩ := hv.lst
      have eu := holds_ints l
      subst eu
      exact ⟨a, bs, rfl, SqL.of f, fin0 s k (by simp only [Holds])⟩
/-- list(x), tuple(x) -/
def list1 : List D → Option (List D)
  | [.lst ds] => some ds
  | [.tup ds] => some ds
  | _ => none
theorem cn_list {K : PySem.W.Frag} : CallN (fun xs H Q => ∃ p ys, xs = [.ref p] ∧ (SqL K H p ys ∨ SqT K H p ys) ∧ ∀ l, H l = none → Q (.ref l) (upd H l (.lst ys))) list1 := by
  intro rt F H ds d vs Q s h e k
  match ds, e with
  | [.lst xs], e =>
    simp only [list1, Option.some.injEq] at e
    subst e
    obtain ⟨v, rfl, hv⟩ := hbl1 h
    obtain ⟨a, us, rfl, f, l⟩ := hv.lst
    exact ⟨a, us, rfl, .inl (SqL.of f), fun p hp => k p us hp l⟩
  | [.tup xs], e =>
    simp only [list1, Option.some.injEq] at e
    subst e
    obtain ⟨v, rfl, hv⟩ := hbl1 h
    obtain ⟨a, us, rfl, f, l⟩ := hv.tup
    exact ⟨a, us, rfl, .inr (f.mono s).sq, fun p hp => k p us hp l⟩
def tuple1 : List D → Option D
  | [.lst ds] => some (.tup ds)
  | [.tup ds] => some (.tup ds)
  | _ => none
theorem cd_tuple {K : PySem.W.Frag} : CallD (fun xs H Q => ∃ p ys, xs = [.ref p] ∧ ((SqL K H p ys ∧ ∀ l o, H l = none → o.dict = none → Q (.ref l) (upd H l (.frz o (.tup ys)))) ∨ (SqT K H p ys ∧ Q (.ref p) H))) tuple1 := by
  intro rt F H ds d vs Q s h e k
  match ds, e with
  | [.lst xs], e =>
    simp only [tuple1, Option.some.injEq] at e
    subst e
    obtain ⟨v, rfl, hv⟩ := hbl1 h
    obtain ⟨a, us, rfl, f, l⟩ := hv.lst
    exact ⟨a, us, rfl, .inl ⟨SqL.of f, fun p o hp ho => finT s k hp ho l⟩⟩
  | [.tup xs], e =>
    simp only [tuple1, Option.some.injEq] at e
    subst e
    obtain ⟨v, rfl, hv⟩ := hbl1 h
    obtain ⟨a, us, rfl, f, l⟩ := hv.tup
    exact ⟨a, us, rfl, .inr ⟨(f.mono s).sq, fin0 s k (by simp only [Holds]; exact ⟨a, us, rfl, f, l⟩)⟩⟩
def int1 : List D → Option D
  | [.int i] => some (.int i)
  | [.bl b] => some (.int (if b then 1 else 0))
  | _ => none
theorem cd_int : CallD (fun xs H Q => (∃ i, xs = [.int i] ∧ Q (.int i) H) ∨ ∃ k, xs = [.bl k] ∧ Q (.int (if k then 1 else 0)) H) int1 := by
  intro rt F H ds d vs Q s h e k
  match ds, e with
  | [.int i], e =>
    simp only [int1, Option.some.injEq] at e
    subst e
    obtain ⟨v, rfl, hv⟩ := hbl1 h
    rw [hv.int]
    exact .inl ⟨i, rfl, fin0 s k (by simp only [Holds])⟩
  | [.bl b], e =>
    simp only [int1, Option.some.injEq] at e
    subst e
    obtain ⟨v, rfl, hv⟩ := hbl1 h
    rw [hv.bl]
    exact .inr ⟨b, rfl, fin0 s k (by simp only [Holds])⟩
def min2 : List D → Option D
  | [.int i, .int j] => some (.int (if j < i then j else i))
  | _ => none
def max2 : List D → Option D
  | [.int i, .int j] => some (.int (if j > i then j else i))
  | _ => none
theorem cd_min2 : CallD (fun xs H Q => ∃ i j, xs = [.int i, .int j] ∧ Q (.int (if j < i then j else i)) H) min2 := by
  intro rt F H ds d vs Q s h e k
  match ds, e with
  | [.int i, .int j], e =>
    simp only [min2, Option.some.injEq] at e
    subst e
    obtain ⟨v, w, rfl, hv, hw⟩ := hbl2 h
    rw [hv.int, hw.int]
    exact ⟨i, j, rfl, fin0 s k (by simp only [Holds])⟩
theorem cd_max2 : CallD (fun xs H Q => ∃ i j, xs = [.int i, .int j] ∧ Q (.int (if j > i then j else i)) H) max2 := by
  intro rt F H ds d vs Q s h e k
  match ds, e with
  | [.int i, .int j], e =>
    simp only [max2, Option.some.injEq] at e
    subst e
    obtain ⟨v, w, rfl, hv, hw⟩ := hbl2 h
    rw [hv.int, hw.int]
    exact ⟨i, j, rfl, fin0 s k (by simp only [Holds])⟩
def max1 : List D → Option D
  | [.lst ds] => match intsD ds with
    | some (n :: ns) => some (.int (ns.foldl max n))
    | _ => none
  | _ => none
theorem foldl_max : ∀ (ns : List Int) (n : Int), ns.foldl max n ∈ n :: ns ∧ ∀ y ∈ n :: ns, y ≤ ns.foldl max n
  | [], n => by simp
  | m :: ns, n => by
    obtain ⟨h1, h2⟩ := foldl_max ns (max n m)
    simp only [List.foldl_cons]
    refine ⟨?_, fun y hy => ?_⟩
    · rcases List.mem_cons.mp h1 with e | e
      · rw [e]
        rcases Int.le_total n m with q | q
        · rw [Int.max_eq_right q]; simp
        · rw [Int.max_eq_left q]; simp
      · exact List.mem_cons_of_mem _ (List.mem_cons_of_mem _ e)
    · have h0 := h2 (max n m) List.mem_cons_self
      simp only [List.mem_cons] at hy
      rcases hy with e | e | e
      · rw [e]; exact Int.le_trans (Int.le_max_left _ _) h0
      · rw [e]; exact Int.le_trans (Int.le_max_right _ _) h0
      · exact h2 y (List.mem_cons_of_mem _ e)
theorem cd_max1 {K : PySem.W.Frag} : CallD (rMax K) max1 := by
  intro rt F H ds d vs Q s h e k
  match ds, e with
  | [.lst xs], e =>
    simp only [max1] at e
    cases q : intsD xs with
    | none => rw [q] at e; cases e
    | some ns =>
      rw [q] at e
      cases ns with
      | nil => cases e
      | cons n ns =>
        simp only [Option.some.injEq] at e
        subst e
        have ex := intsD_inv q
        subst ex
        obtain ⟨v, rfl, hv⟩ := hbl1 h
        obtain ⟨a, us, rfl, f, l⟩ := hv.lst
        have eu := holds_ints l
        subst eu
        refine ⟨a, n :: ns, rfl, SqL.of f, by simp, fun m hm hle => ?_⟩
        obtain ⟨h1, h2⟩ := foldl_max ns n
        have : m = ns.foldl max n := Int.le_antisymm (h2 m hm) (hle _ h1)
        subst this
        exact fin0 s k (by simp only [Holds])
/-- max of two ints, or of one list of ints -/
def maxA (ds : List D) : Option D := match max2 ds with
  | some d => some d
  | none => max1 ds
theorem CallD.or {r r' : List V → Hp → VK → Prop} {g g' : List D → Option D} (h : CallD r g) (h' : CallD r' g') : CallD (fun xs H Q => r xs H Q ∨ r' xs H Q) fun x => match g x with
    | some d => some d
    | none => g' x := by
  intro rt F H ds d vs Q s hx e k
  dsimp only at e
  cases q : g ds with
  | some d' => rw [q] at e; cases e; exact .inl (h rt F H ds d vs Q s hx q k)
  | none => rw [q] at e; exact .inr (h' rt F H ds d vs Q s hx e k)
end DL

/-! The data layer, 9: lists that a slot owns, changed. -/
namespace DL
open PySem L2

section
variable {Z : TSys} {ad : Z.Ad} {env : List Sl} {T : Z.T} {F H : Hp} {σ : L2.St} {A : List Addr}
theorem set_list_self {α : Type} : ∀ {l : List α} {i : Nat} {x : α}, l[i]? = some x → l.set i x = l := set_self
theorem Rel.mutL (R : Rel Z ad env T F σ H A) {i : Nat} {ds : List D} (hi : env[i]? = some (.ow 1 (.lst ds))) :
    ∃ p vs, σ[i]? = some (some (.ref p)) ∧ H p = some (.lst vs) ∧ HoldsL (Z.root ad) F ds vs ∧
      ∀ ds' vs', HoldsL (Z.root ad) F ds' vs' → Rel Z ad (env.set i (.ow 1 (.lst ds'))) T F σ (L2.upd H p (.lst vs')) A ∧ Stp Z ad A F H A F (L2.upd H p (.lst vs')) := by
  obtain ⟨o, A0, A1, A2, e1, eA, ⟨v, eo, hv⟩, re⟩ := R.env.split hi
  subst eA eo
  obtain ⟨p, B, e, f, eA, vs, hp, hl⟩ := hv
  obtain ⟨hl', eB⟩ := OwnL.zero hl
  subst e eA eB
  have nd := R.nd
  rw [List.nodup_append, List.nodup_append] at nd
  have pin : p ∈ A0 ++ [p] ++ A2 := by simp
  refine ⟨p, vs, e1, hp, hl', fun ds' vs' h' => ?_⟩
  have off : ∀ a ∈ A0 ++ A2, a ≠ p := fun a ha z => by
    subst z
    rcases List.mem_append.mp ha with z | z
    · exact nd.1.2.2 a z a (by simp) rfl
    · exact nd.2.2 a (by simp) a z rfl
  have e2 := re (F' := F) (H' := L2.upd H p (.lst vs')) (y := .ow 1 (.lst ds')) (o' := some (.ref p)) (B := [p]) (Same.refl _) (fun a ha => ⟨L2.upd_ne (off a ha), ?_⟩) ⟨.ref p, rfl, p, [], rfl, f, rfl, vs', L2.upd_same, OwnL.ofHolds h'⟩
  · rw [set_self e1] at e2
    refine ⟨⟨fun a o z => ?_, e2, R.nd, Z.loc R.tp fun b hb => L2.upd_ne fun z => (R.tf b hb).2 (z ▸ pin), R.tf⟩, Same.refl _, fun a h => .inl h, fun a h => .inl h, fun a o z hA _ => ?_, fun a o z => ?_⟩
    · rw [L2.upd_ne fun w => by rw [w, f] at z; cases z]
      exact R.same _ _ z
    · rw [L2.upd_ne fun (w : a = p) => hA (by rw [w]; exact pin)]; exact z
    · by_cases w : a = p
      · subst w; exact ⟨_, L2.upd_same⟩
      · rw [L2.upd_ne w]; exact ⟨o, z⟩
  · refine (R.at a ?_).1
    rcases List.mem_append.mp ha with z | z
    · simp [z]
    · simp [z]
end
def MutD (r : V → List V → Hp → VK → Prop) (u : List D → List D → Option (D × List D)) : Prop := ∀ (rt : V) (F H : Hp) (p : Addr) (vs : List V) (ds as : List D) (us : List V) (d : D) (ds' : List D) (Q : VK), Same F H → H p = some (.lst vs) → HoldsL rt F ds vs → HoldsL rt F as us → u as ds = some (d, ds') →
  (∀ v vs', Holds rt F d v → HoldsL rt F ds' vs' → Q v (upd H p (.lst vs'))) → r (.ref p) us H Q
def isL1 (env : List Sl) (i : Nat) : Bool := match env[i]? with
  | some (.ow 1 (.lst _)) => true
  | _ => false
def mmut {Z : TSys} (i : Nat) (u : List D → List D → Option (D × List D)) (as : ML Z) : M Z := fun e t => if isL1 e i then match as e t with
  | some (xs, e1, t1) => match e1[i]? with
    | some (.ow 1 (.lst ds)) => match u xs ds with
      | some (d, ds') => some (d, e1.set i (.ow 1 (.lst ds')), t1)
      | none => none
    | _ => none
  | none => none
  else none
section
variable {Z : TSys} {X : Cx} {x name : Str} {xpos apos cpos : Pos} {e : Expr} {es : List Expr} {id : String} {r : V → List V → Hp → VK → Prop} {u : List D → List D → Option (D × List D)} {as : ML Z} {i : Nat}
theorem isL1_get {env : List Sl} (h : isL1 env i = true) : ∃ ds, env[i]? = some (.ow 1 (.lst ds)) := by
  unfold isL1 at h
  split at h
  · rename_i ds q; exact ⟨ds, q⟩
  · cases h
theorem mut_core (hd : MutD r u) {σ : L2.St} {H : Hp} {Q : VK} (h : den Z (mmut i u as) σ H Q) : ∃ v, σ[i]? = some (some v) ∧ tyV X.K "list" v H ∧ denL Z as σ H fun xs H2 => r v xs H2 Q := by
  obtain ⟨ad, env, T, F, A, d, env', T', R, e, k⟩ := h
  unfold mmut at e
  by_cases hi : isL1 env i = true
  · rw [if_pos hi] at e
    obtain ⟨ds0, q0⟩ := isL1_get hi
    obtain ⟨p, vs0, e1, hp0, _, _⟩ := R.mutL q0
    refine ⟨.ref p, e1, .inl ⟨rfl, _, SqL.of hp0⟩, ?_⟩
    cases q : as env T with
    | none => rw [q] at e; cases e
    | some z =>
      obtain ⟨xs, en, t1⟩ := z
      rw [q] at e
      simp only at e
      cases q1 : en[i]? with
      | none => rw [q1] at e; cases e
      | some sl =>
        rw [q1] at e
        match sl, q1, e with
        | .ow 1 (.lst ds), q1, e =>
          simp only at e
          cases q2 : u xs ds with
          | none => rw [q2] at e; cases e
          | some w =>
            obtain ⟨d1, ds'⟩ := w
            rw [q2] at e
            simp only [Option.some.injEq, Prod.mk.injEq] at e
            obtain ⟨rfl, rfl, rfl⟩ := e
            refine ⟨ad, env, T, F, A, xs, en, t1, R, q, fun us H' F' A' R' S' hu => ?_⟩
            obtain ⟨p', vs, e2, hp, hl, go⟩ := R'.mutL q1
            rw [e1] at e2
            cases e2
            refine hd _ F' H' p vs ds xs us d1 ds' Q R'.same hp hl hu q2 fun v vs' hv hl' => ?_
            obtain ⟨R2, S2⟩ := go ds' vs' hl'
            exact k v _ F' A' R2 (R'.st S' S2 R2) hv
  · rw [if_neg hi] at e; cases e
theorem ie_mut (slot : Slot "list" name id) (hty : typeOf (.builtin id) = pure (.type "method_descriptor")) (hm : MtR X id r) (hd : MutD r u) (ho : PE X (.Name x xpos) (tVar i)) (ha : IsL Z X (e :: es) as)
    (hbase : attributeBase (.Name x xpos) name X.env (eval (.Name x xpos) X.env) = eval (.Name x xpos) X.env := by rfl)
    (hfew : ((backTo cpos (starEach (e :: es) X.env)).all (fun x => !x.1) && (backToKw cpos (keywordEach [] X.env)).all (fun x => x.1.isSome)
      && decide ((e :: es).length + ([] : List Keyword).length + (if ([] : List Keyword).isEmpty then 0 else 1) < 30)) = true := by rfl)
    (hline : (apos.endLine == cpos.line) = true := by rfl) (hs : starEach (e :: es) X.env = (false, eval e X.env) :: starEach es X.env := by rfl) (hplain : (backTo cpos (starEach es X.env)).any (·.1) = false := by rfl) :
    IsE Z X (.Call (.Attribute (.Name x xpos) name apos) (e :: es) [] cpos) (mmut i u as) :=
  ⟨PE.imp (pe_bm PySem.F.plainAttrs_list slot hty hm ho ha.pa hbase hfew hline hs hplain) fun σ H Q h => mut_core (X := X) hd h⟩
theorem ie_mut0 (slot : Slot "list" name id) (hty : typeOf (.builtin id) = pure (.type "method_descriptor")) (hm : MtR X id r) (hd : MutD r u) (ho : PE X (.Name x xpos) (tVar i))
    (hbase : attributeBase (.Name x xpos) name X.env (eval (.Name x xpos) X.env) = eval (.Name x xpos) X.env := by rfl) (hline : (apos.endLine == cpos.line) = true := by rfl) :
    IsE Z X (.Call (.Attribute (.Name x xpos) name apos) [] [] cpos) (mmut i u mnil) :=
  ⟨PE.imp (pe_bm0 PySem.F.plainAttrs_list slot hty hm ho hbase hline) fun σ H Q h => by
    obtain ⟨v, e1, ty, q⟩ := mut_core (X := X) hd h
    refine ⟨v, e1, ty, ?_⟩
    obtain ⟨ad, env, T, F, A, os, env', T', R, e, k⟩ := q
    simp only [mnil, Option.some.injEq, Prod.mk.injEq] at e
    obtain ⟨rfl, rfl, rfl⟩ := e
    exact k [] H F A R Stp.refl .nil⟩
end
/-! ### append, extend, insert, pop -/
theorem hl1 {rt : V} {F : Hp} {d : D} {vs : List V} (h : HoldsL rt F [d] vs) : ∃ v, vs = [v] ∧ Holds rt F d v := by
  simp only [HoldsL] at h
  obtain ⟨v, r, rfl, h1, rfl⟩ := h
  exact ⟨v, rfl, h1⟩
theorem hl2 {rt : V} {F : Hp} {d e : D} {vs : List V} (h : HoldsL rt F [d, e] vs) : ∃ v w, vs = [v, w] ∧ Holds rt F d v ∧ Holds rt F e w := by
  simp only [HoldsL] at h
  obtain ⟨v, r, rfl, h1, w, r2, rfl, h2, rfl⟩ := h
  exact ⟨v, w, rfl, h1, h2⟩
def uAppend : List D → List D → Option (D × List D)
  | [d], ds => if ds.length < sizeLine then some (.non, ds ++ [d]) else none
  | _, _ => none
theorem ud_append : MutD rAppend uAppend := by
  intro rt F H p vs ds as us d ds' Q s hp hl ha e k
  match as, e with
  | [a], e =>
    simp only [uAppend] at e
    split at e
    · rename_i hz
      simp only [Option.some.injEq, Prod.mk.injEq] at e
      obtain ⟨rfl, rfl⟩ := e
      obtain ⟨v, rfl, hv⟩ := hl1 ha
      exact ⟨p, vs, v, rfl, rfl, hp, by rw [hl.length]; exact hz, k _ _ (by simp only [Holds]) (hl.app (.one hv))⟩
    · cases e
def uExtend : List D → List D → Option (D × List D)
  | [.lst es], ds => if ds.length + es.length ≤ sizeLine then some (.non, ds ++ es) else none
  | _, _ => none
theorem ud_extend : MutD rExtend uExtend := by
  intro rt F H p vs ds as us d ds' Q s hp hl ha e k
  match as, e with
  | [.lst es], e =>
    simp only [uExtend] at e
    split at e
    · rename_i hz
      simp only [Option.some.injEq, Prod.mk.injEq] at e
      obtain ⟨rfl, rfl⟩ := e
      obtain ⟨v, rfl, hv⟩ := hl1 ha
      simp only [Holds] at hv
      obtain ⟨b, ws, rfl, f, l⟩ := hv
      exact ⟨p, b, vs, ws, rfl, rfl, hp, s _ _ f, by rw [hl.length, l.length]; exact hz, k _ _ (by simp only [Holds]) (hl.app l)⟩
    · cases e
def uInsert : List D → List D → Option (D × List D)
  | [.int i, d], ds => if ds.length < sizeLine ∧ 0 ≤ i ∧ i < 2 ^ 63 then some (.non, ds.take i.toNat ++ [d] ++ ds.drop i.toNat) else none
  | _, _ => none
theorem ud_insert : MutD (fun x vs H Q => ∃ (l : Addr) (xs : List V) (i : Int) (y : V), x = .ref l ∧ vs = [.int i, y] ∧ H l = some (.lst xs) ∧ xs.length < sizeLine ∧ 0 ≤ i ∧ i < 2 ^ 63 ∧ Q .non (upd H l (.lst (xs.take i.toNat ++ [y] ++ xs.drop i.toNat)))) uInsert := by
  intro rt F H p vs ds as us d ds' Q s hp hl ha e k
  match as, e with
  | [.int i, a], e =>
    simp only [uInsert] at e
    split at e
    · rename_i hz
      simp only [Option.some.injEq, Prod.mk.injEq] at e
      obtain ⟨rfl, rfl⟩ := e
      obtain ⟨v, w, rfl, hv, hw⟩ := hl2 ha
      simp only [Holds] at hv
      subst hv
      exact ⟨p, vs, i, w, rfl, rfl, hp, by rw [hl.length]; exact hz.1, hz.2.1, hz.2.2, k _ _ (by simp only [Holds]) (((hl.take _).app (.one hw)).app (hl.drop _))⟩
    · cases e
def uPop : List D → List D → Option (D × List D)
  | [], ds => match ds[ds.length - 1]? with
    | some d => some (d, ds.dropLast)
    | none => none
  | _, _ => none
theorem HoldsL.dropLast {rt : V} {F : Hp} {ds : List D} {vs : List V} (h : HoldsL rt F ds vs) : HoldsL rt F ds.dropLast vs.dropLast := by
  rw [List.dropLast_eq_take, List.dropLast_eq_take, h.length]
  exact h.take _
theorem ud_pop : MutD rPop uPop := by
  intro rt F H p vs ds as us d ds' Q s hp hl ha e k
  match as, e with
  | [], e =>
    simp only [uPop] at e
    cases q : ds[ds.length - 1]? with
    | none => rw [q] at e; cases e
    | some d' =>
      rw [q] at e
      simp only [Option.some.injEq, Prod.mk.injEq] at e
      obtain ⟨rfl, rfl⟩ := e
      simp only [HoldsL] at ha
      subst ha
      obtain ⟨v, ev, hv⟩ := hl.get q
      exact ⟨p, vs, v, rfl, rfl, hp, by rw [hl.length]; exact ev, k _ _ hv hl.dropLast⟩
def uPopAt : List D → List D → Option (D × List D)
  | [.int i], ds => match ixN ds.length i with
    | some j => if -(2 ^ 63) ≤ i ∧ i < 2 ^ 63 then match ds[j]? with
      | some d => some (d, ds.eraseIdx j)
      | none => none
      else none
    | none => none
  | _, _ => none
theorem ud_popAt : MutD rPopAt uPopAt := by
  intro rt F H p vs ds as us d ds' Q s hp hl ha e k
  match as, e with
  | [.int i], e =>
    simp only [uPopAt] at e
    cases q : ixN ds.length i with
    | none => rw [q] at e; cases e
    | some j =>
      rw [q] at e
      simp only at e
      split at e
      · rename_i hz
        cases q2 : ds[j]? with
        | none => rw [q2] at e; cases e
        | some d' =>
          rw [q2] at e
          simp only [Option.some.injEq, Prod.mk.injEq] at e
          obtain ⟨rfl, rfl⟩ := e
          obtain ⟨v, rfl, hv⟩ := hl1 ha
          simp only [Holds] at hv
          subst hv
          obtain ⟨w, ew, hw⟩ := hl.get q2
          obtain ⟨h1, _⟩ := ixN_seq q
          exact ⟨p, vs, i, j, w, rfl, rfl, hp, hz.1, hz.2, by rw [hl.length]; exact h1, ew, k _ _ hw (hl.eraseIdx j)⟩
      · cases e

/-! ### x[k] = e, x += e -/
def ssub {Z : TSys} (i : Nat) (mk me : M Z) : SM Z := fun e t => match me e t with
  | some (d, e1, t1) => if isL1 e1 i then match mk e1 t1 with
    | some (.int k, e2, t2) => match e2[i]? with
      | some (.ow 1 (.lst ds)) => match ixN ds.length k with
        | some j => some (.nx, e2.set i (.ow 1 (.lst (ds.set j d))), t2)
        | none => none
      | _ => none
    | _ => none
    else none
  | none => none
section
variable {Z : TSys} {X : Cx} {x : Str} {xpos pos spos : Pos} {e k : Expr} {i : Nat} {mk me : M Z}
theorem is_sub (he : IsE Z X e me) (ho : PE X (.Name x xpos) (tVar i)) (hk : IsE Z X k mk) (hs : swapsWithSole [.Subscript (.Name x xpos) k spos] e pos.line X.env = pure false := by rfl) (hw : swappedStores [.Subscript (.Name x xpos) k spos] e X.env = pure none := by rfl)
    (h1 : (assignEach [.Subscript (.Name x xpos) k spos] X.env).map (·.2) = [assign (.Subscript (.Name x xpos) k spos) X.env] := by rfl)
    (ha : ∀ v, assign (.Subscript (.Name x xpos) k spos) X.env v = (do
      let ov ← holding [v] (eval (.Name x xpos) X.env)
      let iv ← holding [v, ov] (eval k X.env)
      standAt spos
      holding [v, ov, iv] (setItem ov iv v)
      release [v, ov, iv] []) := by intro _; rfl) : IsS Z X (.Assign [.Subscript (.Name x xpos) k spos] e pos) (ssub i mk me) :=
  ⟨PS.imp (ps_asg he.pe (pg_sub ho hk.pe set_list ha) hs hw h1) fun Dn σ H ⟨ad, env, T, F, A, fl, env', T', R, e, kk⟩ => by
    unfold ssub at e
    cases q : me env T with
    | none => rw [q] at e; cases e
    | some z =>
      obtain ⟨d, e1, t1⟩ := z
      rw [q] at e
      simp only at e
      refine ⟨ad, env, T, F, A, d, e1, t1, R, q, fun v H' F' A' R' S' hv => ?_⟩
      by_cases hi : isL1 e1 i = true
      · rw [if_pos hi] at e
        obtain ⟨ds0, q0⟩ := isL1_get hi
        obtain ⟨p, vs0, es, _, _, _⟩ := R'.mutL q0
        refine ⟨.ref p, es, ?_⟩
        cases q2 : mk e1 t1 with
        | none => rw [q2] at e; cases e
        | some z2 =>
          obtain ⟨dk, e2, t2⟩ := z2
          rw [q2] at e
          cases dk with
          | int kx =>
            simp only at e
            refine ⟨ad, e1, t1, F', A', .int kx, e2, t2, R', q2, fun w H2 F2 A2 R2 S2 hw => ?_⟩
            simp only [Holds] at hw
            subst hw
            cases q1 : e2[i]? with
            | none => rw [q1] at e; cases e
            | some sl =>
              rw [q1] at e
              match sl, q1, e with
              | .ow 1 (.lst ds), q1, e =>
                simp only at e
                cases q3 : ixN ds.length kx with
                | none => rw [q3] at e; cases e
                | some j =>
                  rw [q3] at e
                  simp only [Option.some.injEq, Prod.mk.injEq] at e
                  obtain ⟨rfl, rfl, rfl⟩ := e
                  obtain ⟨p', vs, es', hp, hl, go⟩ := R2.mutL q1
                  rw [es] at es'
                  cases es'
                  obtain ⟨R3, S3⟩ := go (ds.set j d) (vs.set j v) (hl.set j (hv.mono S2.sF))
                  exact ⟨p, vs, kx, j, rfl, rfl, hp, by rw [hl.length]; exact q3, kk σ _ F2 A2 R3 ((S'.trans S2).trans S3)⟩
          | _ => cases e
      · rw [if_neg hi] at e; cases e⟩
end
/-- x op= e on shared data -/
def saug {Z : TSys} (i : Nat) (g : D → D → Option D) (m : M Z) : SM Z := fun e t => match e[i]? with
  | some (.sh d) => match m e t with
    | some (y, e1, t1) => match g d y with
      | some r => some (.nx, e1.set i (.sh r), t1)
      | none => none
    | none => none
  | _ => none
theorem is_aug {Z : TSys} {X : Cx} {x : Str} {pos pos' : Pos} {e : Expr} {i : Nat} {m : M Z} {op : Operator} {r : R2} {g : D → D → Option D} (hN : X.N.Nodup) (hi : X.N[i]? = some x) (hx : Loc X.env.scope x) (ho : OpR X (inplaceOp op) r) (hd : OpD r g) (he : IsE Z X e m)
    (hf : X.fn x = true ∨ X.env.scope.names.lookup x = some .local := by first | exact .inl rfl | exact .inr rfl | assumption) : IsS Z X (.AugAssign (.Name x pos') op e pos) (saug i g m) :=
  ⟨PS.imp (ps_aug hN hi hx he.pe (show PIp X op r from ho) hf) fun Dn σ H ⟨ad, env, T, F, A, fl, env', T', R, e, kk⟩ => by
    unfold saug at e
    cases q0 : env[i]? with
    | none => rw [q0] at e; cases e
    | some s0 =>
      rw [q0] at e
      cases s0 with
      | sh d =>
        simp only at e
        obtain ⟨o, A0, A1, A2, e1, eA, ⟨_, v, eo, hv⟩, _⟩ := R.env.split q0
        subst eo
        refine ⟨v, e1, ?_⟩
        cases q : m env T with
        | none => rw [q] at e; cases e
        | some z =>
          obtain ⟨y, e2, t2⟩ := z
          rw [q] at e
          simp only at e
          cases q2 : g d y with
          | none => rw [q2] at e; cases e
          | some r' =>
            rw [q2] at e
            simp only [Option.some.injEq, Prod.mk.injEq] at e
            obtain ⟨rfl, rfl, rfl⟩ := e
            refine ⟨ad, env, T, F, A, y, e2, t2, R, q, fun w H' F' A' R' S' hw => ?_⟩
            refine hd _ F' H' d y r' v w _ R'.same (HB.of R'.same (hv.mono S'.sF)) (HB.of R'.same hw) q2 fun z F2 H2 n hz => ?_
            obtain ⟨R2, S2⟩ := R'.new n
            obtain ⟨A3, R3, S3⟩ := R2.setSh i hz
            exact kk _ H2 F2 A3 R3 ((S'.trans S2).trans S3)
      | _ => cases e⟩
theorem iop_addA {X : Cx} : OpR X (inplaceOp .Add) (fun x y H Q => (rI0 fun i j => .int (i + j)) x y H Q ∨ ∃ i j, x = .str i ∧ y = .str j ∧ i.length + j.length ≤ sizeLine ∧ Q (.str (i ++ j)) H) := iop_add.or iop_add_str
def addIS : D → D → Option D
  | .int i, .int j => some (.int (i + j))
  | .str x, .str y => if x.length + y.length ≤ sizeLine then some (.str (x ++ y)) else none
  | _, _ => none
theorem od_addIS : OpD (fun x y H Q => (rI0 fun i j => .int (i + j)) x y H Q ∨ ∃ i j, x = .str i ∧ y = .str j ∧ i.length + j.length ≤ sizeLine ∧ Q (.str (i ++ j)) H) addIS := by
  intro rt F H dx dy d x y Q s hx hy e k
  cases dx with
  | int i =>
    cases dy with
    | int j =>
      simp only [addIS, Option.some.injEq] at e
      subst e
      exact .inl ⟨i, j, hx.int, hy.int, fin0 s k (by simp only [Holds])⟩
    | _ => cases e
  | str i =>
    cases dy with
    | str j =>
      simp only [addIS] at e
      split at e
      · rename_i hz
        simp only [Option.some.injEq] at e
        subst e
        exact .inr ⟨i, j, hx.str, hy.str, hz, fin0 s k (by simp only [Holds])⟩
      · cases e
    | _ => cases e
  | _ => cases e
end DL

/-! The data layer, 10: products, index, join, isinstance. -/
namespace DL
open PySem L2 PySem.Spec PyProof.Rows

/-! ### tuple * int -/
theorem tuple_mulSame (l : Addr) (items : Array Value) (n : Nat) (dd : Option Addr) (sl : Array (Option Value)) (x : Int) (u : Tok) (c0 : (decide (x < -(2 ^ 63)) || decide (x ≥ 2 ^ 63)) = false) (c1 : (items.isEmpty || x == 1) = true) :
    Meets (Builtin.«tuple.__mul__» ⟨[.ref l, .int x u], []⟩) (fun _ R s => s.heap.get? l = some { cls := .type "tuple", dict := dd, data := .seq items n, slots := sl } ∧ R (.ok (.ret (Value.ref l))) s) :=
  .of_wp fun prog w A R s h => by
    obtain ⟨hp, g, d, tk, os⟩ := s
    obtain ⟨hl, h⟩ := h
    have f1 := AutoSeq1.idx_int
    wp_walk using wpAny_loadPart' hl
    repeat (first
      | (refine wpAny_ite_false (decide_eq_false (by rw [c0]; exact Bool.false_ne_true)) ?_; wp_walk using wpAny_loadPart' hl)
      | (refine wpAny_ite_true (decide_eq_true (by rw [c1])) ?_; wp_walk using wpAny_loadPart' hl))
    exact ⟨_, rfl, h⟩
theorem tuple_mulNone (l : Addr) (items : Array Value) (n : Nat) (dd : Option Addr) (sl : Array (Option Value)) (x : Int) (u : Tok) (c0 : (decide (x < -(2 ^ 63)) || decide (x ≥ 2 ^ 63)) = false) (c1 : (items.isEmpty || x == 1) = false) (c2 : (decide (x ≤ 0) || items.isEmpty) = true) :
    Meets (Builtin.«tuple.__mul__» ⟨[.ref l, .int x u], []⟩) (fun _ R s => s.heap.get? l = some { cls := .type "tuple", dict := dd, data := .seq items n, slots := sl } ∧
      R (.ok (.ret (Value.ref s.heap.objs.size))) { s with heap := s.heap.push { cls := Value.type "tuple", data := Data.seq #[] }, toks := s.toks }) :=
  .of_wp fun prog w A R s h => by
    obtain ⟨hp, g, d, tk, os⟩ := s
    obtain ⟨hl, h⟩ := h
    have f1 := AutoSeq1.idx_int
    wp_walk using wpAny_loadPart' hl
    repeat (first
      | (refine wpAny_ite_false (decide_eq_false (by rw [c0]; exact Bool.false_ne_true)) ?_; wp_walk using wpAny_loadPart' hl)
      | (refine wpAny_ite_false (decide_eq_false (by rw [c1]; exact Bool.false_ne_true)) ?_; wp_walk using wpAny_loadPart' hl)
      | (refine wpAny_ite_true (decide_eq_true (by rw [c2])) ?_; wp_walk using wpAny_loadPart' hl))
    exact ⟨_, rfl, h⟩

def rRepF (K : PySem.W.Frag) : R2 := fun x y H Q => ∃ l k xs, x = .ref l ∧ y = .int k ∧ SqT K H l xs ∧ k ≤ 1000 ∧ -(2 ^ 63) ≤ k ∧ xs.length ≤ 1000 ∧
  (k = 1 → Q (.ref l) H) ∧ (xs = [] → Q (.ref l) H) ∧ ∀ p o, H p = none → o.dict = none → Q (.ref p) (upd H p (.frz o (.tup (List.replicate k.toNat xs).flatten)))
section
variable {X : Cx}
theorem op_repF : OpR X (binaryOp .Mult) (rRepF X.K) := by
  intro pins s σ H x y v u Q I rx ry h
  obtain ⟨l, k, xs, rfl, rfl, hT, h2, h1, hz, q1, q0, q⟩ := h
  cases rx
  obtain ⟨t, rfl⟩ := ry
  obtain ⟨its, r, ⟨⟨cls, dd, data, sl⟩, ho, hc, n, hd⟩, hs⟩ := I.tuple hT
  simp only at hc hd
  subst hc hd
  have hle : its.length = xs.length := r.length.symm
  have hsz0 : its.toArray.size = xs.length := by rw [List.size_toArray, hle]
  have c0 : (decide (k < -(2 ^ 63)) || decide (k ≥ 2 ^ 63)) = false := by
    rw [decide_eq_false (by omega), decide_eq_false (by omega)] <;> rfl
  refine wpAny_binaryOp_repeat_ref (T := "tuple") (U := "int") (by decide) ⟨_, ho, rfl⟩ (fun s' => typeIs_int s' k t) noFill_tuple_mul F.fills_int_mul F.slot_int_rmul repeat_tuple F.slot_int_index.lookup
    (call_meets F.slot_int_rmul (typeIs_int s k t) F.entry_int_rmul (F.args_int_rmul_2 _ _) (int_rmul_tuple k t l its.toArray n dd sl) ⟨ho, rfl, ⟨_, ho, rfl⟩, ?_⟩)
  by_cases c1 : (its.toArray.isEmpty || k == 1) = true
  · refine call_meets F.slot_tuple_mul ⟨_, ho, rfl⟩ F.entry_tuple_mul (F.args_tuple_mul_2 _ _) (tuple_mulSame l its.toArray n dd sl k t c0 c1) ⟨ho, ?_⟩
    refine ⟨.ref l, H, I, rfl, ?_⟩
    rw [Bool.or_eq_true] at c1
    rcases c1 with z | z
    · exact q0 (by
        have : its.toArray.size = 0 := by simpa using z
        rw [hsz0] at this
        exact List.eq_nil_of_length_eq_zero this)
    · exact q1 (by simpa using z)
  · have c1' : (its.toArray.isEmpty || k == 1) = false := by simpa using c1
    have ne : its.toArray.isEmpty = false := (Bool.or_eq_false_iff.mp c1').1
    by_cases c2 : (decide (k ≤ 0) || its.toArray.isEmpty) = true
    · refine call_meets F.slot_tuple_mul ⟨_, ho, rfl⟩ F.entry_tuple_mul (F.args_tuple_mul_2 _ _) (tuple_mulNone l its.toArray n dd sl k t c0 c1' c2) ⟨ho, ?_⟩
      rw [ne, Bool.or_false] at c2
      have k0 : k.toNat = 0 := by have := of_decide_eq_true c2; omega
      rw [k0] at q
      exact ⟨.ref s.heap.objs.size, _, laidT I (xs := []) (us := []) .nil (Nat.zero_le _) s.toks, rfl, q _ _ (I.hok.fresh (Nat.le_refl _)) rfl⟩
    · have c2' : (decide (k ≤ 0) || its.toArray.isEmpty) = false := by simpa using c2
      rw [ne, Bool.or_false] at c2
      have kp : 1 ≤ k := by
        have : ¬ k ≤ 0 := fun z => c2 (decide_eq_true z)
        omega
      have hm : ((its.toArray.size : Nat) : Int) * k ≤ 1000000 := by
        rw [hsz0]
        have a1 : ((xs.length : Nat) : Int) * k ≤ 1000 * k := Int.mul_le_mul_of_nonneg_right (by omega) (by omega)
        omega
      have flen : (List.replicate k.toNat its).flatten.length ≤ sizeLine := by
        rw [PyProof.Rows.lm_len_rep_flat, hle, sizeLine_eq]
        have a1 : k.toNat * xs.length ≤ 1000 * 1000 := Nat.mul_le_mul (by omega) hz
        omega
      have flen2 : (List.replicate k.toNat xs).flatten.length ≤ sizeLine := by
        rw [PyProof.Rows.lm_len_rep_flat, sizeLine_eq]
        have a1 : k.toNat * xs.length ≤ 1000 * 1000 := Nat.mul_le_mul (by omega) hz
        omega
      have c4 : Builtin.Tuple.tupleTooMany (((its.toArray.size : Nat) : Int) * k) = false := by
        unfold Builtin.Tuple.tupleTooMany
        rw [sizeLine_eq]
        exact decide_eq_false (by omega)
      refine call_meets F.slot_tuple_mul ⟨_, ho, rfl⟩ F.entry_tuple_mul (F.args_tuple_mul_2 _ _) (tuple_mulW l its.toArray n dd sl k t c0 c1' c2' (by omega) c4 (by rw [size_rep, List.size_toArray]; exact flen)) ⟨ho, ?_⟩
      rw [size_rep]
      exact ⟨.ref s.heap.objs.size, _, laidT I (r.rep k.toNat) flen2 s.toks, rfl, q _ _ (I.hok.fresh (Nat.le_refl _)) rfl⟩
/-- text * int -/
def repS (k : Nat) (x : Str) : Str := ⟨((List.replicate k x.cps.toList).flatten).toArray⟩
theorem fold_cps (x : Str) : ∀ (k : Nat) (acc : Array Nat), (List.replicate k x.cps).foldl (· ++ ·) acc = acc ++ ((List.replicate k x.cps.toList).flatten).toArray
  | 0, acc => by simp
  | k + 1, acc => by
    rw [List.replicate_succ, List.foldl_cons, fold_cps x k, List.replicate_succ, List.flatten_cons]
    apply Array.ext'
    simp
def rRepS : R2 := fun x y H Q => ∃ z k, x = .str z ∧ y = .int k ∧ k ≤ 1000 ∧ -(2 ^ 63) ≤ k ∧ z.length ≤ 1000 ∧ Q (.str (repS k.toNat z)) H
theorem op_repS : OpR X (binaryOp .Mult) rRepS := by
  intro pins s σ H x y v u Q I rx ry h
  obtain ⟨z, k, rfl, rfl, h2, h1, hz, q⟩ := h
  obtain ⟨t, rfl⟩ := rx
  obtain ⟨t', rfl⟩ := ry
  have fin : ∀ {z' : Str}, z' = repS k.toNat z → ∀ tk, EP X pins σ Q (.str z' tk) { s with toks := s.toks + 1 } := fun {z'} e tk => by
    subst e
    exact ⟨.str (repS k.toNat z), H, I.tok _, ⟨_, rfl⟩, q⟩
  refine PySem.P.mul_str (by rw [decide_eq_false (by omega), decide_eq_false (by omega)]; rfl) (fun hk hne => ?_) (fun hk hne => ?_) ?_
  · have kp : 1 ≤ k := by omega
    have : (1000 : Int) ≤ (2 ^ 63 - 1) / k := by
      rw [Int.le_ediv_iff_mul_le (by omega)]
      omega
    omega
  · unfold Builtin.Str.tooLong
    have : z.length * k.toNat ≤ 1000 * 1000 := Nat.mul_le_mul hz (by omega)
    first
      | (rw [sizeLine_eq]; exact decide_eq_false (by omega))
      | (simp; omega)
  · by_cases hk : k < 1
    · rw [if_pos hk]
      refine ⟨by decide, fin ?_ _⟩
      unfold repS
      rw [show k.toNat = 0 by omega]
      rfl
    · rw [if_neg hk]
      by_cases h1' : (k == 1 || z.length == 0) = true
      · rw [if_pos h1']
        have e : z = repS k.toNat z := by
          unfold repS
          rw [Bool.or_eq_true] at h1'
          rcases h1' with w | w
          · have : k = 1 := by simpa using w
            subst this
            simp
          · have w' : z.cps.size = 0 := by
              have w0 : z.length = 0 := by simpa using w
              exact w0
            have w2 : z.cps = #[] := Array.eq_empty_of_size_eq_zero w'
            obtain ⟨c⟩ := z
            simp only at w2
            subst w2
            simp
        exact ⟨.str (repS k.toNat z), H, I, by rw [← e]; exact ⟨_, rfl⟩, q⟩
      · rw [if_neg h1']
        refine ⟨?_, fin ?_ _⟩
        · show (⟨(List.replicate k.toNat z.cps).foldl (· ++ ·) #[]⟩ : Str).length ≤ sizeLine
          rw [fold_cps]
          show (#[] ++ ((List.replicate k.toNat z.cps.toList).flatten).toArray).size ≤ sizeLine
          have : z.length * k.toNat ≤ 1000 * 1000 := Nat.mul_le_mul hz (by omega)
          simp only [Array.size_append, List.size_toArray, PyProof.Rows.lm_len_rep_flat]
          rw [sizeLine_eq]
          have e : z.cps.toList.length = z.length := by simp [Str.length]
          rw [e, Nat.mul_comm]
          simp
          omega
        · rw [fold_cps]; unfold repS; simp
end

def repD (k : Nat) (xs : List D) : List D := (List.replicate k xs).flatten
def mulD : D → D → Option D
  | .int i, .int j => if (-(2 ^ 64) < i ∧ i < 2 ^ 64) ∨ (-(2 ^ 64) < j ∧ j < 2 ^ 64) then some (.int (i * j)) else none
  | .str z, .int k => if k ≤ 1000 ∧ -(2 ^ 63) ≤ k ∧ z.length ≤ 1000 then some (.str (repS k.toNat z)) else none
  | .tup xs, .int k => if k ≤ 1000 ∧ -(2 ^ 63) ≤ k ∧ xs.length ≤ 1000 then some (.tup (repD k.toNat xs)) else none
  | .lst xs, .int k => if k ≤ 1000 ∧ -(2 ^ 63) ≤ k ∧ xs.length ≤ 1000 then some (.lst (repD k.toNat xs)) else none
  | _, _ => none
def mulN : D → D → Option (List D)
  | .lst xs, .int k => if k ≤ 1000 ∧ -(2 ^ 63) ≤ k ∧ xs.length ≤ 1000 then some (repD k.toNat xs) else none
  | _, _ => none
theorem HoldsL.rep {rt : V} {F : Hp} {ds : List D} {vs : List V} (h : HoldsL rt F ds vs) : ∀ k : Nat, HoldsL rt F (repD k ds) (List.replicate k vs).flatten
  | 0 => .nil
  | k + 1 => by
    unfold repD
    rw [List.replicate_succ, List.replicate_succ, List.flatten_cons, List.flatten_cons]
    exact h.app (h.rep k)
theorem repD_length (k : Nat) (ds : List D) : (repD k ds).length = k * ds.length := by unfold repD; rw [PyProof.Rows.lm_len_rep_flat]
theorem on_rep : OpN rRep mulN := by
  intro rt F H dx dy ds x y Q s hx hy e k
  cases dx with
  | lst xs =>
    cases dy with
    | int n =>
      simp only [mulN] at e
      split at e
      · rename_i hz
        simp only [Option.some.injEq] at e
        subst e
        obtain ⟨a, vs, rfl, f, l⟩ := hx.lst
        refine ⟨a, n, vs, rfl, hy.int, f, hz.2.1, by omega, ?_, fun p hp => k p _ hp (l.rep _)⟩
        rw [l.length]
        have : xs.length * n.toNat ≤ 1000 * 1000 := Nat.mul_le_mul hz.2.2 (by omega)
        exact Nat.le_trans this (by decide)
      · cases e
    | _ => cases e
  | _ => cases e
def rMulA (K : PySem.W.Frag) : R2 := fun x y H Q => (rI CMul fun i j => .int (i * j)) x y H Q ∨ rRepS x y H Q ∨ rRepF K x y H Q ∨ rRep x y H Q
theorem op_mulA {X : Cx} : OpR X (binaryOp .Mult) (rMulA X.K) := op_mul.or (op_repS.or (op_repF.or op_rep))
theorem od_mul {K : PySem.W.Frag} : OpD (rMulA K) mulD := by
  intro rt F H dx dy d x y Q s hx hy e k
  cases dy with
  | int n =>
    cases dx with
    | int i =>
      simp only [mulD] at e
      split at e
      · rename_i hz
        simp only [Option.some.injEq] at e
        subst e
        exact .inl ⟨i, n, hx.int, hy.int, hz, fin0 s k (by simp only [Holds])⟩
      · cases e
    | str z =>
      simp only [mulD] at e
      split at e
      · rename_i hz
        simp only [Option.some.injEq] at e
        subst e
        exact .inr (.inl ⟨z, n, hx.str, hy.int, hz.1, hz.2.1, hz.2.2, fin0 s k (by simp only [Holds])⟩)
      · cases e
    | tup xs =>
      simp only [mulD] at e
      split at e
      · rename_i hz
        simp only [Option.some.injEq] at e
        subst e
        obtain ⟨a, vs, rfl, f, l⟩ := hx.tup
        refine .inr (.inr (.inl ⟨a, n, vs, rfl, hy.int, (f.mono s).sq, hz.1, hz.2.1, by rw [l.length]; exact hz.2.2, fun e1 => ?_, fun e0 => ?_, fun p o hp ho => finT s k hp ho (l.rep _)⟩))
        · subst e1
          refine fin0 s k ?_
          simp only [Holds]
          exact ⟨a, vs, rfl, f, by unfold repD; simpa using l⟩
        · subst e0
          have : xs = [] := List.eq_nil_of_length_eq_zero l.length.symm
          subst this
          refine fin0 s k ?_
          simp only [Holds]
          exact ⟨a, [], rfl, f, by unfold repD; simpa using l⟩
      · cases e
    | lst xs =>
      simp only [mulD] at e
      refine .inr (.inr (.inr (on_rep.toD rt F H (.lst xs) (.int n) d x y Q s hx hy ?_ k)))
      simp only [mulN]
      split at e
      · rename_i hz; rw [if_pos hz]; exact e
      · cases e
    | _ => cases e
  | _ => cases dx <;> cases e

/-! ### methods of texts, lists, tuples that change nothing -/
def MtD (r : V → List V → Hp → VK → Prop) (g : D → List D → Option D) : Prop := ∀ (rt : V) (F H : Hp) (dx d : D) (ds : List D) (x : V) (vs : List V) (Q : VK), Same F H → HB rt F H dx x → HBL rt F H ds vs → g dx ds = some d →
  (∀ v F' H', New F H F' H' → Holds rt F' d v → Q v H') → r x vs H Q
/-- the kind of a datum -/
def kindD : D → String
  | .non => "NoneType"
  | .bl _ => "bool"
  | .int _ => "int"
  | .str _ => "str"
  | .tup _ => "tuple"
  | .lst _ => "list"
  | .dic _ _ => "dict"
  | .set _ => "set"
  | .tape => "?"
/-- what may have a method: the receiver's type, its own dict is none -/
def tyF (H : Hp) (T : String) (x : V) : Prop := (∃ z, x = .str z ∧ T = "str") ∨ (∃ p xs, x = .ref p ∧ H p = some (.lst xs) ∧ T = "list") ∨ (∃ p xs, x = .ref p ∧ TupF H p xs ∧ T = "tuple") ∨ (∃ p kvs, x = .ref p ∧ H p = some (.dK kvs) ∧ T = "dict") ∨ (∃ p kvs, x = .ref p ∧ H p = some (.dT kvs) ∧ T = "dict")
theorem tyF_is {X : Cx} {pins : List (Addr × Obj)} {σ : L2.St} {H : Hp} {s : Shared} {T : String} {x : V} {v : Value} (I : Inv X pins σ H s) (r : RelV x v) (ty : tyF H T x) :
    s.TypeIs v T ∧ ∀ a, v = .ref a → ∃ ob, s.heap.get? a = some ob ∧ ob.dict = none := by
  rcases ty with ⟨z, rfl, rfl⟩ | ⟨p, xs, rfl, e, rfl⟩ | ⟨p, xs, rfl, e, rfl⟩ | ⟨p, kvs, rfl, e, rfl⟩ | ⟨p, kvs, rfl, e, rfl⟩
  · exact tyV_is (X := X) (x := .str z) (T := "str") I r rfl
  · exact tyV_is (X := X) (x := .ref p) (T := "list") I r (.inl ⟨rfl, xs, SqL.of e⟩)
  · cases r
    obtain ⟨o, e, hd⟩ := e
    obtain ⟨ho, _, its, rv, o', ho', hc, _⟩ := I.hok p _ e
    rw [ho] at ho'
    cases ho'
    refine ⟨⟨o, ho, hc⟩, fun a ea => ?_⟩
    cases ea
    exact ⟨o, ho, hd⟩
  · exact tyV_is (X := X) (x := .ref p) (T := "dict") I r (.inr (.inr (.inl ⟨rfl, .inl ⟨kvs, e⟩⟩)))
  · exact tyV_is (X := X) (x := .ref p) (T := "dict") I r (.inr (.inr (.inl ⟨rfl, .inr ⟨kvs, e⟩⟩)))
theorem HB.ty {rt : V} {F H : Hp} {d : D} {x : V} (s : Same F H) (h : HB rt F H d x) (k : kindD d = "str" ∨ kindD d = "list" ∨ kindD d = "tuple" ∨ kindD d = "dict") : tyF H (kindD d) x := by
  cases d with
  | str z => exact .inl ⟨z, h.str, rfl⟩
  | lst xs => obtain ⟨a, vs, rfl, f, l⟩ := h.lst; exact .inr (.inl ⟨a, vs, rfl, f, rfl⟩)
  | tup xs => obtain ⟨a, vs, rfl, f, l⟩ := h.tup; exact .inr (.inr (.inl ⟨a, vs, rfl, f.mono s, rfl⟩))
  | dic ks xs =>
    obtain ⟨a, vs, rfl, l, f⟩ := h
    rcases f with ⟨kk, _, _, f⟩ | ⟨kk, _, _, f⟩
    · exact .inr (.inr (.inr (.inl ⟨a, _, rfl, f, rfl⟩)))
    · exact .inr (.inr (.inr (.inr ⟨a, _, rfl, f, rfl⟩)))
  | _ => simp [kindD] at k
def tBMF (T : String) (r : V → List V → Hp → VK → Prop) (to : TE) (t : TA) : TE := fun σ H Q => to σ H fun x H1 => tyF H1 T x ∧ t σ H1 fun xs H2 => r x xs H2 Q
section
variable {X : Cx} {o e : Expr} {es : List Expr} {to : TE} {t : TA} {name : Str} {apos cpos : Pos} {T id : String} {r : V → List V → Hp → VK → Prop}
theorem pe_bmF (pa : PlainAttrs T) (slot : Slot T name id) (hty : typeOf (.builtin id) = pure (.type "method_descriptor")) (hm : MtR X id r) (ho : PE X o to) (ha : PA X (e :: es) t)
    (hbase : attributeBase o name X.env (eval o X.env) = eval o X.env := by rfl)
    (hfew : ((backTo cpos (starEach (e :: es) X.env)).all (fun x => !x.1) && (backToKw cpos (keywordEach [] X.env)).all (fun x => x.1.isSome)
      && decide ((e :: es).length + ([] : List Keyword).length + (if ([] : List Keyword).isEmpty then 0 else 1) < 30)) = true := by rfl)
    (hline : (apos.endLine == cpos.line) = true := by rfl) (hs : starEach (e :: es) X.env = (false, eval e X.env) :: starEach es X.env := by rfl) (hplain : (backTo cpos (starEach es X.env)).any (·.1) = false := by rfl) :
    PE X (.Call (.Attribute o name apos) (e :: es) [] cpos) (tBMF T r to t) := by
  refine ⟨fun pins s σ H Q I h => ?_⟩
  refine wpAny_Call_method_late hbase hfew hline rfl (thn (ho.run pins s σ H _ I h) fun v s1 ⟨x, H1, I1, r1, ty, q1⟩ => ?_)
  obtain ⟨h1, h2⟩ := tyF_is I1 r1 ty
  refine ⟨T, id, pa, slot, hty, h1, h2, ?_⟩
  have hA := ha.run cpos pins s1 σ H1 _ I1 q1
  rw [hs] at hA ⊢
  refine Calls.callWith_builtin (by show (false || (backTo cpos (starEach es X.env)).any (·.1)) = false; rw [hplain] <;> rfl) (Calls.evalArgs_plain ?_)
  exact thn hA fun us s2 ⟨vs, H2, I2, r2, q2⟩ => hm pins s2 σ H2 x vs v us Q I2 r1 r2 q2
end
def mmt {Z : TSys} (T : String) (g : D → List D → Option D) (a : Arg Z) (as : List (Arg Z)) : M Z := fun e t => if slotOk a e then match evA a e t with
  | some (o, e1, t1) => match getA a o e1 with
    | some d0 => if kindD d0 = T then match evN as e1 t1 with
      | some (ds, e2, t2) => match getA a o e2 with
        | some d => match g d ds with
          | some r => some (r, e2, t2)
          | none => none
        | none => none
      | none => none
      else none
    | none => none
  | none => none
  else none
section
variable {Z : TSys} {X : Cx} {o e : Expr} {es : List Expr} {name : Str} {apos cpos : Pos} {T id : String} {r : V → List V → Hp → VK → Prop} {g : D → List D → Option D} {A : Arg Z} {as : List (Arg Z)}
theorem ie_mt (hT : T = "str" ∨ T = "list" ∨ T = "tuple" ∨ T = "dict") (pa : PlainAttrs T) (slot : Slot T name id) (hty : typeOf (.builtin id) = pure (.type "method_descriptor")) (hm : MtR X id r) (hd : MtD r g) (ho : IsA Z X o A) (ha : IsAs Z X (e :: es) as)
    (hbase : attributeBase o name X.env (eval o X.env) = eval o X.env := by rfl)
    (hfew : ((backTo cpos (starEach (e :: es) X.env)).all (fun x => !x.1) && (backToKw cpos (keywordEach [] X.env)).all (fun x => x.1.isSome)
      && decide ((e :: es).length + ([] : List Keyword).length + (if ([] : List Keyword).isEmpty then 0 else 1) < 30)) = true := by rfl)
    (hline : (apos.endLine == cpos.line) = true := by rfl) (hs : starEach (e :: es) X.env = (false, eval e X.env) :: starEach es X.env := by rfl) (hplain : (backTo cpos (starEach es X.env)).any (·.1) = false := by rfl) :
    IsE Z X (.Call (.Attribute o name apos) (e :: es) [] cpos) (mmt T g A as) :=
  ⟨PE.imp (pe_bmF pa slot hty hm ho.pe ha.pa hbase hfew hline hs hplain) fun σ H Q ⟨ad, env, T0, F, A0, d, env', T', R, e, k⟩ => by
    unfold mmt at e
    by_cases so : slotOk A env = true
    · rw [if_pos so] at e
      cases q : evA A env T0 with
      | none => rw [q] at e; cases e
      | some z =>
        obtain ⟨o1, e1, t1⟩ := z
        rw [q] at e
        simp only at e
        cases g1 : getA A o1 e1 with
        | none => rw [g1] at e; cases e
        | some d0 =>
          rw [g1] at e
          simp only at e
          by_cases hk : kindD d0 = T
          · rw [if_pos hk] at e
            refine ⟨ad, env, T0, F, A0, o1, e1, t1, R, q, slotOk.has R so, fun v H' F' A' R' S' hv => ⟨?_, ?_⟩⟩
            · have := HB.ty R'.same (hv.get R' g1) (by rw [hk]; exact hT)
              rw [hk] at this
              exact this
            · cases q2 : evN as e1 t1 with
              | none => rw [q2] at e; cases e
              | some z2 =>
                obtain ⟨ds, e2, t2⟩ := z2
                rw [q2] at e
                simp only at e
                cases g2 : getA A o1 e2 with
                | none => rw [g2] at e; cases e
                | some d1 =>
                  rw [g2] at e
                  simp only at e
                  cases g3 : g d1 ds with
                  | none => rw [g3] at e; cases e
                  | some dr =>
                    rw [g3] at e
                    simp only [Option.some.injEq, Prod.mk.injEq] at e
                    obtain ⟨rfl, rfl, rfl⟩ := e
                    refine evN_run (Q := fun us H2 => r v us H2 Q) q2 R' fun us H2 F2 A2 R2 S2 hu => ?_
                    refine hd _ F2 H2 d1 dr ds v us Q R2.same ((hv.mono S2.sF).get R2 g2) hu g3 fun w F3 H3 n hw => ?_
                    obtain ⟨R3, S3⟩ := R2.new n
                    exact k w H3 F3 A2 R3 ((S'.trans S2).trans S3) hw
          · rw [if_neg hk] at e; cases e
    · rw [if_neg so] at e; cases e⟩
end
/-- sep.join(list or tuple of texts) -/
def joinG : D → List D → Option D
  | .str a, [d] => match seqD d with
    | some ds => match strsD ds with
      | some ys => if (ys.map (·.length)).sum + ys.length * a.length ≤ 16777216 then some (.str (Str.join a ys)) else none
      | none => none
    | none => none
  | _, _ => none
theorem md_join {K : PySem.W.Frag} : MtD (fun x xs H Q => ∃ a p, ∃ ys : List Str, x = .str a ∧ xs = [.ref p] ∧ (SqL K H p (ys.map V.str) ∨ SqT K H p (ys.map V.str)) ∧ (ys.map (·.length)).sum + ys.length * a.length ≤ 16777216 ∧ Q (.str (Txt.join a ys)) H) joinG := by
  intro rt F H dx d ds x vs Q s hx ha e k
  cases dx with
  | str a =>
    match ds, e with
    | [d1], e =>
      simp only [joinG] at e
      cases q : seqD d1 with
      | none => rw [q] at e; cases e
      | some xs =>
        rw [q] at e
        simp only at e
        cases q2 : strsD xs with
        | none => rw [q2] at e; cases e
        | some ys =>
          rw [q2] at e
          simp only at e
          split at e
          · rename_i hz
            simp only [Option.some.injEq] at e
            subst e
            obtain ⟨v, rfl, hv⟩ := hbl1 ha
            have es := strsD_inv q2
            subst es
            obtain ⟨p, us, rfl, f, l⟩ := hv.seq (K := K) s (ds := ys.map .str) (by cases d1 <;> simp_all [seqD])
            have eu := holds_strs l
            subst eu
            exact ⟨a, p, ys, hx.str, rfl, f, hz, fin0 s k (by simp only [Holds]; rw [TL.join_eq])⟩
          · cases e
  | _ => cases e
/-- text.find(text) -/
def findG : D → List D → Option D
  | .str a, [.str b] => some (.int (Txt.find a b))
  | _, _ => none
theorem md_find : MtD (fun x xs H Q => ∃ a b, x = .str a ∧ xs = [.str b] ∧ Q (.int (Txt.find a b)) H) findG := by
  intro rt F H dx d ds x vs Q s hx ha e k
  cases dx with
  | str a =>
    match ds, e with
    | [.str b], e =>
      simp only [findG, Option.some.injEq] at e
      subst e
      obtain ⟨v, rfl, hv⟩ := hbl1 ha
      exact ⟨a, b, hx.str, by rw [hv.str], fin0 s k (by simp only [Holds])⟩
  | _ => cases e
/-- xs.index(y), found -/
def idxOfD (y : D) : List D → Option Nat
  | [] => none
  | d :: ds => if eqvD d y then some 0 else (idxOfD y ds).map (· + 1)
def indexG : D → List D → Option D
  | x, [y] => match seqD x with
    | some ds => if okD 30 y && ds.all (okD 30) && decide (ds.length ≤ 1000000) then (idxOfD y ds).map fun j => .int (j : Nat) else none
    | none => none
  | _, _ => none
theorem idxOfD_spec {y : D} : ∀ {ds : List D} {j : Nat}, idxOfD y ds = some j → ∃ z, ds[j]? = some z ∧ eqvD z y = true ∧ ∀ (m : Nat) (w : D), m < j → ds[m]? = some w → eqvD w y = false
  | [], _, h => by cases h
  | d :: ds, j, h => by
    unfold idxOfD at h
    by_cases q : eqvD d y = true
    · rw [if_pos q] at h
      cases h
      exact ⟨d, rfl, q, fun m w hm => by omega⟩
    · rw [if_neg q] at h
      cases q2 : idxOfD y ds with
      | none => rw [q2] at h; cases h
      | some i =>
        rw [q2] at h
        simp only [Option.map_some, Option.some.injEq] at h
        subst h
        obtain ⟨z, h1, h2, h3⟩ := idxOfD_spec q2
        refine ⟨z, by simpa using h1, h2, fun m w hm hw => ?_⟩
        cases m with
        | zero => simp at hw; subst hw; simpa using q
        | succ m => exact h3 m w (by omega) (by simpa using hw)
def rIndexT (K : PySem.W.Frag) : V → List V → Hp → VK → Prop := fun x xs H Q => ∃ (a : Addr) (y : V) (d : PyData) (ds : List PyData) (j : Nat) (z : PyData), x = V.ref a ∧ xs = [y] ∧ Dp K H (V.ref a) (.tuple ds) ∧ Dp K H y d ∧
  PyData.canLayAll0 ds = true ∧ SeqAt.shaped d = true ∧ ds[j]? = some z ∧ PyData.eqv z d = true ∧ (∀ (m : Nat) (z' : PyData), m < j → ds[m]? = some z' → PyData.eqv z' d = false) ∧ Q (.int (j : Nat)) H
theorem mt_indexT {X : Cx} {k : Nat} (hr : Room k X.A) : MtR X "tuple.index" (rIndexT X.K) := by
  intro pins s σ H x xs v us Q I rx rxs h
  obtain ⟨a, y, d, ds, j, z, rfl, rfl, hl, hy, sl, sd, hz, hzj, hno, q⟩ := h
  cases rx
  cases rxs with
  | cons ry rt =>
    rename_i uy ut
    cases rt
    obtain ⟨bs, r1⟩ := Dp.reads I d y uy hy ry
    have hroom : X.A.units + 1 + min (PyData.depthAll ds) d.depth < cLine := room_in hr sd
    cases hl with
    | tup hs ha =>
      obtain ⟨its, rv, ⟨⟨cls, dd, data, sls⟩, ho, hc, n, hdt⟩, hlen⟩ := I.tuple hs
      simp only at hc hdt
      subst hc hdt
      obtain ⟨as, h4⟩ := Dp.readsAll I ds _ its ha rv
      have hn : its.length = ds.length := SeqAt.ReadsAll.length ds its as h4
      have hmap : its.map (SeqAt.readOf s.heap) = ds := SeqAt.readsAll_map ds its as sl h4
      obtain ⟨hjd, _⟩ := List.getElem?_eq_some_iff.mp hz
      have hjl : j < its.length := by omega
      have hj : j < its.toArray.size := by simpa using hjl
      have eqs := SeqAt.items_eqAt (vs := its.toArray) (show ReadsAll s.heap its.toArray.toList ds as from h4) r1 sl (SeqAt.canLay_of_shaped sd) hroom
      have at_ : ∀ (m : Nat) (hm : m < its.toArray.size), ds[m]? = some (SeqAt.readOf s.heap its.toArray[m]) := by
        intro m hm
        have hml : m < its.length := by simpa using hm
        rw [← hmap, List.getElem?_map, List.getElem?_eq_getElem hml]
        simp
      refine call_meets PySem.F.slot_tuple_index ⟨_, ho, rfl⟩ PySem.F.entry_tuple_index (PySem.F.args_tuple_index_2 _ _)
        (PySem.SeqAt.tuple_index2_found a its.toArray n dd sls uy (fun m => match ds[m]? with | some w => PyData.eqv w d | none => false) j hj (Nat.zero_le _) hj ?_ ?_) ⟨ho, fun m hm => ?_, ?_⟩
      · rw [hz]; exact hzj
      · intro m hm _ hmj
        rw [at_ m hm]
        exact hno m _ hmj (at_ m hm)
      · rw [at_ m hm]
        exact eqs _ (Array.getElem_mem hm)
      · exact ⟨.int (j : Nat), H, I.tok _, ⟨_, rfl⟩, q⟩
theorem idx_py {y : D} {ds : List D} {j : Nat} (h : idxOfD y ds = some j) : ∃ z, (toPyL ds)[j]? = some z ∧ PyData.eqv z (toPy y) = true ∧ ∀ (m : Nat) (w : PyData), m < j → (toPyL ds)[m]? = some w → PyData.eqv w (toPy y) = false := by
  obtain ⟨z, h1, h2, h3⟩ := idxOfD_spec h
  refine ⟨toPy z, by rw [toPyL_map, List.getElem?_map, h1]; rfl, by rw [eqvD_py]; exact h2, fun m w hm hw => ?_⟩
  rw [toPyL_map, List.getElem?_map] at hw
  cases q : ds[m]? with
  | none => rw [q] at hw; cases hw
  | some w' =>
    rw [q] at hw
    simp only [Option.map_some, Option.some.injEq] at hw
    subst hw
    rw [eqvD_py]
    exact h3 m w' hm q
theorem md_indexT {K : PySem.W.Frag} : MtD (rIndexT K) (fun x ys => match x with | .tup ds => indexG (.tup ds) ys | _ => none) := by
  intro rt F H dx d ds x vs Q s hx ha e k
  cases dx with
  | tup xs =>
    match ds, e with
    | [y], e =>
      simp only [indexG, seqD] at e
      split at e
      · rename_i hz
        simp only [Bool.and_eq_true, List.all_eq_true] at hz
        cases q : idxOfD y xs with
        | none => rw [q] at e; cases e
        | some j =>
          rw [q] at e
          simp only [Option.map_some, Option.some.injEq] at e
          subst e
          obtain ⟨v, rfl, hv⟩ := hbl1 ha
          obtain ⟨z, h1, h2, h3⟩ := idx_py q
          obtain ⟨a, us, rfl, f, l⟩ := hx.tup
          exact ⟨a, v, toPy y, toPyL xs, j, z, rfl, rfl, .tup (f.mono s).sq (HoldsL.dp hz.1.2 (l.mono s)), (hv.inH s).dp hz.1.1, layAll_of hz.1.2, okD_shaped hz.1.1 (by decide), h1, h2, h3, fin0 s k (by simp only [Holds])⟩
      · cases e
    | [], e => cases e
    | _ :: _ :: _, e => cases e
  | _ => cases e
theorem md_indexL {K : PySem.W.Frag} : MtD (rIndexD K) (fun x ys => match x with | .lst ds => indexG (.lst ds) ys | _ => none) := by
  intro rt F H dx d ds x vs Q s hx ha e k
  cases dx with
  | lst xs =>
    match ds, e with
    | [y], e =>
      simp only [indexG, seqD] at e
      split at e
      · rename_i hz
        simp only [Bool.and_eq_true, List.all_eq_true] at hz
        cases q : idxOfD y xs with
        | none => rw [q] at e; cases e
        | some j =>
          rw [q] at e
          simp only [Option.map_some, Option.some.injEq] at e
          subst e
          obtain ⟨v, rfl, hv⟩ := hbl1 ha
          obtain ⟨z, h1, h2, h3⟩ := idx_py q
          obtain ⟨a, us, rfl, f, l⟩ := hx.lst
          have ok31 : okD 31 (.lst xs) = true := by simp only [okD, List.all_eq_true]; exact hz.1.2
          exact ⟨a, v, toPy y, toPyL xs, j, z, rfl, rfl, .lst (SqL.of f) (HoldsL.dp hz.1.2 (l.mono s)), (hv.inH s).dp hz.1.1, okD_shaped ok31 (by decide), okD_shaped hz.1.1 (by decide), h1, h2, h3, fin0 s k (by simp only [Holds])⟩
      · cases e
    | [], e => cases e
    | _ :: _ :: _, e => cases e
  | _ => cases e

/-! ### isinstance -/
theorem HB.tyx {K : PySem.W.Frag} {rt : V} {F H : Hp} {d : D} {x : V} (s : Same F H) (h : HB rt F H d x) (nt : noTape d = true) : TyX K H x (.type (kindD d)) := by
  cases d with
  | non => rw [h.non]; exact .base .non
  | bl b => rw [h.bl]; exact .base (.bl b)
  | int b => rw [h.int]; exact .base (.int b)
  | str b => rw [h.str]; exact .base (.str b)
  | tup b => obtain ⟨a, vs, rfl, ⟨o, e, _⟩, _⟩ := h.tup; exact .fTuple (s _ _ e)
  | lst b => obtain ⟨a, vs, rfl, e, _⟩ := h.lst; exact .base (.lst e)
  | dic ks b =>
    obtain ⟨a, vs, rfl, l, f⟩ := h
    rcases f with ⟨kk, _, _, f⟩ | ⟨kk, _, _, f⟩
    · exact .base (.dK f)
    · exact .base (.dT f)
  | set b => exact (show False from by simpa only [HB, Holds] using h).elim
  | tape => cases nt
/-- which kinds are of a class (written) -/
def isinstD (T : String) (d : D) : Option Bool := if noTape d then some (kindD d == T || (kindD d == "bool" && T == "int")) else none
def misinst {Z : TSys} (T : String) (a : Arg Z) : M Z := fun e t => match ev1 a e t with
  | some (d, e1, t1) => match isinstD T d with
    | some b => some (.bl b, e1, t1)
    | none => none
  | none => none
theorem ie_isinst {Z : TSys} {X : Cx} {T : String} {x : Str} {e : Expr} {a : Arg Z} {p p2 pos : Pos} (hg : Gl X "isinstance") (hm : X.mg "isinstance" = none) (hg2 : Gl X x) (hm2 : X.mg x = none) (hv2 : bootBuiltins x = some (.type T)) (ha : IsA Z X e a)
    (kit : ∀ n ∈ ["NoneType", "bool", "int", "str", "tuple", "list", "dict"], PySem.W.kitOne X.K (.type n) (.type T) = some (n == T || (n == "bool" && T == "int")))
    (hn2 : x ≠ "__name__" := by decide) (hd2 : (x == ("__debug__" : Str)) = false := by decide)
    (hs : starEach [e, .Name x p2] X.env = (false, eval e X.env) :: starEach [.Name x p2] X.env := by rfl) (hs2 : starEach [.Name x p2] X.env = (false, eval (.Name x p2) X.env) :: starEach [] X.env := by rfl)
    (hpl : (backTo pos (starEach [.Name x p2] X.env)).any (·.1) = false := by rfl) : IsE Z X (.Call (.Name "isinstance" p) [e, .Name x p2] [] pos) (misinst T a) :=
  ⟨PE.imp (pe_callB call_isi hg hm (by decide +kernel) (pa_cons ha.pe (pa_cons (pe_bltn (v := .ty T) hg2 hm2 hv2 rfl hn2 hd2) pa_nil hs2) hs) (by decide) (by decide) hs hpl) fun σ H Q ⟨ad, env, T0, F, A0, d, env', T', R, e, k⟩ => by
    unfold misinst at e
    cases q : ev1 a env T0 with
    | none => rw [q] at e; cases e
    | some z =>
      obtain ⟨d0, e1, t1⟩ := z
      rw [q] at e
      simp only at e
      unfold isinstD at e
      by_cases nt : noTape d0 = true
      · rw [if_pos nt] at e
        simp only [Option.some.injEq, Prod.mk.injEq] at e
        obtain ⟨rfl, rfl, rfl⟩ := e
        refine ev1_run q R fun v H' F' A' R' S' hv => ?_
        refine ⟨v, .ty T, .type (kindD d0), .type T, _, rfl, .ty T, hv.tyx R'.same nt, kit (kindD d0) ?_, k _ H' F' A' R' S' (by simp only [Holds])⟩
        cases d0 <;> first | (simp [kindD]; done) | (exact (show False from by simpa only [HB, Holds] using hv).elim) | (cases nt)
      · rw [if_neg nt] at e; cases e⟩
end DL

/-! The data layer: a, b = x, y with values that are owned. -/
namespace DL
open PySem L2

def OwnZs (rt : V) (F H : Hp) : List (Nat × D) → List V → List Addr → Prop
  | [], vs, B => vs = [] ∧ B = []
  | x :: xs, vs, B => ∃ v r B1 B2, vs = v :: r ∧ B = B1 ++ B2 ∧ Own rt F H x.1 x.2 v B1 ∧ OwnZs rt F H xs r B2
theorem OwnZs.length {rt : V} {F H : Hp} : ∀ {xs : List (Nat × D)} {vs : List V} {B : List Addr}, OwnZs rt F H xs vs B → vs.length = xs.length
  | [], _, _, h => by rw [h.1]; rfl
  | x :: xs, _, _, h => by
    obtain ⟨v, r, B1, B2, e1, e2, h1, h2⟩ := h
    subst e1
    simp only [List.length_cons, h2.length]
def evOs {Z : TSys} : List (Nat × M Z) → List Sl → Z.T → Option (List (Nat × D) × List Sl × Z.T)
  | [], e, t => some ([], e, t)
  | (n, m) :: ms, e, t => match m e t with
    | some (d, e1, t1) => match evOs ms e1 t1 with
      | some (ds, e2, t2) => some ((n, d) :: ds, e2, t2)
      | none => none
    | none => none
theorem evOs_len {Z : TSys} : ∀ {ms : List (Nat × M Z)} {env : List Sl} {T : Z.T} {xs : List (Nat × D)} {e1 : List Sl} {t1 : Z.T}, evOs ms env T = some (xs, e1, t1) → xs.length = ms.length
  | [], env, T, xs, e1, t1, h => by
    simp only [evOs, Option.some.injEq, Prod.mk.injEq] at h
    rw [← h.1]
    rfl
  | (n, m) :: ms, env, T, xs, e1, t1, h => by
    unfold evOs at h
    split at h
    · split at h
      · rename_i q
        simp only [Option.some.injEq, Prod.mk.injEq] at h
        rw [← h.1, List.length_cons, List.length_cons, evOs_len q]
      · cases h
    · cases h
def denOs (Z : TSys) (ms : List (Nat × M Z)) : TA := fun σ H Q => ∃ (ad : Z.Ad) (env : List Sl) (T : Z.T) (F : Hp) (A : List Addr) (ds : List (Nat × D)) (env' : List Sl) (T' : Z.T),
  Rel Z ad env T F σ H A ∧ evOs ms env T = some (ds, env', T') ∧ ∀ vs H' F' A' B, Rel Z ad env' T' F' σ H' A' → Stp Z ad A F H A' F' H' → OwnZs (Z.root ad) F' H' ds vs B → B.Nodup → (∀ a ∈ B, a ∉ A' ∧ H a = none ∧ a ∉ Z.addrs ad) → Q vs H'
structure IsOs (Z : TSys) (X : Cx) (es : List Expr) (ms : List (Nat × M Z)) : Prop where
  pa : PA X es (denOs Z ms)
theorem IsE.o {Z : TSys} {X : Cx} {e : Expr} {m : M Z} (h : IsE Z X e m) : IsO Z 0 X e m := ⟨PE.imp h.pe fun σ H Q ⟨ad, env, T, F, A, r, env', T', R, e, k⟩ =>
  ⟨ad, env, T, F, A, r, env', T', R, e, fun v H' F' A' R' S' hv => k v H' F' A' [] R' S' ⟨rfl, hv⟩ List.nodup_nil fun a ha => by cases ha⟩⟩
/-- what stands outside stays so over a step -/
theorem Own.over {Z : TSys} {ad : Z.Ad} {rt : V} {A A1 B : List Addr} {F H F1 H1 : Hp} {n : Nat} {d : D} {v : V} (S : Stp Z ad A F H A1 F1 H1) (h : Own rt F H n d v B) (hB : ∀ a ∈ B, a ∉ A ∧ a ∉ Z.addrs ad) : Own rt F1 H1 n d v B ∧ ∀ a ∈ B, a ∉ A1 ∧ ∃ o, H a = some o := by
  have key : ∀ a ∈ B, (H1 a = H a ∧ F1 a = none) ∧ a ∉ A1 ∧ ∃ o, H a = some o := fun a ha => by
    obtain ⟨f, o, ho⟩ := h.at a ha
    obtain ⟨nA, nT⟩ := hB a ha
    refine ⟨⟨(S.fr a o ho nA nT).trans ho.symm, ?_⟩, fun z => ?_, o, ho⟩
    · cases q : F1 a with
      | none => rfl
      | some x =>
        rcases S.nF a (by rw [q]; exact fun z => by cases z) with w | w | w
        · exact absurd f w
        · exact absurd w nA
        · rw [ho] at w; cases w
    · rcases S.nA a z with w | w
      · exact nA w
      · rw [ho] at w; cases w
  exact ⟨h.keep S.sF fun a ha => (key a ha).1, fun a ha => (key a ha).2⟩
section
variable {Z : TSys} {X : Cx} {e : Expr} {es : List Expr}
theorem os_nil : IsOs Z X [] [] := ⟨PA.imp pa_nil fun σ H Q ⟨ad, env, T, F, A, ds, env', T', R, e, k⟩ => by
  simp only [evOs, Option.some.injEq, Prod.mk.injEq] at e
  obtain ⟨rfl, rfl, rfl⟩ := e
  exact k [] H F A [] R Stp.refl ⟨rfl, rfl⟩ List.nodup_nil fun a ha => by cases ha⟩
theorem os_cons {n : Nat} {m : M Z} {ms : List (Nat × M Z)} (ha : IsO Z n X e m) (hl : IsOs Z X es ms) (hs : starEach (e :: es) X.env = (false, eval e X.env) :: starEach es X.env := by rfl) : IsOs Z X (e :: es) ((n, m) :: ms) := ⟨PA.imp (pa_cons ha.pe hl.pa hs) fun σ H Q ⟨ad, env, T, F, A, ds, env', T', R, e, k⟩ => by
  unfold evOs at e
  cases q : m env T with
  | none => rw [q] at e; cases e
  | some z =>
    obtain ⟨d, e1, t1⟩ := z
    rw [q] at e
    simp only at e
    cases q2 : evOs ms e1 t1 with
    | none => rw [q2] at e; cases e
    | some z =>
      obtain ⟨ds', e2, t2⟩ := z
      rw [q2] at e
      simp only [Option.some.injEq, Prod.mk.injEq] at e
      obtain ⟨rfl, rfl, rfl⟩ := e
      refine ⟨ad, env, T, F, A, d, e1, t1, R, q, fun v H1 F1 A1 B1 R1 S1 o1 n1 d1 => ?_⟩
      refine ⟨ad, e1, t1, F1, A1, ds', e2, t2, R1, q2, fun vs H2 F2 A2 B2 R2 S2 o2 n2 d2 => ?_⟩
      obtain ⟨o1', k1⟩ := o1.over S2 fun a ha => ⟨(d1 a ha).1, (d1 a ha).2.2⟩
      refine k (v :: vs) H2 F2 A2 (B1 ++ B2) R2 (S1.trans S2) ⟨v, vs, B1, B2, rfl, rfl, o1', o2⟩ ?_ fun a ha => ?_
      · refine List.nodup_append.mpr ⟨n1, n2, fun a ha b hb => ?_⟩
        rintro rfl
        obtain ⟨_, o, ho⟩ := k1 a ha
        rw [(d2 a hb).2.1] at ho; cases ho
      · rcases List.mem_append.mp ha with z | z
        · exact ⟨(k1 a z).1, (d1 a z).2.1, (d1 a z).2.2⟩
        · exact ⟨(d2 a z).1, S1.none (d2 a z).2.1, (d2 a z).2.2⟩⟩
end
def slOf : Nat → D → Sl
  | 0, d => .sh d
  | n + 1, d => .ow (n + 1) d
def setSls : List Nat → List (Nat × D) → List Sl → List Sl
  | i :: is, x :: xs, e => setSls is xs (e.set i (slOf x.1 x.2))
  | _, _, e => e
def setVs : List Nat → List V → L2.St → L2.St
  | i :: is, v :: vs, σ => setVs is vs (σ.set i (some v))
  | _, _, σ => σ
section
variable {Z : TSys} {ad : Z.Ad} {T : Z.T} {F H : Hp}
theorem Rel.setSls : ∀ {is : List Nat} {xs : List (Nat × D)} {vs : List V} {B A : List Addr} {env : List Sl} {σ : L2.St}, Rel Z ad env T F σ H A → OwnZs (Z.root ad) F H xs vs B → B.Nodup → (∀ a ∈ B, a ∉ A ∧ a ∉ Z.addrs ad) →
    ∃ A', Rel Z ad (DL.setSls is xs env) T F (setVs is vs σ) H A' ∧ ∀ a ∈ A', a ∈ A ∨ a ∈ B
  | [], xs, vs, B, A, env, σ, R, _, _, _ => by
    unfold DL.setSls setVs
    exact ⟨A, R, fun a h => .inl h⟩
  | i :: is, [], vs, B, A, env, σ, R, h, _, _ => by
    rw [h.1]
    exact ⟨A, R, fun a h => .inl h⟩
  | i :: is, (n, d) :: xs, vs, B, A, env, σ, R, h, nB, hB => by
    obtain ⟨v, r, B1, B2, rfl, rfl, h1, h2⟩ := h
    obtain ⟨n1, n2, n12⟩ := List.nodup_append.mp nB
    have step : ∃ A', Rel Z ad (env.set i (slOf n d)) T F (σ.set i (some v)) H A' ∧ ∀ a ∈ A', a ∈ A ∨ a ∈ B1 := by
      cases n with
      | zero =>
        obtain ⟨A', R', S'⟩ := R.setSh i h1.2
        refine ⟨A', R', fun a ha => ?_⟩
        rcases S'.nA a ha with z | z
        · exact .inl z
        · obtain ⟨_, o, e⟩ := R'.at a ha
          rw [e] at z; cases z
      | succ n =>
        obtain ⟨A', R', _, q⟩ := R.setOw i h1 n1 fun a ha => hB a (List.mem_append_left _ ha)
        exact ⟨A', R', q⟩
    obtain ⟨A1, R1, q1⟩ := step
    obtain ⟨A2, R2, q2⟩ := Rel.setSls (is := is) R1 h2 n2 fun a ha => ⟨fun z => by
      rcases q1 a z with w | w
      · exact (hB a (List.mem_append_right _ ha)).1 w
      · exact n12 a w a ha rfl, (hB a (List.mem_append_right _ ha)).2⟩
    refine ⟨A2, R2, fun a ha => ?_⟩
    rcases q2 a ha with z | z
    · rcases q1 a z with w | w
      · exact .inl w
      · exact .inr (List.mem_append_left _ w)
    · exact .inr (List.mem_append_right _ z)
end
def spar {Z : TSys} (is : List Nat) (ms : List (Nat × M Z)) : SM Z := fun e t => match evOs ms e t with
  | some (xs, e1, t1) => some (.nx, setSls is xs e1, t1)
  | none => none
section
variable {Z : TSys} {X : Cx}
theorem par_core {is : List Nat} {ms : List (Nat × M Z)} {D : Ends} {σ : L2.St} {H : Hp} (h : denS Z (spar is ms) D σ H) : denOs Z ms σ H fun vs H1 => vs.length = ms.length ∧ D.nx (setVs is vs σ) H1 := by
  obtain ⟨ad, env, T, F, A, fl, env', T', R, e, k⟩ := h
  unfold spar at e
  cases q : evOs ms env T with
  | none => rw [q] at e; cases e
  | some z =>
    obtain ⟨xs, e1, t1⟩ := z
    rw [q] at e
    simp only [Option.some.injEq, Prod.mk.injEq] at e
    obtain ⟨rfl, rfl, rfl⟩ := e
    refine ⟨ad, env, T, F, A, xs, e1, t1, R, q, fun vs H' F' A' B R' S' ho nB hB => ⟨?_, ?_⟩⟩
    · rw [ho.length]
      exact evOs_len q
    · obtain ⟨A2, R2, q2⟩ := R'.setSls (is := is) ho nB fun a ha => ⟨(hB a ha).1, (hB a ha).2.2⟩
      refine k _ H' F' A2 R2 ⟨S'.sF, fun a ha => S'.nF a ha, fun a ha => ?_, S'.fr, S'.ex⟩
      rcases q2 a ha with z | z
      · exact S'.nA a z
      · exact .inr (hB a z).2.1
theorem is_par2 {i j : Nat} {x y : Str} {a b : Expr} {ma mb : Nat × M Z} {px py pt pos : Pos} {kt k2 pt2} (hc : X.calm = true) (hN : X.N.Nodup) (hi : X.N[i]? = some x) (hj : X.N[j]? = some y) (hij : i ≠ j)
    (hx : X.env.scope.names.lookup x = some .local) (hy : X.env.scope.names.lookup y = some .local) (ha : IsOs Z X [a, b] [ma, mb])
    (hw : swappedStores [.Tuple [.Name x px, .Name y py] kt pt] (.Tuple [a, b] k2 pt2) X.env = pure (some [x, y]))
    (hs : swapsWithSole [.Tuple [.Name x px, .Name y py] kt pt] (.Tuple [a, b] k2 pt2) pos.line X.env = pure false := by rfl) :
    IsS Z X (.Assign [.Tuple [.Name x px, .Name y py] kt pt] (.Tuple [a, b] k2 pt2) pos) (spar [i, j] [ma, mb]) := ⟨PS.imp (ps_par hc hN hi hj hij hx hy ha.pa hw hs) fun D σ H h => by
  obtain ⟨ad, env, T, F, A, xs, env', T', R, e, k⟩ := par_core h
  refine ⟨ad, env, T, F, A, xs, env', T', R, e, fun vs H' F' A' B R' S' ho nB hB => ?_⟩
  obtain ⟨hl, q⟩ := k vs H' F' A' B R' S' ho nB hB
  match vs, hl with
  | [v, w], _ => exact ⟨v, w, rfl, q⟩⟩
theorem is_par3 {i j l : Nat} {x y z : Str} {a b c : Expr} {ma mb mc : Nat × M Z} {px py pz pt pos : Pos} {kt k2 pt2} (hc : X.calm = true) (hN : X.N.Nodup) (hi : X.N[i]? = some x) (hj : X.N[j]? = some y) (hl : X.N[l]? = some z) (hij : i ≠ j) (hil : i ≠ l) (hjl : j ≠ l)
    (hx : X.env.scope.names.lookup x = some .local) (hy : X.env.scope.names.lookup y = some .local) (hz : X.env.scope.names.lookup z = some .local) (ha : IsOs Z X [a, b, c] [ma, mb, mc])
    (hw : swappedStores [.Tuple [.Name x px, .Name y py, .Name z pz] kt pt] (.Tuple [a, b, c] k2 pt2) X.env = pure (some [x, y, z]))
    (hs : swapsWithSole [.Tuple [.Name x px, .Name y py, .Name z pz] kt pt] (.Tuple [a, b, c] k2 pt2) pos.line X.env = pure false := by rfl) :
    IsS Z X (.Assign [.Tuple [.Name x px, .Name y py, .Name z pz] kt pt] (.Tuple [a, b, c] k2 pt2) pos) (spar [i, j, l] [ma, mb, mc]) := ⟨PS.imp (ps_par3 hc hN hi hj hl hij hil hjl hx hy hz ha.pa hw hs) fun D σ H h => by
  obtain ⟨ad, env, T, F, A, xs, env', T', R, e, k⟩ := par_core h
  refine ⟨ad, env, T, F, A, xs, env', T', R, e, fun vs H' F' A' B R' S' ho nB hB => ?_⟩
  obtain ⟨hl, q⟩ := k vs H' F' A' B R' S' ho nB hB
  match vs, hl with
  | [v, w, u], _ => exact ⟨v, w, u, rfl, q⟩⟩
/-- names, some of them cells: the tuple is laid and unpacked -/
def gNames : List Nat → TGs
  | [] => gNil
  | i :: is => gCons (gName i) (gNames is)
theorem gNames_run : ∀ {is : List Nat} {vs : List V} {σ : L2.St} {H : Hp} {Q : L2.St → Hp → Prop}, vs.length = is.length → Q (setVs is vs σ) H → gNames is vs σ H Q
  | [], [], _, _, _, _, h => ⟨rfl, h⟩
  | i :: is, v :: vs, σ, H, Q, e, h => ⟨v, vs, rfl, gNames_run (is := is) (by simpa using e) h⟩
theorem is_parT {es ts : List Expr} {is : List Nat} {ms : List (Nat × M Z)} {pt pos : Pos} {kt k2 pt2} (hc : X.calm = true) (ha : IsOs Z X es ms) (hg : PGs X ts (gNames is)) (hk : is.length = ms.length) (hk2 : (decide (ms.length ≤ 1000)) = true)
    (hn : (assignEach ts X.env).length = ms.length := by rfl) (hst : (assignEach ts X.env).findIdx? (·.1) = none := by rfl)
    (hs : swapsWithSole [.Tuple ts kt pt] (.Tuple es k2 pt2) pos.line X.env = pure false := by rfl) (hw : swappedStores [.Tuple ts kt pt] (.Tuple es k2 pt2) X.env = pure none := by rfl)
    (h1 : (assignEach [.Tuple ts kt pt] X.env).map (·.2) = [assign (.Tuple ts kt pt) X.env] := by rfl) :
    IsS Z X (.Assign [.Tuple ts kt pt] (.Tuple es k2 pt2) pos) (spar is ms) := ⟨PS.imp (ps_asg (pe_tup ha.pa) (pg_tup (n := ms.length) hc hg hn hst) hs hw h1) fun D σ H ⟨ad, env, T, F, A, fl, env', T', R, e, k⟩ => by
  unfold spar at e
  cases q : evOs ms env T with
  | none => rw [q] at e; cases e
  | some z =>
    obtain ⟨xs, e1, t1⟩ := z
    rw [q] at e
    simp only [Option.some.injEq, Prod.mk.injEq] at e
    obtain ⟨rfl, rfl, rfl⟩ := e
    refine ⟨ad, env, T, F, A, xs, e1, t1, R, q, fun vs H' F' A' B R' S' ho nB hB => ?_⟩
    have hlen : vs.length = ms.length := by
      rw [ho.length]
      exact evOs_len q
    refine ⟨by rw [hlen]; exact sz1000 (by simpa using hk2), fun p hp => ?_⟩
    have pB : ∀ a ∈ B, a ≠ p := fun a ha z => by
      subst z
      have : ∀ {xs : List (Nat × DL.D)} {vs : List V} {B : List Addr}, OwnZs (Z.root ad) F' H' xs vs B → ∀ a ∈ B, ∃ o, H' a = some o := by
        intro xs
        induction xs with
        | nil => intro vs B h a ha; rw [h.2] at ha; cases ha
        | cons x xs ih =>
          intro vs B h a ha
          obtain ⟨v, r, B1, B2, _, e2, h1, h2⟩ := h
          subst e2
          rcases List.mem_append.mp ha with w | w
          · exact (h1.at a w).2
          · exact ih h2 a w
      obtain ⟨o, e⟩ := this ho a ha
      rw [hp] at e; cases e
    obtain ⟨R2, S2⟩ := R'.own hp (.tup vs)
    have hsq : SqT X.K (L2.upd H' p (.tup vs)) p vs := .inl (.inl upd_same)
    refine ⟨p, vs, rfl, hsq, hlen, gNames_run (by rw [hlen, hk]) ?_⟩
    have ho2 : OwnZs (Z.root ad) F' (L2.upd H' p (.tup vs)) xs vs B := by
      have : ∀ {xs : List (Nat × DL.D)} {us : List V} {C : List Addr}, (∀ a ∈ C, a ∈ B) → OwnZs (Z.root ad) F' H' xs us C → OwnZs (Z.root ad) F' (L2.upd H' p (.tup vs)) xs us C := by
        intro xs
        induction xs with
        | nil => intro us C _ h; exact h
        | cons x xs ih =>
          intro us C hC h
          obtain ⟨v, r, B1, B2, e1, e2, h1, h2⟩ := h
          subst e2
          refine ⟨v, r, B1, B2, e1, rfl, h1.keep (Same.refl _) fun a ha => ⟨upd_ne (pB a (hC a (List.mem_append_left _ ha))), (h1.at a ha).1⟩, ih (fun a ha => hC a (List.mem_append_right _ ha)) h2⟩
      exact this (fun a h => h) ho
    obtain ⟨A2, R3, q2⟩ := R2.setSls (is := is) ho2 nB fun a ha => ⟨(hB a ha).1, (hB a ha).2.2⟩
    have S3 := S'.trans S2
    refine k _ _ F' A2 R3 ⟨S3.sF, fun a ha => S3.nF a ha, fun a ha => ?_, S3.fr, S3.ex⟩
    rcases q2 a ha with z | z
    · exact S3.nA a z
    · exact .inr (hB a z).2.1⟩
end
end DL

/-! The data layer: chains of comparisons, str, sorted, len(set(..)). -/
namespace DL
open PySem L2

section
variable {Z : TSys} {X : Cx} {a b c : Expr} {A B C : Arg Z} {pos : Pos} {r r' : R2} {g g' : D → D → Option D}
theorem ie_chain {op op' : CmpOp} (ho : OpR X (compareOp op) r) (hd : OpD r g) (ho' : OpR X (compareOp op') r') (hd' : OpD r' g') (ha : IsA Z X a A) (hb : IsA Z X b B) (hc : IsA Z X c C)
    (hm : lastMarks [op, op'] [b, c] = false := by with_unfolding_all rfl) : IsE Z X (.Compare a [op, op'] [b, c] pos) (mchain g g' A B C) :=
  ⟨PE.imp (pe_chain ho ho' ha.pe hb.pe hc.pe hm) fun _ _ _ h => chain_core hd hd' h⟩
theorem it_chain {op op' : CmpOp} (ho : OpR X (compareOp op) r) (hd : OpD r g) (ho' : OpR X (compareOp op') r') (hd' : OpD r' g') (ha : IsA Z X a A) (hb : IsA Z X b B) (hc : IsA Z X c C)
    (hm : lastMarks [op, op'] [b, c] = false := by with_unfolding_all rfl) : IsT Z X (.Compare a [op, op'] [b, c] pos) (asB (mchain g g' A B C)) :=
  ⟨PT.imp (pt_chain ho ho' ha.pe hb.pe hc.pe hm) fun _ _ _ h => asB_core (t := tChain r r' (denA Z A) (denA Z B) (denA Z C)) (m := mchain g g' A B C) (fun _ _ _ h' => chain_core hd hd' h') h⟩
end

/-! ### is, is not of bools -/
def isBD (x y : D) : Option D := match x, y with
  | .bl a, .bl b => some (.bl (decide (a = b)))
  | _, _ => none
def isntBD (x y : D) : Option D := match x, y with
  | .bl a, .bl b => some (.bl (!decide (a = b)))
  | _, _ => none
theorem od_isB : OpD rIsB isBD := by
  intro rt F H dx dy d x y Q s hx hy e k
  cases dx with
  | bl a =>
    cases dy with
    | bl b =>
      simp only [isBD, Option.some.injEq] at e
      subst e
      exact ⟨a, b, hx.bl, hy.bl, fin0 s k (by simp only [Holds])⟩
    | _ => cases e
  | _ => cases e
theorem od_isntB : OpD rNotB isntBD := by
  intro rt F H dx dy d x y Q s hx hy e k
  cases dx with
  | bl a =>
    cases dy with
    | bl b =>
      simp only [isntBD, Option.some.injEq] at e
      subst e
      exact ⟨a, b, hx.bl, hy.bl, fin0 s k (by simp only [Holds])⟩
    | _ => cases e
  | _ => cases e

/-! ### str(i) -/
def str1 : List D → Option D
  | [.int i] => if i.natAbs.log2 < 1920 then some (.str (toString i)) else none
  | _ => none
theorem cd_str : CallD (fun xs H Q => ∃ i, xs = [V.int i] ∧ i.natAbs.log2 < 1920 ∧ Q (V.str (toString i)) H) str1 := by
  intro rt F H ds d vs Q s h e k
  match ds, e with
  | [.int i], e =>
    simp only [str1] at e
    split at e
    · rename_i hz
      simp only [Option.some.injEq] at e
      subst e
      obtain ⟨v, rfl, hv⟩ := hbl1 h
      rw [hv.int]
      exact ⟨i, rfl, hz, fin0 s k (by simp only [Holds])⟩
    · cases e

/-! ### sorted(ints) -/
def sortI (ns : List Int) : List Int := ns.mergeSort (fun a b => decide (a ≤ b))
theorem sortI_perm (ns : List Int) : (sortI ns).Perm ns := List.mergeSort_perm ..
theorem sortI_pair (ns : List Int) : (sortI ns).Pairwise (· ≤ ·) := by
  have h := List.pairwise_mergeSort (le := fun a b : Int => decide (a ≤ b)) (fun a b c h1 h2 => by simp at *; omega) (fun a b => by simp; omega) ns
  exact h.imp fun h => by simpa using h
theorem pair_perm_eq : ∀ {xs ys : List Int}, xs.Perm ys → xs.Pairwise (· ≤ ·) → ys.Pairwise (· ≤ ·) → xs = ys
  | [], ys, p, _, _ => by rw [List.nil_perm.mp p]
  | x :: xs, ys, p, h1, h2 => by
    match ys, p, h2 with
    | [], p, _ => exact absurd p.length_eq (by simp)
    | y :: ys, p, h2 => 
      rw [List.pairwise_cons] at h1 h2
      have e : x = y := by
        have a1 : x ∈ y :: ys := p.mem_iff.mp List.mem_cons_self
        have a2 : y ∈ x :: xs := p.mem_iff.mpr List.mem_cons_self
        have b1 : y ≤ x := by
          rcases List.mem_cons.mp a1 with z | z
          · omega
          · exact h2.1 x z
        have b2 : x ≤ y := by
          rcases List.mem_cons.mp a2 with z | z
          · omega
          · exact h1.1 y z
        omega
      subst e
      rw [pair_perm_eq (p.cons_inv) h1.2 h2.2]
def sortedI1 : List D → Option (List D)
  | [.lst ds] => match intsD ds with
    | some ns => some ((sortI ns).map .int)
    | none => none
  | _ => none
theorem holds_mapInt {rt : V} {F : Hp} : ∀ (ns : List Int), HoldsL rt F (ns.map D.int) (ns.map V.int)
  | [] => .nil
  | n :: ns => .cons (by simp only [Holds]) (holds_mapInt ns)
theorem cn_sortedI {K : PySem.W.Frag} : CallN (rSortedI K) sortedI1 := by
  intro rt F H ds d vs Q s h e k
  match ds, e with
  | [.lst xs], e =>
    simp only [sortedI1] at e
    cases q : intsD xs with
    | none => rw [q] at e; cases e
    | some ns =>
      rw [q] at e
      simp only [Option.some.injEq] at e
      subst e
      have ex := intsD_inv q
      subst ex
      obtain ⟨v, rfl, hv⟩ := hbl1 h
      obtain ⟨a, us, rfl, f, l⟩ := hv.lst
      have eu := holds_ints l
      subst eu
      refine ⟨a, ns, rfl, SqL.of f, fun ns' p hp hs hn => ?_⟩
      have : ns' = sortI ns := pair_perm_eq (hp.trans (sortI_perm ns).symm) hs (sortI_pair ns)
      subst this
      exact k p _ hn (holds_mapInt _)

/-! ### len(set(ints)) -/
def distN (ns : List Int) : Nat := (ns.foldl PyProof.Rows.step_dedup []).length
theorem map_getD : ∀ (ns : List Int), (List.range ns.length).map (fun i => ns.getD i 0) = ns := fun ns => by
  apply List.ext_getElem
  · simp
  · intro i h1 h2
    simp [h2]
theorem firstMet_dist (ns : List Int) : (PyProof.Rows.firstMet (fun i => ns.getD i 0) ns.length).length = distN ns := by
  unfold PyProof.Rows.firstMet distN
  rw [map_getD]
theorem distN_le (ns : List Int) : distN ns ≤ ns.length := by
  have : ∀ (xs acc : List Int), (xs.foldl PyProof.Rows.step_dedup acc).length ≤ acc.length + xs.length := by
    intro xs
    induction xs with
    | nil => intro acc; simp
    | cons x xs ih =>
      intro acc
      rw [List.foldl_cons]
      refine Nat.le_trans (ih _) ?_
      unfold PyProof.Rows.step_dedup
      split
      · simp only [List.length_cons]; omega
      · simp only [List.length_append, List.length_cons, List.length_nil]; omega
  simpa [distN] using this ns []
def tLenSet (K : PySem.W.Frag) (ta : TE) : TE := fun σ H Q => ta σ H fun x H1 => ∃ (l : Addr) (ns : List Int), x = V.ref l ∧ SqL K H1 l (ns.map V.int) ∧ ns.length ≤ 4000 ∧ Q (.int (distN ns : Nat)) H1
theorem pe_lenSet {X : Cx} {a : Expr} {ta : TE} {p p2 q pos : Pos} (hg : Gl X "len") (hm : X.mg "len" = none) (hg2 : Gl X "set") (hm2 : X.mg "set" = none) (ha : PE X a ta) (hc : X.calm = true)
    (na : starEach [a] X.env = (false, eval a X.env) :: starEach [] X.env := by rfl) : PE X (.Call (.Name "len" p) [.Call (.Name "set" p2) [a] [] q] [] pos) (tLenSet X.K ta) := by
  refine ⟨fun pins s σ H Q I h => ?_⟩
  refine PyProof.Rows.Call_ (ld_blt I hg hm PySem.boot_len (PyProof.Rows.callWith_builtin1 (PyProof.Rows.args_cons ?_ rfl) rfl rfl))
  refine PyProof.Rows.Call_ (ld_blt I hg2 hm2 PyProof.Rows.boot_set (PyProof.Rows.callWith_type1 (PyProof.Rows.args_cons (thn (ha.run pins s σ H _ I h) fun v s1 ⟨x, H1, I1, r1, q1⟩ => PyProof.Rows.args_nil ?_) na) na rfl))
  obtain ⟨l, ns, rfl, hq, hl, q1⟩ := q1
  cases r1
  obtain ⟨its, r, pl, hz⟩ := I1.list hq
  have hlen : its.toArray.size = ns.length := by rw [List.size_toArray, ← r.length, List.length_map]
  refine PySem.call_set_list (I1.ok.hd hc) pl.isList (ns := ns) (by simpa using r.ints) (by rw [hlen]; unfold scanBound; omega) fun h' tk hS hk => PyProof.Rows.args_nil ?_
  rw [hlen, firstMet_dist] at hS
  obtain ⟨o, es, ep, t, ho, hex, hd, _, _, _, hf, hn⟩ := hS
  have I2 : Inv X pins σ H1 { s1 with heap := h', toks := tk } := I1.kept fun b o e => hk b o (Heap.lt_size e) e
  have hle := distN_le ns
  exact call_len_set ho hex hd hf (by rw [hn] <;> omega) ⟨.int (distN ns : Nat), H1, I2.tok _, ⟨_, by rw [hn]⟩, q1⟩
def mlenset {Z : TSys} (m : M Z) : M Z := fun e t => match m e t with
  | some (.lst ds, e1, t1) => match intsD ds with
    | some ns => if ns.length ≤ 4000 then some (.int (distN ns : Nat), e1, t1) else none
    | none => none
  | _ => none
def mlensetA {Z : TSys} (a : Arg Z) : M Z := fun e t => match ev1 a e t with
  | some (.lst ds, e1, t1) => match intsD ds with
    | some ns => if ns.length ≤ 4000 then some (.int (distN ns : Nat), e1, t1) else none
    | none => none
  | _ => none
theorem ie_lenset {Z : TSys} {X : Cx} {a : Expr} {A : Arg Z} {p p2 q pos : Pos} (hg : Gl X "len") (hm : X.mg "len" = none) (hg2 : Gl X "set") (hm2 : X.mg "set" = none) (ha : IsA Z X a A) (hc : X.calm = true)
    (na : starEach [a] X.env = (false, eval a X.env) :: starEach [] X.env := by rfl) : IsE Z X (.Call (.Name "len" p) [.Call (.Name "set" p2) [a] [] q] [] pos) (mlensetA A) :=
  ⟨PE.imp (pe_lenSet hg hm hg2 hm2 ha.pe hc na) fun σ H Q ⟨ad, env, T, F, A0, d, env', T', R, e, k⟩ => by
  unfold mlensetA at e
  cases q : ev1 A env T with
  | none => rw [q] at e; cases e
  | some z =>
    obtain ⟨d0, e1, t1⟩ := z
    rw [q] at e
    cases d0 with
    | lst ds =>
      simp only at e
      cases q2 : intsD ds with
      | none => rw [q2] at e; cases e
      | some ns =>
        rw [q2] at e
        simp only at e
        split at e
        · rename_i hz
          simp only [Option.some.injEq, Prod.mk.injEq] at e
          obtain ⟨rfl, rfl, rfl⟩ := e
          refine ev1_run q R fun v H' F' A' R' S' hv => ?_
          have ex := intsD_inv q2
          subst ex
          obtain ⟨a, us, rfl, f, l⟩ := hv.lst
          have eu := holds_ints l
          subst eu
          exact ⟨a, ns, rfl, SqL.of f, hz, k _ H' F' A' R' S' (by simp only [Holds])⟩
        · cases e
    | _ => cases e⟩
end DL

/-! The data layer: lists of lists that a slot owns. -/
namespace DL
open PySem L2

section
variable {rt : V} {F H : Hp}
theorem OwnL.length {P : D → V → List Addr → Prop} : ∀ {ds : List D} {vs : List V} {A : List Addr}, OwnL P ds vs A → vs.length = ds.length
  | [], _, _, h => by rw [h.1]; rfl
  | d :: ds, _, _, h => by
    obtain ⟨v, r, A1, A2, e1, e2, h1, h2⟩ := h
    subst e1
    simp only [List.length_cons, h2.length]
theorem OwnL.split {P : D → V → List Addr → Prop} : ∀ {ds : List D} {vs : List V} {B : List Addr} {j : Nat} {d : D}, OwnL P ds vs B → ds[j]? = some d →
    ∃ v B0 B1 B2, vs[j]? = some v ∧ B = B0 ++ B1 ++ B2 ∧ P d v B1 ∧ ∀ {P' : D → V → List Addr → Prop} {d' : D} {v' : V} {C : List Addr}, (∀ d v C, (∀ a ∈ C, a ∈ B0 ++ B2) → P d v C → P' d v C) → P' d' v' C → OwnL P' (ds.set j d') (vs.set j v') (B0 ++ C ++ B2)
  | [], _, _, _, _, _, e => by simp at e
  | x :: ds, _, _, 0, d, h, e => by
    obtain ⟨v, r, A1, A2, e1, e2, h1, h2⟩ := h
    subst e1 e2
    simp at e; subst e
    refine ⟨v, [], A1, A2, rfl, rfl, h1, fun {P' d' v' C} k hc => ⟨v', r, C, A2, rfl, rfl, hc, h2.imp fun d v C hC => k d v C (by simpa using hC)⟩⟩
  | x :: ds, _, _, j + 1, d, h, e => by
    obtain ⟨v, r, A1, A2, e1, e2, h1, h2⟩ := h
    subst e1 e2
    obtain ⟨w, B0, B1, B2, q1, q2, q3, q4⟩ := h2.split (j := j) (by simpa using e)
    subst q2
    refine ⟨w, A1 ++ B0, B1, B2, by simpa using q1, by simp [List.append_assoc], q3, fun {P' d' v' C} k hc => ?_⟩
    refine ⟨v, r.set j v', A1, B0 ++ C ++ B2, rfl, by simp [List.append_assoc], k x v A1 (fun a ha => by simp [ha]) h1, q4 (fun d v C hC => k d v C fun a ha => ?_) hc⟩
    rcases List.mem_append.mp (hC a ha) with z | z
    · simp [z]
    · simp [z]
end
section
variable {Z : TSys} {ad : Z.Ad} {env : List Sl} {T : Z.T} {F H : Hp} {σ : L2.St} {A : List Addr}
/-- a list of lists, one of them changed -/
theorem Rel.nest (R : Rel Z ad env T F σ H A) {i : Nat} {ds : List D} (hi : env[i]? = some (.ow 2 (.lst ds))) :
    ∃ q vs, σ[i]? = some (some (.ref q)) ∧ H q = some (.lst vs) ∧ q ∈ A ∧ vs.length = ds.length ∧
      ∀ j es, ds[j]? = some (.lst es) → ∃ p us, vs[j]? = some (.ref p) ∧ H p = some (.lst us) ∧ p ∈ A ∧ p ≠ q ∧ HoldsL (Z.root ad) F es us ∧
        ∀ es' us', HoldsL (Z.root ad) F es' us' → Rel Z ad (env.set i (.ow 2 (.lst (ds.set j (.lst es'))))) T F σ (L2.upd H p (.lst us')) A ∧ Stp Z ad A F H A F (L2.upd H p (.lst us')) := by
  obtain ⟨o, A0, A1, A2, e1, eA, ⟨v, eo, hv⟩, re⟩ := R.env.split hi
  subst eA eo
  obtain ⟨q, B, e, f, eA, vs, hq, hl⟩ := hv
  subst e eA
  have qin : q ∈ A0 ++ (q :: B) ++ A2 := by simp
  refine ⟨q, vs, e1, hq, qin, hl.length, fun j es hj => ?_⟩
  obtain ⟨v, B0, B1, B2, w1, w2, w3, w4⟩ := hl.split hj
  obtain ⟨p, C, e, fp, eB1, us, hp, hu⟩ := w3
  obtain ⟨hu', eC⟩ := OwnL.zero hu
  subst e eC eB1 w2
  have nd := R.nd
  have pin : p ∈ A0 ++ (q :: (B0 ++ [p] ++ B2)) ++ A2 := by simp
  have npq : p ≠ q := by
    rintro rfl
    rw [List.nodup_append, List.nodup_append] at nd
    have := nd.1.2.1
    simp at this
  refine ⟨p, us, w1, hp, pin, npq, hu', fun es' us' h' => ?_⟩
  have off : ∀ a ∈ A0 ++ A2, a ≠ p := fun a ha z => by
    subst z
    rw [List.nodup_append, List.nodup_append] at nd
    rcases List.mem_append.mp ha with z | z
    · exact nd.1.2.2 a z a (by simp) rfl
    · exact nd.2.2 a (by simp) a z rfl
  have off2 : ∀ a ∈ B0 ++ B2, a ≠ p := fun a ha z => by
    subst z
    rw [List.nodup_append, List.nodup_append] at nd
    have n1 := nd.1.2.1
    rw [List.nodup_cons, List.nodup_append, List.nodup_append] at n1
    rcases List.mem_append.mp ha with z | z
    · exact n1.2.1.2.2 a z a (by simp) rfl
    · exact n1.2.2.2 a (by simp) a z rfl
  have fin : ∀ a ∈ A0 ++ (q :: (B0 ++ [p] ++ B2)) ++ A2, F a = none := fun a ha => (R.at a ha).1
  have own2 : OwnL (Own (Z.root ad) F (L2.upd H p (.lst us')) 1) (ds.set j (.lst es')) (vs.set j (.ref p)) (B0 ++ [p] ++ B2) :=
    w4 (P' := Own (Z.root ad) F (L2.upd H p (.lst us')) 1) (d' := .lst es') (v' := .ref p) (C := [p]) (fun d v C hC hP => hP.keep (Same.refl _) fun a ha => ⟨L2.upd_ne (off2 a (hC a ha)), (hP.at a ha).1⟩) ⟨p, [], rfl, fp, rfl, us', L2.upd_same, OwnL.ofHolds h'⟩
  rw [set_self w1] at own2
  have e2 := re (F' := F) (H' := L2.upd H p (.lst us')) (y := .ow 2 (.lst (ds.set j (.lst es')))) (o' := some (.ref q)) (B := q :: (B0 ++ [p] ++ B2)) (Same.refl _) (fun a ha => ⟨L2.upd_ne (off a ha), fin a (by
    rcases List.mem_append.mp ha with z | z
    · simp [z]
    · simp [z])⟩)
    ⟨.ref q, rfl, q, _, rfl, f, rfl, vs, (L2.upd_ne (Ne.symm npq)).trans hq, own2⟩
  rw [set_self e1] at e2
  refine ⟨⟨fun a o z => ?_, e2, R.nd, Z.loc R.tp fun b hb => L2.upd_ne fun z => (R.tf b hb).2 (z ▸ pin), R.tf⟩, Same.refl _, fun a h => .inl h, fun a h => .inl h, fun a o z hA _ => ?_, fun a o z => ?_⟩
  · rw [L2.upd_ne fun w => by rw [w, fp] at z; cases z]
    exact R.same _ _ z
  · rw [L2.upd_ne fun (w : a = p) => hA (by rw [w]; exact pin)]; exact z
  · by_cases w : a = p
    · subst w; exact ⟨_, L2.upd_same⟩
    · rw [L2.upd_ne w]; exact ⟨o, z⟩
/-- .. one of them exchanged for a new one -/
theorem Rel.nestSet (R : Rel Z ad env T F σ H A) {i j : Nat} {ds : List D} {d d' : D} {v : V} {C : List Addr} (hi : env[i]? = some (.ow 2 (.lst ds))) (hj : ds[j]? = some d) (hv : Own (Z.root ad) F H 1 d' v C) (nC : C.Nodup) (dC : ∀ a ∈ C, a ∉ A ∧ a ∉ Z.addrs ad) :
    ∃ q vs A', σ[i]? = some (some (.ref q)) ∧ H q = some (.lst vs) ∧ vs.length = ds.length ∧ Rel Z ad (env.set i (.ow 2 (.lst (ds.set j d')))) T F σ (L2.upd H q (.lst (vs.set j v))) A' ∧ (∀ a ∈ A', a ∈ A ∨ a ∈ C) ∧ q ∈ A := by
  obtain ⟨o, A0, A1, A2, e1, eA, ⟨v0, eo, hv0⟩, re⟩ := R.env.split hi
  subst eA eo
  obtain ⟨q, B, e, f, eA, vs, hq, hl⟩ := hv0
  subst e eA
  have qin : q ∈ A0 ++ (q :: B) ++ A2 := by simp
  obtain ⟨u, B0, B1, B2, w1, w2, w3, w4⟩ := hl.split hj
  subst w2
  have nd := R.nd
  have fin : ∀ a ∈ A0 ++ (q :: (B0 ++ B1 ++ B2)) ++ A2, F a = none := fun a ha => (R.at a ha).1
  have qC : q ∉ C := fun z => (dC q z).1 qin
  have off : ∀ a ∈ A0 ++ A2, a ≠ q := fun a ha z => by
    subst z
    rw [List.nodup_append, List.nodup_append] at nd
    rcases List.mem_append.mp ha with z | z
    · exact nd.1.2.2 a z a (by simp) rfl
    · exact nd.2.2 a (by simp) a z rfl
  have off2 : ∀ a ∈ B0 ++ B2, a ≠ q := fun a ha z => by
    subst z
    rw [List.nodup_append, List.nodup_append] at nd
    have n1 := nd.1.2.1
    rw [List.nodup_cons] at n1
    rcases List.mem_append.mp ha with z | z
    · exact n1.1 (by simp [z])
    · exact n1.1 (by simp [z])
  have own2 : OwnL (Own (Z.root ad) F (L2.upd H q (.lst (vs.set j v))) 1) (ds.set j d') (vs.set j v) (B0 ++ C ++ B2) :=
    w4 (P' := Own (Z.root ad) F (L2.upd H q (.lst (vs.set j v))) 1) (d' := d') (v' := v) (C := C) (fun d v C hC hP => hP.keep (Same.refl _) fun a ha => ⟨L2.upd_ne (off2 a (hC a ha)), (hP.at a ha).1⟩) (hv.keep (Same.refl _) fun a ha => ⟨L2.upd_ne fun z => qC (z ▸ ha), (hv.at a ha).1⟩)
  have e2 := re (F' := F) (H' := L2.upd H q (.lst (vs.set j v))) (y := .ow 2 (.lst (ds.set j d'))) (o' := some (.ref q)) (B := q :: (B0 ++ C ++ B2)) (Same.refl _) (fun a ha => ⟨L2.upd_ne (off a ha), fin a (by
    rcases List.mem_append.mp ha with z | z
    · simp [z]
    · simp [z])⟩)
    ⟨.ref q, rfl, q, _, rfl, f, rfl, _, L2.upd_same, own2⟩
  rw [set_self e1] at e2
  have sub : ∀ a ∈ A0 ++ (q :: (B0 ++ C ++ B2)) ++ A2, a ∈ A0 ++ (q :: (B0 ++ B1 ++ B2)) ++ A2 ∨ a ∈ C := fun a ha => by
    simp only [List.mem_append, List.mem_cons] at ha ⊢
    rcases ha with (z | z | (z | z) | z) | z
    · simp [z]
    · simp [z]
    · simp [z]
    · simp [z]
    · simp [z]
    · simp [z]
  refine ⟨q, vs, A0 ++ (q :: (B0 ++ C ++ B2)) ++ A2, e1, hq, hl.length, ⟨fun a o z => ?_, e2, ?_, Z.loc R.tp fun b hb => L2.upd_ne fun z => (R.tf b hb).2 (z ▸ qin), fun a ha => ⟨(R.tf a ha).1, fun z => ?_⟩⟩, sub, qin⟩
  · rw [L2.upd_ne fun w => by rw [w, f] at z; cases z]
    exact R.same _ _ z
  · have d1 : ∀ a ∈ C, a ∉ A0 ++ (q :: (B0 ++ B1 ++ B2)) ++ A2 := fun a ha => (dC a ha).1
    simp only [List.nodup_append, List.nodup_cons, List.mem_append, List.mem_cons] at nd d1 ⊢
    grind
  · rcases sub a z with w | w
    · exact (R.tf a ha).2 w
    · exact (dC a w).2 ha
end

/-! ### quiet expressions: what the slots own stays as it is -/
abbrev MQ (Z : TSys) := List Sl → Z.T → Option (D × Z.T)
abbrev MQL (Z : TSys) := List Sl → Z.T → Option (List D × Z.T)
def denQ (Z : TSys) (m : MQ Z) : TE := fun σ H Q => ∃ (ad : Z.Ad) (env : List Sl) (T : Z.T) (F : Hp) (A : List Addr) (r : D) (T' : Z.T),
  Rel Z ad env T F σ H A ∧ m env T = some (r, T') ∧ ∀ v H' F', Rel Z ad env T' F' σ H' A → Stp Z ad A F H A F' H' → (∀ a ∈ A, H' a = H a) → Holds (Z.root ad) F' r v → Q v H'
def denQL (Z : TSys) (m : MQL Z) : TA := fun σ H Q => ∃ (ad : Z.Ad) (env : List Sl) (T : Z.T) (F : Hp) (A : List Addr) (r : List D) (T' : Z.T),
  Rel Z ad env T F σ H A ∧ m env T = some (r, T') ∧ ∀ v H' F', Rel Z ad env T' F' σ H' A → Stp Z ad A F H A F' H' → (∀ a ∈ A, H' a = H a) → HoldsL (Z.root ad) F' r v → Q v H'
structure IsQ (Z : TSys) (X : Cx) (e : Expr) (m : MQ Z) : Prop where
  pe : PE X e (denQ Z m)
structure IsQL (Z : TSys) (X : Cx) (es : List Expr) (m : MQL Z) : Prop where
  pa : PA X es (denQL Z m)
def qcst {Z : TSys} (d : D) : MQ Z := fun e t => some (d, t)
def qvar {Z : TSys} (i : Nat) : MQ Z := fun e t => match e[i]? with
  | some (.sh d) => some (d, t)
  | _ => none
def qnil {Z : TSys} : MQL Z := fun e t => some ([], t)
def qcons {Z : TSys} (m : MQ Z) (l : MQL Z) : MQL Z := fun e t => match m e t with
  | some (d, t1) => match l e t1 with
    | some (ds, t2) => some (d :: ds, t2)
    | none => none
  | none => none
def mq {Z : TSys} (m : MQ Z) : M Z := fun e t => match m e t with
  | some (d, t1) => some (d, e, t1)
  | none => none
def qcall {Z : TSys} (n : Nat) (f : FnM Z) (l : MQL Z) : MQ Z := fun e t => match l e t with
  | some (ds, t1) => if ds.length = n then f ds t1 else none
  | none => none
/-- the item that x[k] names -/
def nestAt (env : List Sl) (i : Nat) (k : D) : Option (List D × Nat × List D) := match env[i]?, k with
  | some (.ow 2 (.lst ds)), .int k => match ixN ds.length k with
    | some j => match ds[j]? with
      | some (.lst es) => some (ds, j, es)
      | _ => none
    | none => none
  | _, _ => none
theorem nestAt_inv {env : List Sl} {i : Nat} {k : D} {ds : List D} {j : Nat} {es : List D} (h : nestAt env i k = some (ds, j, es)) : ∃ kk, k = .int kk ∧ env[i]? = some (.ow 2 (.lst ds)) ∧ ixN ds.length kk = some j ∧ ds[j]? = some (.lst es) := by
  unfold nestAt at h
  split at h
  · rename_i ds' kk q
    split at h
    · rename_i j' q2
      split at h
      · rename_i es' q3
        simp only [Option.some.injEq, Prod.mk.injEq] at h
        obtain ⟨rfl, rfl, rfl⟩ := h
        exact ⟨kk, rfl, q, q2, q3⟩
      · cases h
    · cases h
  · cases h
/-- len(x[k]) -/
def qlenx {Z : TSys} (i : Nat) (mk : MQ Z) : MQ Z := fun e t => match mk e t with
  | some (k, t1) => match nestAt e i k with
    | some (_, _, es) => some (.int es.length, t1)
    | none => none
  | none => none
section
variable {Z : TSys} {X : Cx} {e k : Expr} {es : List Expr} {x : Str} {pos xpos spos : Pos} {i : Nat}
theorem IsQ.toE {m : MQ Z} (h : IsQ Z X e m) : IsE Z X e (mq m) := ⟨PE.imp h.pe fun σ H Q ⟨ad, env, T, F, A, r, env', T', R, e, k⟩ => by
  unfold mq at e
  cases q : m env T with
  | none => rw [q] at e; cases e
  | some z =>
    obtain ⟨d, t1⟩ := z
    rw [q] at e
    simp only [Option.some.injEq, Prod.mk.injEq] at e
    obtain ⟨rfl, rfl, rfl⟩ := e
    exact ⟨ad, env, T, F, A, d, t1, R, q, fun v H' F' R' S' _ hv => k v H' F' A R' S' hv⟩⟩
theorem iq_int {n j} : IsQ Z X (.Constant (.int n) j pos) (qcst (.int n)) := ⟨PE.imp pe_int fun σ H Q ⟨ad, env, T, F, A, r, T', R, e, k⟩ => by
  simp only [qcst, Option.some.injEq, Prod.mk.injEq] at e
  obtain ⟨rfl, rfl⟩ := e
  exact k _ H F R Stp.refl (fun _ _ => rfl) (by simp only [Holds])⟩
theorem iq_var (h : PE X (.Name x pos) (tVar i)) : IsQ Z X (.Name x pos) (qvar i) := ⟨PE.imp h fun σ H Q ⟨ad, env, T, F, A, r, T', R, e, k⟩ => by
  unfold qvar at e
  cases q : env[i]? with
  | none => rw [q] at e; cases e
  | some s =>
    rw [q] at e
    cases s with
    | sh d =>
      simp only [Option.some.injEq, Prod.mk.injEq] at e
      obtain ⟨rfl, rfl⟩ := e
      obtain ⟨o, A0, A1, A2, e1, _, ⟨_, v, e2, hv⟩, _⟩ := R.env.split q
      exact ⟨v, by rw [e1, e2], k v H F R Stp.refl (fun _ _ => rfl) hv⟩
    | _ => cases e⟩
theorem iql_nil : IsQL Z X [] qnil := ⟨PA.imp pa_nil fun σ H Q ⟨ad, env, T, F, A, r, T', R, e, k⟩ => by
  simp only [qnil, Option.some.injEq, Prod.mk.injEq] at e
  obtain ⟨rfl, rfl⟩ := e
  exact k _ H F R Stp.refl (fun _ _ => rfl) .nil⟩
theorem iql_cons {m : MQ Z} {l : MQL Z} (ha : IsQ Z X e m) (hl : IsQL Z X es l) (hs : starEach (e :: es) X.env = (false, eval e X.env) :: starEach es X.env := by rfl) : IsQL Z X (e :: es) (qcons m l) := ⟨PA.imp (pa_cons ha.pe hl.pa hs) fun σ H Q ⟨ad, env, T, F, A, r, T', R, e, k⟩ => by
  unfold qcons at e
  cases q : m env T with
  | none => rw [q] at e; cases e
  | some z =>
    obtain ⟨d, t1⟩ := z
    rw [q] at e
    simp only at e
    cases q2 : l env t1 with
    | none => rw [q2] at e; cases e
    | some z =>
      obtain ⟨ds, t2⟩ := z
      rw [q2] at e
      simp only [Option.some.injEq, Prod.mk.injEq] at e
      obtain ⟨rfl, rfl⟩ := e
      exact ⟨ad, env, T, F, A, d, t1, R, q, fun v H1 F1 R1 S1 a1 hv => ⟨ad, env, t1, F1, A, ds, t2, R1, q2, fun vs H2 F2 R2 S2 a2 hvs => k (v :: vs) H2 F2 R2 (S1.trans S2) (fun a ha => (a2 a ha).trans (a1 a ha)) (.cons (hv.mono S2.sF) hvs)⟩⟩⟩
theorem iq_call {n : Nat} {f : FnM Z} {l : MQL Z} {p : Pos} (hf : Fn Z X.prog X.w X.K X.mg X.base X.A x n f) (hg : Gl X x) (ha : IsQL Z X (e :: es) l) (hdb : (x == ("__debug__" : Str)) = false := by decide)
    (he : starEach (e :: es) X.env = (false, eval e X.env) :: starEach es X.env := by rfl) (hpl : (backTo pos (starEach es X.env)).any (·.1) = false := by rfl) : IsQ Z X (.Call (.Name x p) (e :: es) [] pos) (qcall n f l) := by
  obtain ⟨k, fa, fd, ps, hn, F, hr, hm, hk, hb⟩ := hf.ex
  refine ⟨PE.imp (pe_call F hr hg hm hk hb .nil pass0 ha.pa hdb he hpl) fun σ H Q ⟨ad, env, T, F0, A, r, T', R, e, kk⟩ => ?_⟩
  unfold qcall at e
  cases q : l env T with
  | none => rw [q] at e; cases e
  | some z =>
    obtain ⟨ds, t1⟩ := z
    rw [q] at e
    simp only at e
    by_cases hl : ds.length = n
    · rw [if_pos hl] at e
      refine ⟨ad, env, T, F0, A, ds, t1, R, q, fun vs H' F' R' S' a' hv => ?_⟩
      show spD Z n f (vs ++ []) H' Q E0
      rw [List.append_nil]
      refine ⟨by rw [hv.length, hl], ad, ds, t1, F', r, T', hv, R'.bare, e, fun v H2 F2 R2 S2 hw => ?_⟩
      obtain ⟨R3, S3⟩ := R'.back R2 S2
      refine kk v H2 F2 R3 (S'.trans S3) (fun a ha => ?_) hw
      obtain ⟨_, o, ho⟩ := R'.at a ha
      rw [← a' a ha, ho]
      exact S2.fr a o ho (by simp) fun z => (R'.tf a z).2 ha
    · rw [if_neg hl] at e; cases e
/-- x[k], as the address of the item -/
theorem item_run {mk : MQ Z} {ad : Z.Ad} {env : List Sl} {T : Z.T} {F H : Hp} {σ : L2.St} {A : List Addr} (R : Rel Z ad env T F σ H A) {kd : D} {t1 : Z.T} (hk : mk env T = some (kd, t1)) {ds es : List D} {j : Nat} (hn : nestAt env i kd = some (ds, j, es)) {K : PySem.W.Frag} {Q : VK}
    (go : ∀ q vs p us H' F', Rel Z ad env t1 F' σ H' A → Stp Z ad A F H A F' H' → (∀ a ∈ A, H' a = H a) → σ[i]? = some (some (.ref q)) → H' q = some (.lst vs) → q ∈ A → vs.length = ds.length → vs[j]? = some (.ref p) → H' p = some (.lst us) → p ∈ A → Q (.ref p) H') :
    tOp (rIx K) (tVar i) (denQ Z mk) σ H Q := by
  obtain ⟨kk, rfl, h1, h2, h3⟩ := nestAt_inv hn
  obtain ⟨q, vs, e1, hq, qin, hlen, itm⟩ := R.nest h1
  refine ⟨.ref q, e1, ad, env, T, F, A, .int kk, t1, R, hk, fun v H' F' R' S' a' hv => ?_⟩
  simp only [Holds] at hv
  subst hv
  obtain ⟨p, us, w1, w2, w3, _, _, _⟩ := itm j es h3
  have hq' : H' q = some (.lst vs) := (a' q qin).trans hq
  refine .inl ⟨q, vs, kk, .ref p, rfl, rfl, SqL.of hq', ?_, go q vs p us H' F' R' S' a' e1 hq' qin hlen w1 ((a' p w3).trans w2) w3⟩
  unfold L2.atI
  rw [hlen, h2]
  exact w1
theorem iq_lenx {mk : MQ Z} {p : Pos} (hg : Gl X "len") (hm : X.mg "len" = none) (ho : PE X (.Name x xpos) (tVar i)) (hk : IsQ Z X k mk) (hs : PlainIx k := by exact fun _ _ => rfl)
    (hst : starEach [Expr.Subscript (.Name x xpos) k spos] X.env = (false, eval (Expr.Subscript (.Name x xpos) k spos) X.env) :: starEach [] X.env := by rfl) :
    IsQ Z X (.Call (.Name "len" p) [.Subscript (.Name x xpos) k spos] [] pos) (qlenx i mk) :=
  ⟨PE.imp (pe_callB call_len hg hm PySem.boot_len (pa_cons (pe_ix ix_seq ho hk.pe hs) pa_nil hst) (by decide) (by decide) hst rfl) fun σ H Q ⟨ad, env, T, F, A, r, T', R, e, kk⟩ => by
  unfold qlenx at e
  cases q : mk env T with
  | none => rw [q] at e; cases e
  | some z =>
    obtain ⟨kd, t1⟩ := z
    rw [q] at e
    simp only at e
    cases q2 : nestAt env i kd with
    | none => rw [q2] at e; cases e
    | some z =>
      obtain ⟨ds, j, es⟩ := z
      rw [q2] at e
      simp only [Option.some.injEq, Prod.mk.injEq] at e
      obtain ⟨rfl, rfl⟩ := e
      refine item_run (Q := _) R q q2 fun q vs p us H' F' R' S' a' e1 hq qin hlen w1 w2 w3 => ?_
      obtain ⟨kk2, _, h1, h2, h3⟩ := nestAt_inv q2
      obtain ⟨q', vs', e1', hq', _, _, itm⟩ := R'.nest h1
      rw [e1] at e1'; cases e1'
      rw [hq] at hq'; cases hq'
      obtain ⟨p', us', w1', w2', _, _, hu, _⟩ := itm j es h3
      rw [w1] at w1'; cases w1'
      refine ⟨.ref p, us'.length, rfl, .inl ⟨us', SqL.of w2', rfl⟩, kk _ H' F' R' S' a' ?_⟩
      simp only [Holds]
      rw [hu.length]⟩
end
/-! ### x[k].m(..), x[a] + [x[b].pop(c)], x[k] = a new list -/
def mmut2 {Z : TSys} (i : Nat) (u : List D → List D → Option (D × List D)) (mk : MQ Z) (as : MQL Z) : M Z := fun e t => match mk e t with
  | some (k, t1) => match nestAt e i k with
    | some (ds, j, es) => match as e t1 with
      | some (xs, t2) => match u xs es with
        | some (d, es') => some (d, e.set i (.ow 2 (.lst (ds.set j (.lst es')))), t2)
        | none => none
      | none => none
    | none => none
  | none => none
def mcatpop {Z : TSys} (i : Nat) (ma mb mc : MQ Z) : M Z := fun e t => match ma e t with
  | some (ka, t1) => match nestAt e i ka with
    | some (_, ja, _) => match mmut2 i uPopAt mb (qcons mc qnil) e t1 with
      | some (d, e2, t2) => match e2[i]? with
        | some (.ow 2 (.lst ds')) => match ds'[ja]? with
          | some (.lst es) => if es.length + 1 ≤ sizeLine then some (.lst (es ++ [d]), e2, t2) else none
          | _ => none
        | _ => none
      | none => none
    | none => none
  | none => none
section
variable {Z : TSys} {X : Cx} {e k : Expr} {es : List Expr} {x name : Str} {pos xpos spos apos cpos : Pos} {i : Nat} {id : String} {r : V → List V → Hp → VK → Prop} {u : List D → List D → Option (D × List D)}
theorem mut2_core (hd : MutD r u) {mk : MQ Z} {as : MQL Z} {K : PySem.W.Frag} {ad : Z.Ad} {env : List Sl} {T : Z.T} {F H : Hp} {σ : L2.St} {A : List Addr} (R : Rel Z ad env T F σ H A) {d : D} {env' : List Sl} {T' : Z.T} (e : mmut2 i u mk as env T = some (d, env', T')) {Q : VK}
    (go : ∀ v H' F', Rel Z ad env' T' F' σ H' A → Stp Z ad A F H A F' H' → (∀ q vs, σ[i]? = some (some (.ref q)) → H q = some (.lst vs) → H' q = some (.lst vs)) → Holds (Z.root ad) F' d v → Q v H') :
    tBM K "list" r (tOp (rIx K) (tVar i) (denQ Z mk)) (denQL Z as) σ H Q := by
  unfold mmut2 at e
  cases q : mk env T with
  | none => rw [q] at e; cases e
  | some z =>
    obtain ⟨kd, t1⟩ := z
    rw [q] at e
    simp only at e
    cases q2 : nestAt env i kd with
    | none => rw [q2] at e; cases e
    | some z =>
      obtain ⟨ds, j, es⟩ := z
      rw [q2] at e
      simp only at e
      cases q3 : as env t1 with
      | none => rw [q3] at e; cases e
      | some z =>
        obtain ⟨xs, t2⟩ := z
        rw [q3] at e
        simp only at e
        cases q4 : u xs es with
        | none => rw [q4] at e; cases e
        | some z =>
          obtain ⟨d', es'⟩ := z
          rw [q4] at e
          simp only [Option.some.injEq, Prod.mk.injEq] at e
          obtain ⟨rfl, rfl, rfl⟩ := e
          refine item_run R q q2 fun q vs p us H1 F1 R1 S1 a1 e1 hq qin hlen w1 w2 w3 => ⟨.inl ⟨rfl, us, SqL.of w2⟩, ?_⟩
          refine ⟨ad, env, t1, F1, A, xs, t2, R1, q3, fun vxs H2 F2 R2 S2 a2 hx => ?_⟩
          obtain ⟨kk2, _, h1, h2, h3⟩ := nestAt_inv q2
          obtain ⟨q', vs', e1', hq', _, _, itm⟩ := R2.nest h1
          rw [e1] at e1'; cases e1'
          rw [a2 q qin, hq] at hq'; cases hq'
          obtain ⟨p', us', w1', w2', _, npq, hu, chg⟩ := itm j es h3
          rw [w1] at w1'; cases w1'
          refine hd _ F2 H2 p us' es xs vxs d' es' Q R2.same w2' hu hx q4 fun v vs2 hv hl2 => ?_
          obtain ⟨R3, S3⟩ := chg es' vs2 hl2
          refine go v _ F2 R3 ((S1.trans S2).trans S3) (fun q3 vs3 g1 g2 => ?_) hv
          rw [e1] at g1; cases g1
          rw [L2.upd_ne (Ne.symm npq), a2 q qin, a1 q qin]
          exact g2
theorem ie_mut2 {mk : MQ Z} {as : MQL Z} (slot : Slot "list" name id) (hty : typeOf (.builtin id) = pure (.type "method_descriptor")) (hm : MtR X id r) (hd : MutD r u) (ho : PE X (.Name x xpos) (tVar i)) (hk : IsQ Z X k mk) (ha : IsQL Z X (e :: es) as) (hp : PlainIx k := by exact fun _ _ => rfl)
    (hbase : attributeBase (.Subscript (.Name x xpos) k spos) name X.env (eval (.Subscript (.Name x xpos) k spos) X.env) = eval (.Subscript (.Name x xpos) k spos) X.env := by rfl)
    (hfew : ((backTo cpos (starEach (e :: es) X.env)).all (fun x => !x.1) && (backToKw cpos (keywordEach [] X.env)).all (fun x => x.1.isSome)
      && decide ((e :: es).length + ([] : List Keyword).length + (if ([] : List Keyword).isEmpty then 0 else 1) < 30)) = true := by rfl)
    (hline : (apos.endLine == cpos.line) = true := by rfl) (hs : starEach (e :: es) X.env = (false, eval e X.env) :: starEach es X.env := by rfl) (hplain : (backTo cpos (starEach es X.env)).any (·.1) = false := by rfl) :
    IsE Z X (.Call (.Attribute (.Subscript (.Name x xpos) k spos) name apos) (e :: es) [] cpos) (mmut2 i u mk as) :=
  ⟨PE.imp (pe_bm PySem.F.plainAttrs_list slot hty hm (pe_ix ix_seq ho hk.pe hp) ha.pa hbase hfew hline hs hplain) fun σ H Q ⟨ad, env, T, F, A, d, env', T', R, e, kk⟩ =>
    mut2_core hd R e fun v H' F' R' S' _ hv => kk v H' F' A R' S' hv⟩
theorem io_catpop {a b c : Expr} {ma mb mc : MQ Z} {x2pos s2pos lpos : Pos} (ho : PE X (.Name x xpos) (tVar i)) (ho2 : PE X (.Name x x2pos) (tVar i)) (ha : IsQ Z X a ma) (hb : IsQ Z X b mb) (hc : IsQ Z X c mc) (hpa : PlainIx a := by exact fun _ _ => rfl) (hpb : PlainIx b := by exact fun _ _ => rfl)
    (hbase : attributeBase (.Subscript (.Name x x2pos) b s2pos) ("pop" : Str) X.env (eval (.Subscript (.Name x x2pos) b s2pos) X.env) = eval (.Subscript (.Name x x2pos) b s2pos) X.env := by rfl)
    (hfew : ((backTo cpos (starEach [c] X.env)).all (fun x => !x.1) && (backToKw cpos (keywordEach [] X.env)).all (fun x => x.1.isSome)
      && decide (([c] : List Expr).length + ([] : List Keyword).length + (if ([] : List Keyword).isEmpty then 0 else 1) < 30)) = true := by rfl)
    (hline : (apos.endLine == cpos.line) = true := by rfl) (hs : starEach [c] X.env = (false, eval c X.env) :: starEach [] X.env := by rfl)
    (hs2 : starEach [.Call (.Attribute (.Subscript (.Name x x2pos) b s2pos) ("pop" : Str) apos) [c] [] cpos] X.env = (false, eval (.Call (.Attribute (.Subscript (.Name x x2pos) b s2pos) ("pop" : Str) apos) [c] [] cpos) X.env) :: starEach [] X.env := by rfl) :
    IsO Z 1 X (.BinOp (.Subscript (.Name x xpos) a spos) .Add (.List [.Call (.Attribute (.Subscript (.Name x x2pos) b s2pos) ("pop" : Str) apos) [c] [] cpos] lpos) pos) (mcatpop i ma mb mc) :=
  ⟨PE.imp (pe_op op_cat (pe_ix ix_seq ho ha.pe hpa) (pe_lst (pa_cons (pe_bm PySem.F.plainAttrs_list PySem.F.slot_list_pop PySem.F.type_list_pop mt_popAt (pe_ix ix_seq ho2 hb.pe hpb) (iql_cons hc iql_nil hs).pa hbase hfew hline hs rfl) pa_nil hs2))) fun σ H Q ⟨ad, env, T, F, A, d, env', T', R, e, kk⟩ => by
    unfold mcatpop at e
    cases q : ma env T with
    | none => rw [q] at e; cases e
    | some z =>
      obtain ⟨ka, t1⟩ := z
      rw [q] at e
      simp only at e
      cases q2 : nestAt env i ka with
      | none => rw [q2] at e; cases e
      | some z =>
        obtain ⟨ds, ja, es0⟩ := z
        rw [q2] at e
        simp only at e
        cases q3 : mmut2 i uPopAt mb (qcons mc qnil) env t1 with
        | none => rw [q3] at e; cases e
        | some z =>
          obtain ⟨d1, e2, t2⟩ := z
          rw [q3] at e
          simp only at e
          cases q4 : e2[i]? with
          | none => rw [q4] at e; cases e
          | some sl =>
            rw [q4] at e
            match sl, q4, e with
            | .ow 2 (.lst ds'), q4, e =>
              simp only at e
              cases q5 : ds'[ja]? with
              | none => rw [q5] at e; cases e
              | some it =>
                rw [q5] at e
                match it, q5, e with
                | .lst es, q5, e =>
                  simp only at e
                  by_cases hz : es.length + 1 ≤ sizeLine
                  · rw [if_pos hz] at e
                    simp only [Option.some.injEq, Prod.mk.injEq] at e
                    obtain ⟨rfl, rfl, rfl⟩ := e
                    show tOp (rIx X.K) (tVar i) (denQ Z ma) σ H _
                    refine item_run R q q2 fun qa vs p us H1 F1 R1 S1 a1 e1 hq qin hlen w1 w2 w3 => ?_
                    refine mut2_core (K := X.K) ud_popAt R1 q3 fun v H2 F2 R2 S2 keep hv => ?_
                    have hq2 : H2 qa = some (.lst vs) := keep qa vs e1 hq
                    obtain ⟨q', vs', e1', hq', _, _, itm⟩ := R2.nest q4
                    rw [e1] at e1'; cases e1'
                    rw [hq2] at hq'; cases hq'
                    obtain ⟨p', us', w1', w2', w3', npq, hu, _⟩ := itm ja es q5
                    rw [w1] at w1'; cases w1'
                    refine ⟨sz1000 (by simp), fun pp hpp => ?_⟩
                    have np : p ≠ pp := fun z => by rw [z, hpp] at w2'; cases w2'
                    refine ⟨p, pp, us', [v], rfl, rfl, (L2.upd_ne np).trans w2', L2.upd_same, by simpa [hu.length] using hz, fun r hr => ?_⟩
                    obtain ⟨R3, S3⟩ := R2.own hpp (.lst [v])
                    obtain ⟨R4, S4⟩ := R3.own hr (.lst (us' ++ [v]))
                    have hr2 : H2 r = none := by
                      by_cases z : r = pp
                      · subst z; rw [L2.upd_same] at hr; cases hr
                      · rw [L2.upd_ne z] at hr; exact hr
                    have S0 := S1.trans S2
                    have fr : F2 r = none := R2.same.free hr2
                    obtain ⟨nA, nT⟩ := R2.notin hr2
                    exact kk (.ref r) _ F2 A [r] R4 ((S0.trans S3).trans S4) ⟨r, [], rfl, fr, rfl, us' ++ [v], L2.upd_same, OwnL.ofHolds (hu.app (.one hv))⟩ (by simp) fun a ha => by
                      have : a = r := by simpa using ha
                      subst this
                      exact ⟨nA, S0.none hr2, nT⟩
                  · rw [if_neg hz] at e; cases e⟩
end
end DL

/-! The data layer: comprehensions whose elements are owned. -/
namespace DL
open PySem L2

theorem OwnL.over {Z : TSys} {ad : Z.Ad} {rt : V} {A A1 : List Addr} {F H F1 H1 : Hp} {n : Nat} (S : Stp Z ad A F H A1 F1 H1) : ∀ {ds : List D} {vs : List V} {B : List Addr}, OwnL (Own rt F H n) ds vs B → (∀ a ∈ B, a ∉ A ∧ a ∉ Z.addrs ad) → OwnL (Own rt F1 H1 n) ds vs B ∧ ∀ a ∈ B, a ∉ A1 ∧ ∃ o, H a = some o
  | [], _, _, h, _ => ⟨h, fun a ha => by rw [h.2] at ha; cases ha⟩
  | d :: ds, _, _, h, hB => by
    obtain ⟨v, r, B1, B2, e1, e2, h1, h2⟩ := h
    subst e1 e2
    obtain ⟨k1, k2⟩ := h1.over S fun a ha => hB a (List.mem_append_left _ ha)
    obtain ⟨k3, k4⟩ := h2.over S fun a ha => hB a (List.mem_append_right _ ha)
    refine ⟨⟨v, r, B1, B2, rfl, rfl, k1, k3⟩, fun a ha => ?_⟩
    rcases List.mem_append.mp ha with z | z
    · exact k2 a z
    · exact k4 a z
theorem OwnL.app {P : D → V → List Addr → Prop} : ∀ {ds es : List D} {vs us : List V} {A B : List Addr}, OwnL P ds vs A → OwnL P es us B → OwnL P (ds ++ es) (vs ++ us) (A ++ B)
  | [], _, _, _, _, _, h, k => by obtain ⟨e1, e2⟩ := h; subst e1 e2; exact k
  | d :: ds, _, _, _, _, _, h, k => by
    obtain ⟨v, r, A1, A2, e1, e2, h1, h2⟩ := h
    subst e1 e2
    exact ⟨v, _, A1, _, rfl, by simp [List.append_assoc], h1, h2.app k⟩
theorem OwnL.keep {rt : V} {F F' H H' : Hp} {n : Nat} (s : Same F F') {ds : List D} {vs : List V} {B : List Addr} (h : OwnL (Own rt F H n) ds vs B) (k : ∀ a ∈ B, H' a = H a ∧ F' a = none) : OwnL (Own rt F' H' n) ds vs B :=
  h.imp fun d v C hC hP => hP.keep s fun a ha => k a (hC a ha)
theorem OwnL.at {rt : V} {F H : Hp} {n : Nat} : ∀ {ds : List D} {vs : List V} {B : List Addr}, OwnL (Own rt F H n) ds vs B → ∀ a ∈ B, F a = none ∧ ∃ o, H a = some o
  | [], _, _, h, a, ha => by rw [h.2] at ha; cases ha
  | d :: ds, _, _, h, a, ha => by
    obtain ⟨v, r, B1, B2, e1, e2, h1, h2⟩ := h
    subst e2
    rcases List.mem_append.mp ha with z | z
    · exact h1.at a z
    · exact h2.at a z
section
variable {Z : TSys}
theorem lc_loopO {n : Nat} {own is : List Nat} {g : G} {tt : MB Z} {el : M Z} (sub : ∀ j ∈ is, j ∈ own) {ad : Z.Ad} {ds : List D} {J : It} {σ : L2.St} {L : Addr} {e1 : List Sl} {t1 : Z.T} {F1 H1 : Hp} {A1 : List Addr} {acc : List D} {e2 : List Sl} {t2 : Z.T} {K : Hp → Prop}
    (R1 : Rel Z ad e1 t1 F1 (L2.wipe σ own) H1 A1) (o1 : Out Z ad L A1 F1) (h1 : H1 L = some (.lst [])) (wk : Walks (Z.root ad) F1 ds J) (hz : acc.length ≤ sizeLine)
    (q : lcL own g tt el ds [] e1 t1 = some (acc, e2, t2))
    (hK : ∀ H' F' A' us B, Rel Z ad e2 t2 F' (L2.wipe σ own) H' A' → (∀ a o, H1 a = some o → a ∉ A1 → a ∉ Z.addrs ad → a ≠ L → H' a = some o) → Same F1 F' → (∀ a, F' a ≠ none → F1 a ≠ none ∨ a ∈ A1 ∨ H1 a = none) → (∀ a ∈ A', a ∈ A1 ∨ H1 a = none) → (∀ a o, H1 a = some o → ∃ o', H' a = some o') → Out Z ad L A' F' → H' L = some (.lst us) →
      OwnL (Own (Z.root ad) F' H' n) acc us B → B.Nodup → (∀ a ∈ B, a ∉ A' ∧ a ∉ Z.addrs ad ∧ a ≠ L ∧ H1 a = none) → K H') :
    ∃ W : Nat → Nat → Hp → Prop, (∃ m, W 0 m H1) ∧ ∀ i m H, W i m H → (J.stop i H ∧ K H) ∨ (J.go i H ∧ ∃ Nx : Hp → Prop, (∀ H', Nx H' → ∃ m', m' < m ∧ W (i + 1) m' H') ∧ ∀ x H', J.yld i H x H' → denG Z is g x (L2.wipe σ own) H' fun σ2 H2 => L2.wipe σ2 own = L2.wipe σ own ∧ denB Z tt σ2 H2 fun b H3 =>
      if b = true then denO Z n el σ2 H3 fun y H4 => ∃ acc, H4 L = some (.lst acc) ∧ acc.length < sizeLine ∧ Nx (upd H4 L (.lst (acc ++ [y]))) else Nx H3) := by
  let W : Nat → Nat → Hp → Prop := fun i m H' => m = ds.length - i ∧ ∃ (en : List Sl) (T2 : Z.T) (F2 : Hp) (A2 : List Addr) (ac : List D) (us : List V) (B : List Addr),
    Rel Z ad en T2 F2 (L2.wipe σ own) H' A2 ∧ ((∀ a o, H1 a = some o → a ∉ A1 → a ∉ Z.addrs ad → a ≠ L → H' a = some o) ∧ Same F1 F2 ∧ (∀ a, F2 a ≠ none → F1 a ≠ none ∨ a ∈ A1 ∨ H1 a = none) ∧ (∀ a ∈ A2, a ∈ A1 ∨ H1 a = none) ∧ (∀ a o, H1 a = some o → ∃ o', H' a = some o')) ∧ Out Z ad L A2 F2 ∧ H' L = some (.lst us) ∧
    OwnL (Own (Z.root ad) F2 H' n) ac us B ∧ B.Nodup ∧ (∀ a ∈ B, a ∉ A2 ∧ a ∉ Z.addrs ad ∧ a ≠ L ∧ H1 a = none) ∧ lcL own g tt el (ds.drop i) ac en T2 = some (acc, e2, t2)
  have bck : ∀ {H2 : Hp}, (∀ a o, H1 a = some o → ∃ o', H2 a = some o') → ∀ a, H2 a = none → H1 a = none := fun c5 a e => by
    cases q : H1 a with
    | none => rfl
    | some o => obtain ⟨o', e'⟩ := c5 a o q; rw [e] at e'; cases e'
  have go : ∀ {A2 A3 : List Addr} {F2 F3 H2 H3 : Hp}, (∀ a o, H1 a = some o → a ∉ A1 → a ∉ Z.addrs ad → a ≠ L → H2 a = some o) ∧ Same F1 F2 ∧ (∀ a, F2 a ≠ none → F1 a ≠ none ∨ a ∈ A1 ∨ H1 a = none) ∧ (∀ a ∈ A2, a ∈ A1 ∨ H1 a = none) ∧ (∀ a o, H1 a = some o → ∃ o', H2 a = some o') → Stp Z ad A2 F2 H2 A3 F3 H3 →
      (∀ a o, H1 a = some o → a ∉ A1 → a ∉ Z.addrs ad → a ≠ L → H3 a = some o) ∧ Same F1 F3 ∧ (∀ a, F3 a ≠ none → F1 a ≠ none ∨ a ∈ A1 ∨ H1 a = none) ∧ (∀ a ∈ A3, a ∈ A1 ∨ H1 a = none) ∧ (∀ a o, H1 a = some o → ∃ o', H3 a = some o') := by
    intro A2 A3 F2 F3 H2 H3 ⟨c1, c2, c3, c4, c5⟩ S
    refine ⟨fun a o e hA hT hL => S.fr a o (c1 a o e hA hT hL) (fun z => ?_) hT, c2.trans S.sF, fun a ha => ?_, fun a ha => ?_, fun a o e => ?_⟩
    · rcases c4 a z with w | w
      · exact hA w
      · rw [e] at w; cases w
    · rcases S.nF a ha with w | w | w
      · exact c3 a w
      · exact .inr (c4 a w)
      · exact .inr (.inr (bck c5 a w))
    · rcases S.nA a ha with w | w
      · exact c4 a w
      · exact .inr (bck c5 a w)
    · obtain ⟨o', e'⟩ := c5 a o e
      exact S.ex a o' e'
  refine ⟨W, ⟨ds.length, by simp, e1, t1, F1, A1, [], [], [], R1, ⟨fun _ _ h _ _ _ => h, Same.refl _, fun _ h => .inl h, fun _ h => .inl h, fun _ o h => ⟨o, h⟩⟩, o1, h1, ⟨rfl, rfl⟩, List.nodup_nil, (fun a ha => by cases ha), q⟩, ?_⟩
  rintro i m H2 ⟨rfl, en, T2, F2, A2, ac, us, B, R2, c, hap, hDu, hac, nB, hB, e3⟩
  have sF : Same F1 H2 := c.2.1.trans R2.same
  by_cases hlt : i < ds.length
  · refine .inr ⟨wk.go i H2 ds[i] sF (List.getElem?_eq_getElem hlt), fun H' => W (i + 1) (ds.length - (i + 1)) H', fun H' h => ⟨_, by omega, h⟩, fun x H3 y => ?_⟩
    obtain ⟨F3, n3, hx⟩ := wk.yld i H2 ds[i] x H3 F2 sF R2.same c.2.1 (List.getElem?_eq_getElem hlt) y
    obtain ⟨R3, S3⟩ := R2.new n3
    rw [List.drop_eq_getElem_cons hlt] at e3
    simp only [lcL] at e3
    cases q3 : g ds[i] (wipeE en own) with
    | none => rw [q3] at e3; cases e3
    | some e4 =>
      rw [q3] at e3
      simp only at e3
      obtain ⟨A3w, R3w, S3w⟩ := R3.wipe own
      rw [wipe_wipe] at R3w
      refine ⟨ad, wipeE en own, T2, F3, A3w, ds[i], e4, R3w, hx, q3, fun σ4 A4 R4 S4 l4 o4 => ?_⟩
      have eσ : L2.wipe σ4 own = L2.wipe σ own := by
        rw [wipe_agree (τ := L2.wipe σ own) l4 fun j hj => o4 j fun z => hj (sub j z), wipe_wipe]
      refine ⟨eσ, ?_⟩
      have S24 := (S3.trans S3w).trans S4
      cases q4 : tt e4 T2 with
      | none => rw [q4] at e3; cases e3
      | some z4 =>
        obtain ⟨b4, e5, t5⟩ := z4
        rw [q4] at e3
        refine ⟨ad, e4, T2, F3, A4, b4, e5, t5, R4, q4, fun H5 F5 A5 R5 S5 => ?_⟩
        have S25 := S24.trans S5
        cases b4 with
        | false =>
          simp only at e3
          refine iteF ?_
          obtain ⟨A6, R6, S6⟩ := R5.wipe own
          rw [eσ] at R6
          have S26 := S25.trans S6
          obtain ⟨ap, hD6⟩ := hap.step S26 hDu
          obtain ⟨hac6, out6⟩ := hac.over S26 fun a ha => ⟨(hB a ha).1, (hB a ha).2.1⟩
          exact ⟨rfl, _, _, F5, A6, ac, us, B, R6, go c S26, ap, hD6, hac6, nB, fun a ha => ⟨(out6 a ha).1, (hB a ha).2⟩, e3⟩
        | true =>
          simp only at e3
          refine iteT ?_
          cases q5 : el e5 t5 with
          | none => rw [q5] at e3; cases e3
          | some z5 =>
            obtain ⟨y5, e6, t6⟩ := z5
            rw [q5] at e3
            simp only at e3
            refine ⟨ad, e5, t5, F5, A5, y5, e6, t6, R5, q5, fun v6 H6 F6 A6 B6 R6 S6 hv6 nB6 hB6 => ?_⟩
            obtain ⟨A7, R7, S7⟩ := R6.wipe own
            rw [eσ] at R7
            have S27 := (S25.trans S6).trans S7
            obtain ⟨ap5, hD5⟩ := hap.step S25 hDu
            obtain ⟨ap, hD6⟩ := hap.step S27 hDu
            obtain ⟨hac5, out5⟩ := hac.over S25 fun a ha => ⟨(hB a ha).1, (hB a ha).2.1⟩
            obtain ⟨hac7, out7⟩ := hac.over S27 fun a ha => ⟨(hB a ha).1, (hB a ha).2.1⟩
            obtain ⟨hv7, outv⟩ := hv6.over S7 fun a ha => ⟨(hB6 a ha).1, (hB6 a ha).2.2⟩
            have hl := (lcL_len e3).1
            simp only [List.length_append, List.length_singleton] at hl
            refine ⟨us, hD6, by rw [hac.length]; omega, ?_⟩
            obtain ⟨c1, c2, c3, c4, c5⟩ := go c S27
            have c5' := (go c S25).2.2.2.2
            have nL6 : ∀ a ∈ B6, a ≠ L := fun a ha z => by
              subst z
              rw [(hB6 a ha).2.1] at hD5; cases hD5
            refine ⟨rfl, _, _, F6, A7, ac ++ [y5], us ++ [v6], B ++ B6, R7.grow ap _, ⟨fun a o z hA hT hL => ?_, c2, c3, c4, fun a o z => ?_⟩, ap, upd_same, ?_, ?_, fun a ha => ?_, e3⟩
            · rw [upd_ne hL]; exact c1 a o z hA hT hL
            · by_cases w : a = L
              · subst w; exact ⟨_, upd_same⟩
              · rw [upd_ne w]; exact c5 a o z
            · refine OwnL.app (hac7.keep (Same.refl _) fun a ha => ⟨upd_ne (hB a ha).2.2.1, (hac7.at a ha).1⟩) ⟨v6, [], B6, [], rfl, by simp, hv7.keep (Same.refl _) fun a ha => ⟨upd_ne (nL6 a ha), (hv7.at a ha).1⟩, rfl, rfl⟩
            · refine List.nodup_append.mpr ⟨nB, nB6, fun a ha b hb z => ?_⟩
              subst z
              obtain ⟨_, o, ho⟩ := hac5.at a ha
              rw [(hB6 a hb).2.1] at ho; cases ho
            · rcases List.mem_append.mp ha with z | z
              · exact ⟨(out7 a z).1, (hB a z).2⟩
              · exact ⟨(outv a z).1, (hB6 a z).2.2, nL6 a z, bck c5' a (hB6 a z).2.1⟩
  · refine .inl ⟨wk.stop i H2 sF (by omega), ?_⟩
    rw [List.drop_eq_nil_of_le (by omega)] at e3
    simp only [lcL, Option.some.injEq, Prod.mk.injEq] at e3
    obtain ⟨rfl, rfl, rfl⟩ := e3
    obtain ⟨c1, c2, c3, c4, c5⟩ := c
    exact hK H2 F2 A2 us B R2 c1 c2 c3 c4 c5 hap hDu hac nB hB
end
section
variable {Z : TSys} {X : Cx}
theorem lc_runO {n : Nat} {own is : List Nat} {src : ML Z} {g : G} {tt : MB Z} {el : M Z} (sub : ∀ j ∈ is, j ∈ own) {σ : L2.St} {H : Hp} {Q : VK} (h : denO Z (n + 1) (mlc own src g tt el) σ H Q) :
    tLc (denI Z src) (denG Z is g) (denB Z tt) (denO Z n el) own σ H Q := by
  obtain ⟨ad, env, T, F, A, r, env', T', R, e, k⟩ := h
  unfold mlc at e
  cases q : src env T with
  | none => rw [q] at e; cases e
  | some z =>
    obtain ⟨ds, e1, t1⟩ := z
    rw [q] at e
    simp only at e
    by_cases hok : (ownOk e1 own && decide (ds.length ≤ sizeLine)) = true
    · rw [if_pos hok] at e
      have ok1 : ownOk e1 own = true := (Bool.and_eq_true_iff.mp hok).1
      have ok2 : ds.length ≤ sizeLine := of_decide_eq_true (Bool.and_eq_true_iff.mp hok).2
      cases q2 : lcL own g tt el ds [] (wipeE e1 own) t1 with
      | none => rw [q2] at e; cases e
      | some z2 =>
        obtain ⟨acc, e2, t2⟩ := z2
        rw [q2] at e
        simp only [Option.some.injEq, Prod.mk.injEq] at e
        obtain ⟨rfl, rfl, rfl⟩ := e
        refine ⟨ad, env, T, F, A, ds, e1, t1, R, q, fun J H1 F1 A1 R1 S1 wk L hL => ?_⟩
        obtain ⟨Aw, Rw, Sw⟩ := R1.wipe own
        obtain ⟨RD, SD⟩ := Rw.own hL (.lst [])
        obtain ⟨nD1, nD2⟩ := Rw.notin hL
        have fD : F1 L = none := R1.same.free hL
        refine lc_loopO (n := n) sub RD ⟨nD1, fD, nD2⟩ upd_same wk (by have := (lcL_len q2).2; simp at this; omega) q2 fun H2 F2 A2 us B R2 c1 c2 c3 c4 c5 ap hD hac nB hB => ?_
        have back1 : ∀ a, a ≠ L → L2.upd H1 L (.lst []) a = none → H1 a = none := fun a z w => by rw [upd_ne z] at w; exact w
        have S2 : Stp Z ad Aw F1 H1 A2 F2 H2 := ⟨c2, fun a ha => ?_, fun a ha => ?_, fun a o e hA hT => ?_, fun a o e => ?_⟩
        · obtain ⟨A4, R4, S4⟩ := R1.rest ok1 c2 own (fun v hv => hv) R2 (env2 := e2) (A2 := A2)
          rw [restS_wipe] at R4
          have S := (S1.trans (Sw.trans S2)).trans S4
          obtain ⟨ap4, hD4⟩ := ap.step S4 hD
          obtain ⟨hac4, out4⟩ := hac.over S4 fun a ha => ⟨(hB a ha).1, (hB a ha).2.1⟩
          refine k _ H2 F2 A4 (L :: B) R4 S ⟨L, B, rfl, ap4.2.1, rfl, us, hD4, hac4⟩ (List.nodup_cons.mpr ⟨fun z => (hB L z).2.2.1 rfl, nB⟩) fun a ha => ?_
          rcases List.mem_cons.mp ha with z | z
          · subst z
            exact ⟨ap4.1, S1.none hL, ap4.2.2⟩
          · exact ⟨(out4 a z).1, S1.none (back1 a (hB a z).2.2.1 (hB a z).2.2.2), (hB a z).2.1⟩
        · rcases c3 a ha with w | w | w
          · exact .inl w
          · exact .inr (.inl w)
          · by_cases z : a = L
            · subst z; exact .inr (.inr hL)
            · exact .inr (.inr (back1 a z w))
        · rcases c4 a ha with w | w
          · exact .inl w
          · by_cases z : a = L
            · subst z; exact .inr hL
            · exact .inr (back1 a z w)
        · have z : a ≠ L := fun z => by subst z; rw [hL] at e; cases e
          exact c1 a o (by rw [upd_ne z]; exact e) hA hT z
        · have z : a ≠ L := fun z => by subst z; rw [hL] at e; cases e
          exact c5 a o (by rw [upd_ne z]; exact e)
    · rw [if_neg hok] at e; cases e
end
section
variable {Z : TSys} {X : Cx} {elt tg iter : Expr} {ifs : List Expr} {scope : Scope} {own : List (Str × Nat)} {pos spos : Pos} {src : ML Z} {is : List Nat} {g : G} {tt : MB Z} {el : M Z} {n : Nat}
theorem io_lcN (own : List (Str × Nat)) (hc : X.calm = true) (hN : X.N.Nodup) (hi : IsI Z X tg iter src) (ok : BlkOk X.N X.env.scope scope own)
    (hg : ∀ (s : Shared) (H : Hp) (C : Addr) (cl : List (Str × Addr)) (fp : List Addr), IsG Z (X.blk s H scope (compEnvC scope cl C X.env) fp) tg is g) (ht : ∀ (s : Shared) (H : Hp) (C : Addr) (cl : List (Str × Addr)) (fp : List Addr), IsTs Z (X.blk s H scope (compEnvC scope cl C X.env) fp) ifs tt)
    (he : ∀ (s : Shared) (H : Hp) (C : Addr) (cl : List (Str × Addr)) (fp : List Addr), IsO Z n (X.blk s H scope (compEnvC scope cl C X.env) fp) elt el) (sub : ∀ j ∈ is, j ∈ own.map (·.2) := by decide) (hs : ∀ x, foldedSetIterable iter X.env x = pure x := by intro _; rfl) :
    IsO Z (n + 1) X (.ListComp elt [⟨tg, iter, ifs, 0⟩] scope pos) (mlc (own.map (·.2)) src g tt el) :=
  ⟨PE.imp (pe_lc hc hN hi.pi ok (fun s H C cl fp => (hg s H C cl fp).pg) (fun s H C cl fp => (ht s H C cl fp).pt) (fun s H C cl fp => (he s H C cl fp).pe) hs) fun σ H Q h => lc_runO sub h⟩
theorem is_lcN (own : List (Str × Nat)) {i : Nat} {y : Str} {py : Pos} (hc : X.calm = true) (hN : X.N.Nodup) (hy : X.N[i]? = some y) (hyl : X.env.scope.names.lookup y = some .local)
    (hsw : swapsWith (.ListComp elt [⟨tg, iter, ifs, 0⟩] scope pos) (some (.Name y py)) spos.line X.env = pure true) (hi : IsI Z X tg iter src) (ok : BlkOk X.N X.env.scope scope own)
    (hg : ∀ (s : Shared) (H : Hp) (C : Addr) (cl : List (Str × Addr)) (fp : List Addr), IsG Z (X.blk s H scope (compEnvC scope cl C X.env) fp) tg is g) (ht : ∀ (s : Shared) (H : Hp) (C : Addr) (cl : List (Str × Addr)) (fp : List Addr), IsTs Z (X.blk s H scope (compEnvC scope cl C X.env) fp) ifs tt)
    (he : ∀ (s : Shared) (H : Hp) (C : Addr) (cl : List (Str × Addr)) (fp : List Addr), IsO Z n (X.blk s H scope (compEnvC scope cl C X.env) fp) elt el) (sub : ∀ j ∈ is, j ∈ own.map (·.2) := by decide) (hs : ∀ x, foldedSetIterable iter X.env x = pure x := by intro _; rfl) :
    IsS Z X (.Assign [.Name y py] (.ListComp elt [⟨tg, iter, ifs, 0⟩] scope pos) spos) (ssetO i (n + 1) (mlc (own.map (·.2)) src g tt el)) :=
  ⟨PS.imp (ps_setLc hc hN hy hyl hsw hi.pi ok (fun s H C cl fp => (hg s H C cl fp).pg) (fun s H C cl fp => (ht s H C cl fp).pt) (fun s H C cl fp => (he s H C cl fp).pe) hs) fun D σ H h => setO_core (fun _ _ _ h => lc_runO sub h) h⟩
end
/-! ### x[k] = a new list -/
def ssub2 {Z : TSys} (i : Nat) (mk : MQ Z) (me : M Z) : SM Z := fun e t => match me e t with
  | some (d, e1, t1) => match mk e1 t1 with
    | some (.int k, t2) => match e1[i]? with
      | some (.ow 2 (.lst ds)) => match ixN ds.length k with
        | some j => some (.nx, e1.set i (.ow 2 (.lst (ds.set j d))), t2)
        | none => none
      | _ => none
    | _ => none
  | none => none
section
variable {Z : TSys} {X : Cx} {x : Str} {xpos pos spos : Pos} {e k : Expr} {i : Nat} {mk : MQ Z} {me : M Z}
theorem is_sub2 (he : IsO Z 1 X e me) (ho : PE X (.Name x xpos) (tVar i)) (hk : IsQ Z X k mk) (hs : swapsWithSole [.Subscript (.Name x xpos) k spos] e pos.line X.env = pure false := by rfl) (hw : swappedStores [.Subscript (.Name x xpos) k spos] e X.env = pure none := by rfl)
    (h1 : (assignEach [.Subscript (.Name x xpos) k spos] X.env).map (·.2) = [assign (.Subscript (.Name x xpos) k spos) X.env] := by rfl)
    (ha : ∀ v, assign (.Subscript (.Name x xpos) k spos) X.env v = (do
      let ov ← holding [v] (eval (.Name x xpos) X.env)
      let iv ← holding [v, ov] (eval k X.env)
      standAt spos
      holding [v, ov, iv] (setItem ov iv v)
      release [v, ov, iv] []) := by intro _; rfl) : IsS Z X (.Assign [.Subscript (.Name x xpos) k spos] e pos) (ssub2 i mk me) :=
  ⟨PS.imp (ps_asg he.pe (pg_sub ho hk.pe set_list ha) hs hw h1) fun Dn σ H ⟨ad, env, T, F, A, fl, env', T', R, e, kk⟩ => by
    unfold ssub2 at e
    cases q : me env T with
    | none => rw [q] at e; cases e
    | some z =>
      obtain ⟨d, e1, t1⟩ := z
      rw [q] at e
      simp only at e
      refine ⟨ad, env, T, F, A, d, e1, t1, R, q, fun v H' F' A' B R' S' hv nB hB => ?_⟩
      cases q2 : mk e1 t1 with
      | none => rw [q2] at e; cases e
      | some z2 =>
        obtain ⟨dk, t2⟩ := z2
        rw [q2] at e
        cases dk with
        | int kx =>
          simp only at e
          cases q1 : e1[i]? with
          | none => rw [q1] at e; cases e
          | some sl =>
            rw [q1] at e
            match sl, q1, e with
            | .ow 2 (.lst ds), q1, e =>
              simp only at e
              cases q3 : ixN ds.length kx with
              | none => rw [q3] at e; cases e
              | some j =>
                rw [q3] at e
                simp only [Option.some.injEq, Prod.mk.injEq] at e
                obtain ⟨rfl, rfl, rfl⟩ := e
                have hjl : j < ds.length := (ixN_seq q3).2.1
                have hj : ds[j]? = some ds[j] := List.getElem?_eq_getElem hjl
                obtain ⟨q, vs, e0, _⟩ := R'.nest q1
                refine ⟨.ref q, e0, ad, e1, t1, F', A', .int kx, t2, R', q2, fun w H2 F2 R2 S2 a2 hw => ?_⟩
                simp only [Holds] at hw
                subst hw
                obtain ⟨hv2, out2⟩ := hv.over S2 fun a ha => ⟨(hB a ha).1, (hB a ha).2.2⟩
                obtain ⟨q', vs', A3, e0', hq, hlen, R3, sA, qin⟩ := R2.nestSet q1 hj hv2 nB fun a ha => ⟨(out2 a ha).1, (hB a ha).2.2⟩
                rw [e0] at e0'; cases e0'
                refine ⟨q, vs', kx, j, rfl, rfl, hq, by rw [hlen]; exact q3, kk σ _ F2 A3 R3 ?_⟩
                have S := S'.trans S2
                refine ⟨S.sF, S.nF, fun a ha => ?_, fun a o z hA hT => ?_, fun a o z => ?_⟩
                · rcases sA a ha with z | z
                  · exact S.nA a z
                  · exact .inr (hB a z).2.1
                · have hne : a ≠ q := fun w => by
                    subst w
                    rcases S.nA a qin with w | w
                    · exact hA w
                    · rw [z] at w; cases w
                  rw [upd_ne hne]
                  exact S.fr a o z hA hT
                · obtain ⟨o', z'⟩ := S.ex a o z
                  by_cases w : a = q
                  · subst w; exact ⟨_, upd_same⟩
                  · rw [upd_ne w]; exact ⟨o', z'⟩
        | _ => cases e⟩
end
end DL

/-! The draws' tape, first kind: a list of a place and the cells. -/
namespace DL
open PySem L2

structure Tp where
  pl : Int
  cs : List Int
structure TpAt (ad : Addr × Addr) (t : Tp) (H : Hp) : Prop where
  hp : H ad.1 = some (.lst [.int t.pl, .ref ad.2])
  hq : H ad.2 = some (.lst (t.cs.map V.int))
  ne : ad.1 ≠ ad.2
  ok : t.cs ≠ []
  le : t.cs.length ≤ 63
@[reducible] def tz : TSys where
  T := Tp
  Ad := Addr × Addr
  addrs a := [a.1, a.2]
  root a := .ref a.1
  At := TpAt
  loc h k := ⟨(k _ (by simp)).trans h.hp, (k _ (by simp)).trans h.hq, h.ne, h.ok, h.le⟩
  has h m := by
    simp only [List.mem_cons, List.not_mem_nil, or_false] at m
    rcases m with rfl | rfl
    · exact ⟨_, h.hp⟩
    · exact ⟨_, h.hq⟩
/-- only the tape has changed -/
theorem Rel.tape {Z : TSys} {ad : Z.Ad} {env : List Sl} {T T' : Z.T} {F H H' : Hp} {σ : L2.St} {A : List Addr} (R : Rel Z ad env T F σ H A) (h : ∀ a, a ∉ Z.addrs ad → H' a = H a) (t : Z.At ad T' H') : Rel Z ad env T' F σ H' A ∧ Stp Z ad A F H A F H' := by
  have out : ∀ a, F a ≠ none → a ∉ Z.addrs ad := fun a ha z => ha (R.tf a z).1
  refine ⟨⟨fun a o e => ?_, R.env.keep (Same.refl _) fun a ha => ⟨h a fun z => (R.tf a z).2 ha, (R.at a ha).1⟩, R.nd, t, R.tf⟩, Same.refl _, fun a h => .inl h, fun a h => .inl h, fun a o e hA hT => (h a hT).trans e, fun a o e => ?_⟩
  · rw [h a (out a (by rw [e]; exact fun z => by cases z))]
    exact R.same _ _ e
  · by_cases z : a ∈ Z.addrs ad
    · exact Z.has t z
    · exact ⟨o, (h a z).trans e⟩

def tpIx (t : Tp) : Nat := (t.pl % (t.cs.length : Nat)).toNat
def tpCell (t : Tp) : Int := t.cs.getD (tpIx t) 0
def mix1 (c p : Int) : Int := (c * 48271 + p * 69621) % 2147483647
def mix2 (m p : Int) : Int := (m * 16807 + p * 7919) % 1000000007
def tpDraw (t : Tp) (n : Int) : Int := if tpCell t ≥ 1000000000000000000 then tpCell t % n else (mix2 (mix1 (tpCell t) (t.pl + 1)) (t.pl + 1) / 7) % n
def tpNext (t : Tp) (n : Int) : Tp := if tpCell t ≥ 1000000000000000000 then ⟨t.pl, t.cs.set (tpIx t) (tpCell t / n)⟩ else ⟨t.pl + 1, t.cs⟩
def tkR (t : Tp) (n : Int) : Int := if n < 2 then 0 else tpDraw t n
def tkT (t : Tp) (n : Int) : Tp := if n < 2 then t else tpNext t n
theorem tkR_lt {t : Tp} {n : Int} (h : 0 < n) : 0 ≤ tkR t n ∧ tkR t n < n := by
  unfold tkR
  split
  · omega
  · unfold tpDraw
    split
    · exact ⟨Int.emod_nonneg _ (by omega), Int.emod_lt_of_pos _ h⟩
    · exact ⟨Int.emod_nonneg _ (by omega), Int.emod_lt_of_pos _ h⟩
theorem tkR_nn {t : Tp} {n : Int} : 0 ≤ tkR t n := by
  by_cases h : 0 < n
  · exact (tkR_lt h).1
  · unfold tkR; rw [if_pos (by omega)]; exact Int.le_refl _
theorem tkR_small {t : Tp} {n : Int} (h : n < 2) : tkR t n = 0 := by
  unfold tkR; rw [if_pos h]
def takeM : SM tz := fun e t => match e with
  | [.sh .tape, .sh (.int n), _, _, _, _] => if n < 1073741824 then some (.rt (.int (tkR t n)), [.sh .tape, .sh (.int n), .no, .no, .no, .no], tkT t n) else none
  | _ => none
/-- the draw, as the defs see it -/
def takeF : FnM tz := runFn 6 2 takeM
theorem takeF_eq {n : Int} {t : Tp} (h : n < 1073741824) : takeF [.tape, .int n] t = some (.int (tkR t n), tkT t n) := by
  simp [takeF, runFn, takeM, h]
def tTake (K : PySem.W.Frag) : TS :=
  tSeq (tIfS (tTest (tOp (rI0 fun i j => .bl (decide (i < j))) (tVar 1) (tC (.int 2)))) (tRet (tC (.int 0))) tNext)
  (tSeq (tAsg (tOp (rIxL K) (tVar 0) (tC (.int 1))) (gName 2))
  (tSeq (tAsg (tOp (rI (fun _ j => 0 < j) fun i j => .int (i % j)) (tCB (fun xs H Q => (∃ i, xs = [V.int i] ∧ Q (.int i) H) ∨ ∃ k, xs = [V.bl k] ∧ Q (.int (if k then 1 else 0)) H) (tCons (tOp (rIxL K) (tVar 0) (tC (.int 0))) tNil))
      (tCB (fun xs H Q => ∃ p ys, xs = [V.ref p] ∧ (SqL K H p ys ∨ SqT K H p ys) ∧ Q (.int ys.length) H) (tCons (tVar 2) tNil))) (gName 3))
  (tSeq (tAsg (tOp (rIxL K) (tVar 2) (tVar 3)) (gName 4))
  (tSeq (tIfS (tTest (tOp (rI0 fun i j => .bl (decide (j ≤ i))) (tVar 4) (tC (.int 1000000000000000000))))
      (tSeq (tAsg (tOp (rI CDiv fun i j => .int (i / j)) (tVar 4) (tVar 1)) (gSub (tVar 2) (tVar 3) rSetL))
        (tRet (tOp (rI (fun _ j => 0 < j) fun i j => .int (i % j)) (tCB (fun xs H Q => (∃ i, xs = [V.int i] ∧ Q (.int i) H) ∨ ∃ k, xs = [V.bl k] ∧ Q (.int (if k then 1 else 0)) H) (tCons (tVar 4) tNil)) (tVar 1)))) tNext)
  (tSeq (tAsg (tOp (rI0 fun i j => .int (i + j)) (tOp (rIxL K) (tVar 0) (tC (.int 0))) (tC (.int 1))) (gSub (tVar 0) (tC (.int 0)) rSetL))
  (tSeq (tAsg (tOp (rI (fun _ j => 0 < j) fun i j => .int (i % j)) (tCB (fun xs H Q => (∃ i, xs = [V.int i] ∧ Q (.int i) H) ∨ ∃ k, xs = [V.bl k] ∧ Q (.int (if k then 1 else 0)) H)
      (tCons (tOp (rI0 fun i j => .int (i + j)) (tOp (rI CMul fun i j => .int (i * j)) (tVar 4) (tC (.int 48271))) (tOp (rI CMul fun i j => .int (i * j)) (tOp (rIxL K) (tVar 0) (tC (.int 0))) (tC (.int 69621)))) tNil)) (tC (.int 2147483647))) (gName 5))
  (tSeq (tAsg (tOp (rI (fun _ j => 0 < j) fun i j => .int (i % j)) (tCB (fun xs H Q => (∃ i, xs = [V.int i] ∧ Q (.int i) H) ∨ ∃ k, xs = [V.bl k] ∧ Q (.int (if k then 1 else 0)) H)
      (tCons (tOp (rI0 fun i j => .int (i + j)) (tOp (rI CMul fun i j => .int (i * j)) (tVar 5) (tC (.int 16807))) (tOp (rI CMul fun i j => .int (i * j)) (tOp (rIxL K) (tVar 0) (tC (.int 0))) (tC (.int 7919)))) tNil)) (tC (.int 1000000007))) (gName 5))
    (tRet (tOp (rI (fun _ j => 0 < j) fun i j => .int (i % j)) (tCB (fun xs H Q => (∃ i, xs = [V.int i] ∧ Q (.int i) H) ∨ ∃ k, xs = [V.bl k] ∧ Q (.int (if k then 1 else 0)) H)
      (tCons (tOp (rI CDiv fun i j => .int (i / j)) (tVar 5) (tC (.int 7))) tNil)) (tVar 1))))))))))
theorem takeM_inv {e : List Sl} {t : Tp} {fl : Fl} {e' : List Sl} {t' : Tp} (h : takeM e t = some (fl, e', t')) : ∃ (n : Int) (s2 s3 s4 s5 : Sl), e = [.sh .tape, .sh (.int n), s2, s3, s4, s5] ∧ n < 1073741824 ∧ fl = .rt (.int (tkR t n)) ∧ e' = [.sh .tape, .sh (.int n), .no, .no, .no, .no] ∧ t' = tkT t n := by
  unfold takeM at h
  split at h
  · rename_i n s2 s3 s4 s5
    by_cases hn : n < 1073741824
    · rw [if_pos hn] at h
      cases h
      exact ⟨n, s2, s3, s4, s5, rfl, hn, rfl, rfl, rfl⟩
    · rw [if_neg hn] at h; cases h
  · cases h
theorem bT {b : Bool} {A B : Prop} (e : b = true) (h : A) : if b = true then A else B := by rw [if_pos e]; exact h
theorem bF {b : Bool} {A B : Prop} (e : b = false) (h : B) : if b = true then A else B := by rw [if_neg (by rw [e]; decide)]; exact h
theorem take_core {K : PySem.W.Frag} {D : Ends} {σ : L2.St} {H : Hp} (h : denS tz takeM D σ H) : tTake K D σ H := by
  obtain ⟨⟨p, q⟩, env, T, F, A, fl, env', T', R, e, k⟩ := h
  obtain ⟨n, s2, s3, s4, s5, rfl, hn, rfl, rfl, rfl⟩ := takeM_inv e
  have hR := R.env
  obtain ⟨o0, r0, A0, A0', rfl, rfl, h0, o1, r1, A1, A1', rfl, rfl, h1, o2, r2, A2, A2', rfl, rfl, h2, o3, r3, A3, A3', rfl, rfl, h3, o4, r4, A4, A4', rfl, rfl, h4, o5, r5, A5, A5', rfl, rfl, h5, rfl, rfl⟩ := hR
  obtain ⟨_, v0, rfl, hv0⟩ := h0
  obtain ⟨_, v1, rfl, hv1⟩ := h1
  simp only [Holds] at hv0 hv1
  subst hv0 hv1
  obtain ⟨hp, hq, ne, ok, le⟩ := R.tp
  dsimp only at hp hq ne
  have wp : ∀ {Hx : Hp} {T2 : Tp} {σ2 : L2.St}, (∀ a, a ∉ ([p, q] : List Addr) → Hx a = H a) → TpAt (p, q) T2 Hx → (∃ a b c d, σ2 = [some (.ref p), some (.int n), a, b, c, d]) → ∃ A', Rel tz (p, q) [.sh .tape, .sh (.int n), .no, .no, .no, .no] T2 F σ2 Hx A' ∧ Stp tz (p, q) (A0 ++ (A1 ++ (A2 ++ (A3 ++ (A4 ++ (A5 ++ [])))))) F H A' F Hx := by
    rintro Hx T2 σ2 hx ht ⟨a, b, c, d, rfl⟩
    obtain ⟨R1, S1⟩ := Rel.tape (Z := tz) (ad := (p, q)) (T' := T2) R hx ht
    obtain ⟨B1, R2, S2⟩ := R1.setNo 2 a
    obtain ⟨B2, R3, S3⟩ := R2.setNo 3 b
    obtain ⟨B3, R4, S4⟩ := R3.setNo 4 c
    obtain ⟨B4, R5, S5⟩ := R4.setNo 5 d
    exact ⟨B4, R5, (((S1.trans S2).trans S3).trans S4).trans S5⟩
  refine ⟨_, rfl, n, 2, rfl, rfl, decide (n < 2), rfl, ?_⟩
  by_cases n2 : n < 2
  · refine bT (decide_eq_true n2) ?_
    obtain ⟨A', R', S'⟩ := wp (Hx := H) (T2 := tkT T n) (σ2 := [some (.ref p), some (.int n), o2, o3, o4, o5]) (fun _ _ => rfl) (by unfold tkT; rw [if_pos n2]; exact ⟨hp, hq, ne, ok, le⟩) ⟨_, _, _, _, rfl⟩
    exact k _ H F A' R' S' (.int 0) (by unfold tkR; rw [if_pos n2]; simp only [Holds])
  · refine bF (decide_eq_false n2) ?_
    have hlen : 0 < T.cs.length := List.length_pos_iff.mpr ok
    have hix : tpIx T < T.cs.length := by
      unfold tpIx
      have a := Int.emod_lt_of_pos T.pl (b := (T.cs.length : Int)) (by omega)
      have b := Int.emod_nonneg T.pl (b := (T.cs.length : Int)) (by omega)
      omega
    have hixI : T.pl % (T.cs.length : Int) = (tpIx T : Int) := by
      unfold tpIx
      have b := Int.emod_nonneg T.pl (b := (T.cs.length : Int)) (by omega)
      omega
    have ixn : ixN T.cs.length (T.pl % (T.cs.length : Int)) = some (tpIx T) := by
      rw [hixI]; unfold ixN
      rw [if_pos (by omega), if_pos (by omega)]; rfl
    have hget : T.cs[tpIx T]? = some (tpCell T) := by
      unfold tpCell
      rw [List.getD_eq_getElem?_getD, List.getElem?_eq_getElem hix]; rfl
    refine ⟨_, rfl, p, _, 1, .ref q, rfl, rfl, SqL.of hp, rfl, ?_⟩
    refine ⟨_, rfl, p, _, 0, .int T.pl, rfl, rfl, SqL.of hp, rfl, .inl ⟨T.pl, rfl, _, rfl, q, _, rfl, .inl (SqL.of hq), ?_⟩⟩
    refine ⟨T.pl, ((T.cs.map V.int).length : Nat), rfl, rfl, by simpa using hlen, ?_⟩
    refine ⟨_, rfl, _, rfl, q, _, _, .int (tpCell T), rfl, rfl, SqL.of hq, ?_, ?_⟩
    · unfold L2.atI
      rw [List.length_map, ixn]
      simp only [Option.bind_some, List.getElem?_map, hget, Option.map_some]
    refine ⟨_, rfl, tpCell T, 1000000000000000000, rfl, rfl, decide (1000000000000000000 ≤ tpCell T), rfl, ?_⟩
    by_cases big : 1000000000000000000 ≤ tpCell T
    · refine bT (decide_eq_true big) ?_
      refine ⟨_, rfl, _, rfl, tpCell T, n, rfl, rfl, ⟨by omega, hn⟩, ?_⟩
      refine ⟨_, rfl, _, rfl, q, _, _, tpIx T, rfl, rfl, hq, by rw [List.length_map]; exact ixn, ?_⟩
      refine ⟨_, rfl, .inl ⟨tpCell T, rfl, _, rfl, tpCell T, n, rfl, rfl, by omega, ?_⟩⟩
      obtain ⟨A', R', S'⟩ := wp (Hx := L2.upd H q (.lst ((T.cs.map V.int).set (tpIx T) (.int (tpCell T / n))))) (T2 := tkT T n) (σ2 := [some (.ref p), some (.int n), some (.ref q), some (.int (T.pl % ((T.cs.map V.int).length : Nat))), some (.int (tpCell T)), o5])
        (fun a ha => upd_ne fun z => ha (by simp [z])) (by
          unfold tkT tpNext
          rw [if_neg n2, if_pos big]
          exact ⟨(upd_ne ne).trans hp, upd_same.trans (by simp), ne, by simpa using ok, by simpa using le⟩) ⟨_, _, _, _, rfl⟩
      exact k _ _ F A' R' S' (.int (tpCell T % n)) (by unfold tkR tpDraw; rw [if_neg n2, if_pos big]; simp only [Holds])
    · refine bF (decide_eq_false big) ?_
      refine ⟨_, rfl, p, _, 0, .int T.pl, rfl, rfl, SqL.of hp, rfl, T.pl, 1, rfl, rfl, ?_⟩
      refine ⟨_, rfl, p, _, 0, 0, rfl, rfl, hp, rfl, ?_⟩
      have hp2 : L2.upd H p (.lst [.int (T.pl + 1), .ref q]) p = some (.lst [.int (T.pl + 1), .ref q]) := upd_same
      refine ⟨_, rfl, tpCell T, 48271, rfl, rfl, .inr ⟨by decide, by decide⟩, _, rfl, p, _, 0, .int (T.pl + 1), rfl, rfl, SqL.of hp2, rfl, T.pl + 1, 69621, rfl, rfl, .inr ⟨by decide, by decide⟩, _, _, rfl, rfl, .inl ⟨_, rfl, _, _, rfl, rfl, (by show (0 : Int) < 2147483647; decide), ?_⟩⟩
      refine ⟨_, rfl, mix1 (tpCell T) (T.pl + 1), 16807, rfl, rfl, .inr ⟨by decide, by decide⟩, _, rfl, p, _, 0, .int (T.pl + 1), rfl, rfl, SqL.of hp2, rfl, T.pl + 1, 7919, rfl, rfl, .inr ⟨by decide, by decide⟩, _, _, rfl, rfl, .inl ⟨_, rfl, _, _, rfl, rfl, (by show (0 : Int) < 1000000007; decide), ?_⟩⟩
      refine ⟨_, rfl, mix2 (mix1 (tpCell T) (T.pl + 1)) (T.pl + 1), 7, rfl, rfl, ⟨by decide, by decide⟩, .inl ⟨_, rfl, _, rfl, _, n, rfl, rfl, by omega, ?_⟩⟩
      obtain ⟨A', R', S'⟩ := wp (Hx := L2.upd H p (.lst [.int (T.pl + 1), .ref q])) (T2 := tkT T n) (σ2 := [some (.ref p), some (.int n), some (.ref q), some (.int (T.pl % ((T.cs.map V.int).length : Nat))), some (.int (tpCell T)), some (.int (mix2 (mix1 (tpCell T) (T.pl + 1)) (T.pl + 1)))])
        (fun a ha => upd_ne fun z => ha (by simp [z])) (by
          unfold tkT tpNext
          rw [if_neg n2, if_neg big]
          exact ⟨upd_same, (upd_ne ne.symm).trans hq, ne, ok, le⟩) ⟨_, _, _, _, rfl⟩
      exact k _ _ F A' R' S' (.int (mix2 (mix1 (tpCell T) (T.pl + 1)) (T.pl + 1) / 7 % n)) (by unfold tkR tpDraw; rw [if_neg n2, if_neg big]; simp only [Holds])
end DL

/-! The draws' tape, first kind: how it is made of the script. -/
namespace DL
open PySem L2

def absI (i : Int) : Int := if i < 0 then -i else i
def startT (ns : List Int) : Tp := ⟨0, if ns = [] then [0] else ns.map absI⟩
def spState (K : PySem.W.Frag) : Sp := fun vs H Q _ => ∃ (a : Addr) (ns : List Int), vs = [.ref a] ∧ SqL K H a (ns.map V.int) ∧ ns.length ≤ 63 ∧ ∀ p q H', TpAt (p, q) (startT ns) H' → Q (.ref p) H'
abbrev rAbsI : List V → Hp → VK → Prop := fun xs H Q => ∃ i, xs = [V.int i] ∧ Q (.int (if i < 0 then -i else i)) H
def tState (K : PySem.W.Frag) : TS :=
  tSeq (tAsg (tLc (iList K (tSl (rSlL K) (tVar 0) (fun σ H Q => Q none H) (fun σ H Q => tC (.int 63) σ H fun x H1 => ∃ i, x = V.int i ∧ Q (some i) H1))) (gName 2) tYes (tCB rAbsI (tCons (tVar 2) tNil)) [2]) (gName 1))
  (tSeq (tIfS (tTest (tOp rEq (tCB (fun xs H Q => ∃ p ys, xs = [V.ref p] ∧ (SqL K H p ys ∨ SqT K H p ys) ∧ Q (.int ys.length) H) (tCons (tVar 1) tNil)) (tC (.int 0)))) (tAsg (tLst (tCons (tC (.int 0)) tNil)) (gName 1)) tNext)
    (tRet (tLst (tCons (tC (.int 0)) (tCons (tVar 1) tNil)))))
theorem cut63 {xs : List V} (h : xs.length ≤ 63) : cutV xs none (some 63) = xs := by
  unfold cutV
  have e : HT.sIx xs.length xs.length (some 63) = xs.length := by
    have := HT.sIx_nat xs.length xs.length 63
    rw [show ((63 : Nat) : Int) = 63 from rfl] at this
    rw [this]; omega
  rw [e, HT.sIx_none, List.drop_zero, Nat.sub_zero, List.take_length]
theorem state_core {K : PySem.W.Frag} {D : Ends} {H : Hp} {a : Addr} {ns : List Int} (hS : SqL K H a (ns.map V.int)) (hl : ns.length ≤ 63) (k : ∀ p q H', TpAt (p, q) (startT ns) H' → D.rt (.ref p) H') : tState K D [some (.ref a), none, none] H := by
  refine ⟨.ref a, rfl, 63, rfl, a, _, rfl, hS, fun p0 hp0 => ?_⟩
  rw [cut63 (by simpa using hl)]
  have h0 : L2.upd H p0 (.lst (ns.map V.int)) p0 = some (.lst (ns.map V.int)) := upd_same
  refine ⟨p0, rfl, ⟨_, SqL.of h0⟩, fun L hL => ?_⟩
  have nL : p0 ≠ L := fun z => by rw [z, upd_same] at hL; cases hL
  refine lc_list (K := K) (a := p0) (xs := ns.map V.int) (fun i H' => H' p0 = some (.lst (ns.map V.int)) ∧ H' L = some (.lst ((ns.take i).map fun n => V.int (absI n)))) ⟨(upd_ne nL).trans h0, upd_same⟩ (fun i H' _ h => SqL.of h.1) ?_ ?_
  · rintro i x H' hi ⟨h1, h2⟩
    have hi63 : i < ns.length := by
      have q := (List.getElem?_eq_some_iff.mp hi).1
      simpa using q
    have hx : x = V.int ns[i] := by
      rw [List.getElem?_map, List.getElem?_eq_getElem hi63] at hi
      simpa using hi.symm
    subst hx
    refine ⟨rfl, ?_⟩
    unfold tYes
    refine iteT ⟨_, rfl, ns[i], rfl, _, h2, ?_, (upd_ne nL).trans h1, ?_⟩
    · rw [List.length_map, List.length_take]
      exact Nat.lt_of_le_of_lt (Nat.min_le_left _ _) (Nat.lt_of_lt_of_le hi63 (Nat.le_trans hl (by decide)))
    · rw [upd_same, List.take_succ_eq_append_getElem hi63, List.map_append]
      rfl
  · rintro H' ⟨h1, h2⟩
    rw [List.length_map, List.take_length] at h2
    refine ⟨_, rfl, L, _, rfl, .inl (SqL.of h2), rfl, decide (V.int ((ns.map fun n => V.int (absI n)).length : Nat) = V.int 0), rfl, ?_⟩
    by_cases e : ns = []
    · subst e
      refine bT (decide_eq_true rfl) ⟨Nat.le_trans (by decide : 1 ≤ 63) (by decide), fun m hm => ?_⟩
      refine ⟨_, rfl, Nat.le_trans (by decide : 2 ≤ 63) (by decide), fun p hp => ?_⟩
      have np : p ≠ m := fun z => by rw [z, upd_same] at hp; cases hp
      exact k p m _ ⟨upd_same, (upd_ne np.symm).trans upd_same, np, by simp [startT], by simp [startT]⟩
    · refine bF (decide_eq_false fun z => ?_) ⟨_, rfl, Nat.le_trans (by decide : 2 ≤ 63) (by decide), fun p hp => ?_⟩
      · injection z with z
        apply e
        apply List.length_eq_zero_iff.mp
        simp only [List.length_map] at z
        omega
      · have np : p ≠ L := fun z => by rw [z, h2] at hp; cases hp
        refine k p L _ ⟨upd_same, (upd_ne np.symm).trans ?_, np, ?_, ?_⟩
        · rw [h2]; unfold startT; rw [if_neg e, List.map_map]; rfl
        · unfold startT; rw [if_neg e]; simpa using e
        · unfold startT; rw [if_neg e]; simpa using hl
end DL

/-! The data layer: defs by level; the law's first statement. -/
namespace DL
open PySem L2

structure FnAt (Z : TSys) (P : Program) (w : World) (K : PySem.W.Frag) (mg : Str → Option Value) (base : Heap) (k : Nat) (x : Str) (n : Nat) (f : FnM Z) : Prop where
  ex : ∃ (fa : Addr) (fd : FuncData) (ps : List Str), ps.length = n ∧ FnOk P w K mg base CX0 k fa fd ps (spD Z n f) ∧ mg x = some (.ref fa) ∧ PySem.W.keepIn K (.ref fa) = true ∧ Binds K fd ps []
theorem FnAt.fn {Z : TSys} {P : Program} {w : World} {K : PySem.W.Frag} {mg : Str → Option Value} {base : Heap} {k k' : Nat} {x : Str} {n : Nat} {f : FnM Z} (h : FnAt Z P w K mg base k x n f) {A : Around} (hr : Room k' A) (le : k ≤ k') : Fn Z P w K mg base A x n f := by
  obtain ⟨fa, fd, ps, e, F, m, kp, b⟩ := h.ex
  exact ⟨k, fa, fd, ps, e, F, hr.mono le, m, kp, b⟩
theorem Fun.ofD {K : PySem.W.Frag} {x qual : Str} {st : Stmt} {f : Addr} {fd : FuncData} (F : FunD K x qual (defArgs st) (defBody st) (defScope st) [] [] f fd) : Fun K x qual st f fd := by
  obtain ⟨oc, od, dV, kV, doc, pm, an, cdv, ct, osl, e, lk, hc, hd, _⟩ := F.ex
  refine ⟨⟨oc, od, kV, doc, pm, an, cdv, ct, osl, ?_, lk, hc⟩, F.kp⟩
  rcases hd with ⟨_, e2⟩ | ⟨e2, _⟩
  · rw [e, e2]
  · exact absurd rfl e2
theorem FnAt.of {Z : TSys} {P : Program} {w : World} {K : PySem.W.Frag} {mg : Str → Option Value} {base : Heap} {k : Nat} {x : Str} {n : Nat} {f : FnM Z} {fa : Addr} {fd : FuncData} {ps : List Str} (F : FnOk P w K mg base CX0 k fa fd ps (spD Z n f)) (e : ps.length = n) (m : mg x = some (.ref fa)) (kp : PySem.W.keepIn K (.ref fa) = true) (b : Binds K fd ps []) : FnAt Z P w K mg base k x n f := ⟨fa, fd, ps, e, F, m, kp, b⟩
theorem kitT {K : PySem.W.Frag} {T : String} (h : (["NoneType", "bool", "int", "str", "tuple", "list", "dict"].all fun n => decide (kitB n T = some (n == T || (n == "bool" && T == "int")))) = true) : ∀ n ∈ ["NoneType", "bool", "int", "str", "tuple", "list", "dict"], PySem.W.kitOne K (.type n) (.type T) = some (n == T || (n == "bool" && T == "int")) := fun n hn =>
  kit_ty (of_decide_eq_true (List.all_eq_true.mp h n hn))
def spLaw (K : PySem.W.Frag) : Sp := fun vs H Q _ => ∃ (a : Addr) (ns : List Int), vs = [.ref a] ∧ SqL K H a (ns.map V.int) ∧ ns.length ≤ 63 ∧ ∀ H', Q (.bl true) H'
theorem FnOk.imp {P : Program} {w : World} {K : PySem.W.Frag} {mg : Str → Option Value} {base : Heap} {CX : CXT} {k : Nat} {fa : Addr} {fd : FuncData} {ps : List Str} {sp sp' : Sp} (h : FnOk P w K mg base CX k fa fd ps sp) (e : sp' = sp) : FnOk P w K mg base CX k fa fd ps sp' := e ▸ h
/-- the law's reading: state = _law_state(script), then the rest, by data -/
theorem law_core {m : SM tz} {D : Ends} {x : V} {k : Nat} (ns : List Int) (hrun : ∃ T', ∃ e', m (.no :: .sh .tape :: List.replicate k .no) (startT ns) = some (.rt (.bl true), e', T')) (hq : ∀ H', D.rt (.bl true) H') :
    ∀ p q H', TpAt (p, q) (startT ns) H' → denS tz m D (some x :: some (.ref p) :: List.replicate k none) H' := by
  intro p q H' ht
  obtain ⟨T', e', e⟩ := hrun
  have env0 : ∀ k : Nat, EnvR (tz.root (p, q)) (fun _ => none) H' (List.replicate k .no) (List.replicate k none) [] := by
    intro k
    induction k with
    | zero => exact ⟨rfl, rfl⟩
    | succ k ih => exact ⟨none, _, [], [], rfl, rfl, rfl, ih⟩
  refine ⟨(p, q), .no :: .sh .tape :: List.replicate k .no, startT ns, fun _ => none, [], _, e', T', ⟨(fun a o z => by cases z), ⟨some x, _, [], [], rfl, rfl, rfl, ⟨some (.ref p), _, [], [], rfl, rfl, ⟨rfl, .ref p, rfl, by simp only [Holds]⟩, env0 k⟩⟩, List.nodup_nil, ht, fun a _ => ⟨rfl, by simp⟩⟩, e, fun σ' H2 F2 A2 R S v hv => ?_⟩
  simp only [Holds] at hv
  subst hv
  exact hq H2
end DL

/-! The data layer read as plain functions. -/
namespace DL
open PySem L2

section
variable {Z : TSys}
theorem forL_nx {g : G} {b : SM Z} {ds : List D} {e : List Sl} {t : Z.T} (Inv : Nat → List Sl → Z.T → Prop) (h0 : Inv 0 e t)
    (hs : ∀ i d e t, ds[i]? = some d → Inv i e t → ∃ e1, g d e = some e1 ∧ ∃ fl e2 t2, b e1 t = some (fl, e2, t2) ∧ (fl = .nx ∨ fl = .ct) ∧ Inv (i + 1) e2 t2) :
    ∃ e' t', forL g b ds e t = some (.nx, e', t') ∧ Inv ds.length e' t' := by
  induction ds generalizing e t Inv with
  | nil => exact ⟨e, t, rfl, h0⟩
  | cons d ds ih =>
    obtain ⟨e1, h1, fl, e2, t2, h2, hf, h3⟩ := hs 0 d e t rfl h0
    obtain ⟨e', t', q1, q2⟩ := ih (e := e2) (t := t2) (fun i => Inv (i + 1)) h3 fun i d' e t hd hi => hs (i + 1) d' e t (by simpa using hd) hi
    refine ⟨e', t', ?_, q2⟩
    simp only [forL, h1, h2]
    rcases hf with rfl | rfl
    · exact q1
    · exact q1
theorem forL_any {g : G} {b : SM Z} {ds : List D} {e : List Sl} {t : Z.T} (Inv : Nat → List Sl → Z.T → Prop) (Ret : D → Z.T → Prop) (h0 : Inv 0 e t)
    (hs : ∀ i d e t, ds[i]? = some d → Inv i e t → ∃ e1, g d e = some e1 ∧ ∃ fl e2 t2, b e1 t = some (fl, e2, t2) ∧ (((fl = .nx ∨ fl = .ct) ∧ Inv (i + 1) e2 t2) ∨ ∃ r, fl = .rt r ∧ Ret r t2)) :
    ∃ fl e' t', forL g b ds e t = some (fl, e', t') ∧ ((fl = .nx ∧ Inv ds.length e' t') ∨ ∃ r, fl = .rt r ∧ Ret r t') := by
  induction ds generalizing e t Inv with
  | nil => exact ⟨.nx, e, t, rfl, .inl ⟨rfl, h0⟩⟩
  | cons d ds ih =>
    obtain ⟨e1, h1, fl, e2, t2, h2, hf⟩ := hs 0 d e t rfl h0
    rcases hf with ⟨hf, h3⟩ | ⟨r, rfl, h3⟩
    · obtain ⟨fl', e', t', q1, q2⟩ := ih (e := e2) (t := t2) (fun i => Inv (i + 1)) h3 fun i d' e t hd hi => hs (i + 1) d' e t (by simpa using hd) hi
      refine ⟨fl', e', t', ?_, q2⟩
      simp only [forL, h1, h2]
      rcases hf with rfl | rfl
      · exact q1
      · exact q1
    · refine ⟨.rt r, e2, t2, ?_, .inr ⟨r, rfl, h3⟩⟩
      simp only [forL, h1, h2]
/-- a loop that is a fold over typed states -/
theorem forL_fold {S A : Type} {g : G} {b : SM Z} (enc : S → List Sl) (eA : A → D) (f : S → A → S) (P : S → A → Prop) (h : ∀ s a t, P s a → ∃ e1, g (eA a) (enc s) = some e1 ∧ b e1 t = some (.nx, enc (f s a), t)) :
    ∀ (xs : List A) (s : S) (t : Z.T), (∀ i a, xs[i]? = some a → P ((xs.take i).foldl f s) a) → forL g b (xs.map eA) (enc s) t = some (.nx, enc (xs.foldl f s), t)
  | [], s, t, _ => rfl
  | a :: xs, s, t, hp => by
    obtain ⟨e1, h1, h2⟩ := h s a t (hp 0 a rfl)
    simp only [List.map_cons, forL, h1, h2, List.foldl_cons]
    exact forL_fold enc eA f P h xs (f s a) t fun i a' ha => by
      have := hp (i + 1) a' (by simpa using ha)
      simpa using this
end
/-! ### slots wiped and put back -/
theorem wipeE_length (env : List Sl) : ∀ vs : List Nat, (wipeE env vs).length = env.length
  | [] => rfl
  | v :: vs => by unfold wipeE; rw [List.length_set, wipeE_length env vs]
theorem wipeE_get (env : List Sl) (i : Nat) : ∀ vs : List Nat, (wipeE env vs)[i]? = if i ∈ vs then (if i < env.length then some .no else none) else env[i]?
  | [] => by simp [wipeE]
  | v :: vs => by
    unfold wipeE
    rw [List.getElem?_set, wipeE_get env i vs, wipeE_length]
    by_cases h : v = i
    · subst h; simp
    · have h' : ¬ i = v := fun z => h z.symm
      simp [h, h']
theorem restE_length (env : List Sl) : ∀ (vs : List Nat) (e : List Sl), (restE env vs e).length = e.length
  | [], _ => rfl
  | v :: vs, e => by unfold restE; rw [restE_length env vs, List.length_set]
theorem restE_get (env : List Sl) (i : Nat) : ∀ (vs : List Nat) (e : List Sl), (restE env vs e)[i]? = if i ∈ vs ∧ i < e.length then some (env.getD i .no) else e[i]?
  | [], e => by simp [restE]
  | v :: vs, e => by
    unfold restE
    rw [restE_get env i vs, List.length_set]
    by_cases m : i ∈ vs
    · by_cases l : i < e.length
      · simp [m, l]
      · simp [l]
    · rw [if_neg (fun z => m z.1), List.getElem?_set]
      by_cases h : v = i
      · subst h; simp
        by_cases l : v < e.length
        · simp [l]
        · simp [l]
      · have h' : ¬ i = v := fun z => h z.symm
        simp [h, h', m]
theorem restE_wipe (env : List Sl) (vs : List Nat) : restE env vs (wipeE env vs) = env := by
  apply List.ext_getElem?
  intro i
  rw [restE_get, wipeE_length, wipeE_get]
  by_cases m : i ∈ vs
  · by_cases l : i < env.length
    · simp [m, l]
    · simp [m, l]
  · simp [m]
theorem wipeE_wipe (env : List Sl) (vs : List Nat) : wipeE (wipeE env vs) vs = wipeE env vs := by
  apply List.ext_getElem?
  intro i
  rw [wipeE_get, wipeE_length, wipeE_get]
  by_cases m : i ∈ vs
  · simp [m]
  · simp [m]
section
variable {Z : TSys}
/-- a comprehension without draws -/
theorem lcL_map {A : Type} {own : List Nat} {g : G} {tt : MB Z} {el : M Z} {e : List Sl} {t : Z.T} (eA : A → D) (p : A → Bool) (f : A → D) (he : wipeE e own = e) : ∀ (xs : List A) (acc : List D),
    (∀ a ∈ xs, ∃ e1, g (eA a) e = some e1 ∧ wipeE e1 own = e ∧ tt e1 t = some (p a, e1, t) ∧ (p a = true → ∃ e2, el e1 t = some (f a, e2, t) ∧ wipeE e2 own = e)) →
    lcL own g tt el (xs.map eA) acc e t = some (acc ++ (xs.filter p).map f, e, t)
  | [], acc, _ => by simp [lcL]
  | a :: xs, acc, h => by
    obtain ⟨e1, h1, h2, h3, h4⟩ := h a List.mem_cons_self
    have ih := fun acc => lcL_map (g := g) (tt := tt) (el := el) (t := t) eA p f he xs acc fun b hb => h b (List.mem_cons_of_mem _ hb)
    simp only [List.map_cons, lcL, he, h1, h3]
    cases q : p a with
    | false =>
      simp only [h2]
      rw [ih, List.filter_cons_of_neg (by simp [q])]
    | true =>
      obtain ⟨e2, h5, h6⟩ := h4 q
      simp only [h5, h6]
      rw [ih, List.filter_cons_of_pos q, List.map_cons, List.append_assoc]
      rfl
theorem mlc_map {A : Type} {own : List Nat} {src : ML Z} {g : G} {tt : MB Z} {el : M Z} {e e1 : List Sl} {t t1 : Z.T} (eA : A → D) (p : A → Bool) (f : A → D) (xs : List A) (hs : src e t = some (xs.map eA, e1, t1)) (hok : ownOk e1 own = true) (hl : xs.length ≤ 16777216)
    (h : ∀ a ∈ xs, ∃ e2, g (eA a) (wipeE e1 own) = some e2 ∧ wipeE e2 own = wipeE e1 own ∧ tt e2 t1 = some (p a, e2, t1) ∧ (p a = true → ∃ e3, el e2 t1 = some (f a, e3, t1) ∧ wipeE e3 own = wipeE e1 own)) :
    mlc own src g tt el e t = some (.lst ((xs.filter p).map f), e1, t1) := by
  unfold mlc
  have hz : ((xs.map eA).length ≤ sizeLine) := by rw [List.length_map]; exact Nat.le_trans hl (by decide)
  simp only [hs, hok, hz, decide_true, Bool.and_self, if_true]
  rw [lcL_map eA p f (wipeE_wipe e1 own) xs [] h]
  simp only [List.nil_append, restE_wipe]
theorem mlc_all {A : Type} {own : List Nat} {src : ML Z} {g : G} {el : M Z} {e e1 : List Sl} {t t1 : Z.T} (eA : A → D) (f : A → D) (xs : List A) (hs : src e t = some (xs.map eA, e1, t1)) (hok : ownOk e1 own = true) (hl : xs.length ≤ 16777216)
    (h : ∀ a ∈ xs, ∃ e2, g (eA a) (wipeE e1 own) = some e2 ∧ wipeE e2 own = wipeE e1 own ∧ ∃ e3, el e2 t1 = some (f a, e3, t1) ∧ wipeE e3 own = wipeE e1 own) :
    mlc own src g byes el e t = some (.lst (xs.map f), e1, t1) := by
  have := mlc_map (tt := byes) (el := el) eA (fun _ => true) f xs hs hok hl fun a ha => by
    obtain ⟨e2, h1, h2, h3⟩ := h a ha
    exact ⟨e2, h1, h2, rfl, fun _ => h3⟩
  rwa [List.filter_eq_self.mpr fun _ _ => rfl] at this
/-- .. that draws -/
theorem lcL_inv {own : List Nat} {g : G} {tt : MB Z} {el : M Z} {e : List Sl} (he : wipeE e own = e) (Inv : Nat → List D → Z.T → Prop) : ∀ (ds : List D) (acc : List D) (t : Z.T) (n : Nat), Inv n acc t →
    (∀ i d acc t, ds[i]? = some d → Inv (n + i) acc t → ∃ e1, g d e = some e1 ∧ ∃ c e2 t2, tt e1 t = some (c, e2, t2) ∧ ((c = false ∧ wipeE e2 own = e ∧ Inv (n + i + 1) acc t2) ∨ (c = true ∧ ∃ y e3 t3, el e2 t2 = some (y, e3, t3) ∧ wipeE e3 own = e ∧ Inv (n + i + 1) (acc ++ [y]) t3))) →
    ∃ acc' t', lcL own g tt el ds acc e t = some (acc', e, t') ∧ Inv (n + ds.length) acc' t'
  | [], acc, t, n, h0, _ => ⟨acc, t, rfl, h0⟩
  | d :: ds, acc, t, n, h0, hs => by
    obtain ⟨e1, h1, c, e2, t2, h2, h3⟩ := hs 0 d acc t rfl h0
    have rc := fun acc t h => lcL_inv (g := g) (tt := tt) (el := el) he Inv ds acc t (n + 1) h fun i d' acc t hd hi => by
      have := hs (i + 1) d' acc t (by simpa using hd) (by rw [show n + (i + 1) = n + 1 + i by omega]; exact hi)
      rw [show n + (i + 1) + 1 = n + 1 + i + 1 by omega] at this
      exact this
    rw [show n + (d :: ds).length = n + 1 + ds.length by rw [List.length_cons]; omega]
    rcases h3 with ⟨rfl, h4, h5⟩ | ⟨rfl, y, e3, t3, h4, h5, h6⟩
    · obtain ⟨acc', t', q1, q2⟩ := rc acc t2 h5
      refine ⟨acc', t', ?_, q2⟩
      simp only [lcL, he, h1, h2, h4]
      exact q1
    · obtain ⟨acc', t', q1, q2⟩ := rc (acc ++ [y]) t3 h6
      refine ⟨acc', t', ?_, q2⟩
      simp only [lcL, he, h1, h2, h4, h5]
      exact q1
theorem mlc_inv {own : List Nat} {src : ML Z} {g : G} {el : M Z} {e e1 : List Sl} {t t1 : Z.T} {ds : List D} (Inv : Nat → List D → Z.T → Prop) (hs : src e t = some (ds, e1, t1)) (hok : ownOk e1 own = true) (hl : ds.length ≤ 16777216) (h0 : Inv 0 [] t1)
    (h : ∀ i d acc t, ds[i]? = some d → Inv i acc t → ∃ e2, g d (wipeE e1 own) = some e2 ∧ ∃ y e3 t3, el e2 t = some (y, e3, t3) ∧ wipeE e3 own = wipeE e1 own ∧ Inv (i + 1) (acc ++ [y]) t3) :
    ∃ acc t', mlc own src g byes el e t = some (.lst acc, e1, t') ∧ Inv ds.length acc t' := by
  obtain ⟨acc, t', q1, q2⟩ := lcL_inv (g := g) (tt := byes) (el := el) (wipeE_wipe e1 own) Inv ds [] t1 0 h0 fun i d acc t hd hi => by
    rw [Nat.zero_add] at hi ⊢
    obtain ⟨e2, h1, y, e3, t3, h2, h3, h4⟩ := h i d acc t hd hi
    exact ⟨e2, h1, true, e2, t, rfl, .inr ⟨rfl, y, e3, t3, h2, h3, h4⟩⟩
  refine ⟨acc, t', ?_, by simpa using q2⟩
  unfold mlc
  have hz : (ds.length ≤ sizeLine) := Nat.le_trans hl (by decide)
  simp only [hs, hok, hz, decide_true, Bool.and_self, if_true, q1, restE_wipe]
/-- two clauses, without draws -/
theorem lc2L_map {A B : Type} {own own1 : List Nat} {g : G} {src1 : ML Z} {g1 : G} {tt1 : MB Z} {el : M Z} {e : List Sl} {t : Z.T} (eA : A → D) (eB : B → D) (in1 : A → List B) (p : A → B → Bool) (f : A → B → D) (he : wipeE e own = e) : ∀ (xs : List A) (acc : List D),
    (∀ a ∈ xs, ∃ e1 e2, g (eA a) e = some e1 ∧ src1 e1 t = some ((in1 a).map eB, e2, t) ∧ wipeE (wipeE e2 own1) own = e ∧ ∀ b ∈ in1 a, ∃ e3, g1 (eB b) (wipeE e2 own1) = some e3 ∧ wipeE e3 own1 = wipeE e2 own1 ∧ tt1 e3 t = some (p a b, e3, t) ∧ (p a b = true → ∃ e4, el e3 t = some (f a b, e4, t) ∧ wipeE e4 own1 = wipeE e2 own1)) →
    lc2L own own1 g byes src1 g1 tt1 el (xs.map eA) acc e t = some (acc ++ xs.flatMap fun a => ((in1 a).filter (p a)).map (f a), e, t)
  | [], acc, _ => by simp [lc2L]
  | a :: xs, acc, h => by
    obtain ⟨e1, e2, h1, h2, h3, h4⟩ := h a List.mem_cons_self
    have ih := fun acc => lc2L_map (g := g) (src1 := src1) (g1 := g1) (tt1 := tt1) (el := el) (t := t) (own1 := own1) eA eB in1 p f he xs acc fun b hb => h b (List.mem_cons_of_mem _ hb)
    simp only [List.map_cons, lc2L, he, h1, byes, h2]
    rw [lcL_map eB (p a) (f a) (wipeE_wipe e2 own1) (in1 a) acc h4]
    simp only [h3]
    rw [ih, List.flatMap_cons, List.append_assoc]
theorem mlc2_map {A B : Type} {own own1 : List Nat} {src : ML Z} {g : G} {src1 : ML Z} {g1 : G} {el : M Z} {e e0 : List Sl} {t t0 : Z.T} (eA : A → D) (eB : B → D) (in1 : A → List B) (f : A → B → D) (xs : List A) (hs : src e t = some (xs.map eA, e0, t0)) (hok : ownOk e0 own = true)
    (hl : (xs.flatMap in1).length ≤ 16777216)
    (h : ∀ a ∈ xs, ∃ e1 e2, g (eA a) (wipeE e0 own) = some e1 ∧ src1 e1 t0 = some ((in1 a).map eB, e2, t0) ∧ wipeE (wipeE e2 own1) own = wipeE e0 own ∧ ∀ b ∈ in1 a, ∃ e3, g1 (eB b) (wipeE e2 own1) = some e3 ∧ wipeE e3 own1 = wipeE e2 own1 ∧ ∃ e4, el e3 t0 = some (f a b, e4, t0) ∧ wipeE e4 own1 = wipeE e2 own1) :
    mlc2 own own1 src g byes src1 g1 byes el e t = some (.lst (xs.flatMap fun a => (in1 a).map (f a)), e0, t0) := by
  unfold mlc2
  have q := lc2L_map (g := g) (src1 := src1) (g1 := g1) (tt1 := byes) (el := el) (t := t0) (own1 := own1) eA eB in1 (fun _ _ => true) f (wipeE_wipe e0 own) xs [] fun a ha => by
    obtain ⟨e1, e2, h1, h2, h3, h4⟩ := h a ha
    exact ⟨e1, e2, h1, h2, h3, fun b hb => by
      obtain ⟨e3, k1, k2, k3⟩ := h4 b hb
      exact ⟨e3, k1, k2, rfl, fun _ => k3⟩⟩
  simp only [hs, hok, if_true, q, List.nil_append]
  have e2 : (xs.flatMap fun a => ((in1 a).filter fun _ => true).map (f a)) = xs.flatMap fun a => (in1 a).map (f a) := by
    congr 1
    funext a
    rw [List.filter_eq_self.mpr fun _ _ => rfl]
  rw [e2]
  have hz : (xs.flatMap fun a => (in1 a).map (f a)).length ≤ sizeLine := by
    refine Nat.le_trans (Nat.le_of_eq ?_) (Nat.le_trans hl (by decide))
    clear h q hs hl e2
    induction xs with
    | nil => rfl
    | cons a xs ih => simp only [List.flatMap_cons, List.length_append, List.length_map, ih]
  rw [if_pos hz, restE_wipe]
end
@[simp] theorem atI_nat {α : Type} (xs : List α) (i : Nat) : atI xs (i : Int) = xs[i]? := by
  unfold atI ixN
  by_cases h : i < xs.length
  · simp [h]
  · simp [h]
theorem idx_lst (ds : List D) (i : Nat) : idxD (.lst ds) (.int (i : Int)) = ds[i]? := by simp [idxD]
theorem idx_tup (ds : List D) (i : Nat) : idxD (.tup ds) (.int (i : Int)) = ds[i]? := by simp [idxD]
end DL
namespace DL
open PySem L2
section
variable {Z : TSys}
theorem mmt_ee {T : String} {g : D → List D → Option D} {m m2 : M Z} {e e1 e2 : List Sl} {t t1 t2 : Z.T} {d0 d1 r : D} (h1 : m e t = some (d0, e1, t1)) (hk : kindD d0 = T) (h2 : m2 e1 t1 = some (d1, e2, t2)) (h3 : g d0 [d1] = some r) :
    mmt T g (.e m) [.e m2] e t = some (r, e2, t2) := by
  simp only [mmt, slotOk, evA, h1, getA, hk, evN, evAs, h2, getAs, h3, if_true]
theorem sret_ev {m : M Z} {e e1 : List Sl} {t t1 : Z.T} {d : D} (h : m e t = some (d, e1, t1)) : sret m e t = some (.rt d, e1, t1) := by simp only [sret, h]
theorem sset_ev {m : M Z} {e e1 : List Sl} {t t1 : Z.T} {d : D} {i : Nat} (h : m e t = some (d, e1, t1)) : sset i m e t = some (.nx, e1.set i (.sh d), t1) := by simp only [sset, h]
theorem scons_nx {a b : SM Z} {e e1 : List Sl} {t t1 : Z.T} {x : Option (Fl × List Sl × Z.T)} (h : a e t = some (.nx, e1, t1)) (k : b e1 t1 = x) : scons a b e t = x := by simp only [scons, h, k]
theorem scons_rt {a b : SM Z} {e e1 : List Sl} {t t1 : Z.T} {d : D} (h : a e t = some (.rt d, e1, t1)) : scons a b e t = some (.rt d, e1, t1) := by simp only [scons, h]
theorem runFn_rt {N n : Nat} {m : SM Z} {ds : List D} {t t1 : Z.T} {e1 : List Sl} {d : D} (h : m (ds.map .sh ++ List.replicate (N - n) .no) t = some (.rt d, e1, t1)) : runFn N n m ds t = some (d, t1) := by simp only [runFn, h]
theorem runFn_at {N n : Nat} {m : SM Z} {ds : List D} {t t1 : Z.T} {e1 : List Sl} {d : D} (env : List Sl) (h0 : ds.map .sh ++ List.replicate (N - n) .no = env) (h : m env t = some (.rt d, e1, t1)) : runFn N n m ds t = some (d, t1) := by
  subst h0
  exact runFn_rt h
theorem sfor_nx {src : ML Z} {g : G} {b : SM Z} {e e1 : List Sl} {t t1 : Z.T} {ds : List D} {x : Option (Fl × List Sl × Z.T)} (h : src e t = some (ds, e1, t1)) (k : forL g b ds e1 t1 = x) : sfor src g b e t = x := by simp only [sfor, h, k]
end
end DL

/-! The data layer: some more displays. -/
namespace DL
open PySem L2
theorem ie_dict0 {Z : TSys} {X : Cx} {pos : Pos} : IsE Z X (.Dict [] [] pos) (mcst (.dic [] [])) := ⟨PE.imp pe_dnewK fun σ H Q ⟨ad, env, T, F, A, r, env', T', R, e, k⟩ => by
  simp only [mcst, Option.some.injEq, Prod.mk.injEq] at e
  obtain ⟨rfl, rfl, rfl⟩ := e
  intro p hp
  obtain ⟨R2, S2⟩ := R.upd hp (.dK [])
  refine k _ _ _ A R2 S2 ?_
  simp only [Holds]
  exact ⟨p, [], rfl, .nil, .inl ⟨[], rfl, rfl, upd_same⟩⟩⟩
def mneg {Z : TSys} (m : M Z) : M Z := fun e t => match m e t with
  | some (.int i, e1, t1) => some (.int (-i), e1, t1)
  | _ => none
theorem ie_neg {Z : TSys} {X : Cx} {pos : Pos} {e : Expr} {m : M Z} (h : IsE Z X e m) : IsE Z X (.UnaryOp .USub e pos) (mneg m) := ⟨PE.imp (pe_un un_neg h.pe) fun σ H Q ⟨ad, env, T, F, A, r, env', T', R, e, k⟩ => by
  unfold mneg at e
  cases q : m env T with
  | none => rw [q] at e; cases e
  | some z =>
    obtain ⟨d, e1, t1⟩ := z
    rw [q] at e
    cases d with
    | int i =>
      simp only [Option.some.injEq, Prod.mk.injEq] at e
      obtain ⟨rfl, rfl, rfl⟩ := e
      refine ⟨ad, env, T, F, A, .int i, e1, t1, R, q, fun v H' F' A' R' S' hv => ?_⟩
      simp only [Holds] at hv
      subst hv
      exact ⟨i, rfl, k _ H' F' A' R' S' (by simp only [Holds])⟩
    | _ => cases e⟩
end DL

/-! The data layer: len(set(texts)), any number of them. -/
namespace DL
open PySem PySem.Spec PyProof.Rows

/-- how many different texts -/
def distS (xs : List Str) : Nat := (xs.foldl (fun acc x => if acc.any (· == x) then acc else acc ++ [x]) []).length
def dedS (xs : List Str) : List Str := xs.foldl (fun acc x => if acc.any (· == x) then acc else acc ++ [x]) []
theorem dedS_mem (xs : List Str) (k : Str) : (dedS xs).any (· == k) = xs.any (· == k) := by
  have : ∀ (xs acc : List Str), (xs.foldl (fun acc x => if acc.any (· == x) then acc else acc ++ [x]) acc).any (· == k) = (acc.any (· == k) || xs.any (· == k)) := by
    intro xs
    induction xs with
    | nil => intro acc; simp
    | cons x xs ih =>
      intro acc
      rw [List.foldl_cons, ih]
      by_cases q : acc.any (· == x) = true
      · rw [if_pos q, List.any_cons]
        by_cases e : x = k
        · subst e; rw [q]; simp
        · have : (x == k) = false := beq_eq_false_iff_ne.mpr e
          rw [this]; simp
      · rw [if_neg q, List.any_append, List.any_cons, List.any_cons, List.any_nil]
        simp [Bool.or_assoc]
  have h := this xs []
  rw [List.any_nil, Bool.false_or] at h
  exact h
theorem dedS_snoc (xs : List Str) (x : Str) : (dedS (xs ++ [x])).length = if xs.any (· == x) then (dedS xs).length else (dedS xs).length + 1 := by
  have e : dedS (xs ++ [x]) = if (dedS xs).any (· == x) then dedS xs else dedS xs ++ [x] := by
    unfold dedS; rw [List.foldl_append]; rfl
  rw [e, dedS_mem]
  split
  · rfl
  · simp
theorem dedS_le (xs : List Str) : (dedS xs).length ≤ xs.length := by
  have : ∀ (xs acc : List Str), (xs.foldl (fun acc x => if acc.any (· == x) then acc else acc ++ [x]) acc).length ≤ acc.length + xs.length := by
    intro xs
    induction xs with
    | nil => intro acc; simp
    | cons x xs ih =>
      intro acc
      rw [List.foldl_cons]
      refine Nat.le_trans (ih _) ?_
      split
      · simp only [List.length_cons]; omega
      · simp only [List.length_append, List.length_cons, List.length_nil]; omega
  have h := this xs []
  rw [List.length_nil, Nat.zero_add] at h
  exact h
section
variable {prog : Program} {w : World} {A : Around} {R : Result → Shared → Prop} {I : Addr} {fp wr : List Addr} {G : Array GenState → Array GenState → Prop} {n : Nat} {P : Nat → Value → Prop} {St : Nat → Shared → Prop}
theorem loopS (W : WalksS prog w A.in1 I fp wr G n P St) (S : Addr) (hSf : S ∉ fp) (xs : List Str) (hsz : xs.length = n) (hn1 : n + 2 < scanBound)
    (hval : ∀ i v, P i v → ∃ t, v = .str (xs.getD i Str.empty) t) (k : Nat) : ∀ (i : Nat) (s : Shared), n - i = k → i ≤ n → St i s →
      s.heap.SetOf (PySem.strKind prog w) S (fun k' => (xs.take i).any (· == k')) (dedS (xs.take i)).length →
      (∀ s', Moved (S :: wr) G s s' → s'.heap.SetOf (PySem.strKind prog w) S (fun k' => (xs.take n).any (· == k')) (dedS (xs.take n)).length → R (.ok (.ret .none)) s') →
      codeAny (model prog w) A (.builtin "set.update.loop" ⟨[.ref S, .ref I], []⟩) R s := by
  have out : S ∉ wr := fun h => hSf (W.sub _ h)
  have sub : ∀ b ∈ wr, b ∈ S :: wr := fun b hb => List.mem_cons_of_mem _ hb
  induction k with
  | zero =>
    intro i s hk hi hst hS hR
    obtain rfl : i = n := by omega
    refine codeAny_builtin PyProof.Rows.F.entry_set_update_loop ?_
    rw [Around.under_plainId PyProof.Rows.F.plain_set_update_loop _]
    show wpAny _ A.in1 (pyNext (.ref I) >>= _) _ _ s
    refine wpAny_bind (W.done s _ _ hst fun s' hm => ?_)
    show wpAny _ A.in1 (ret Value.none) _ _ s'
    obtain ⟨o, es, ep, t, ho, rest⟩ := hS
    exact wpAny_pure (hR s' (hm.mono sub) ⟨o, es, ep, t, hm.heap S _ out ho, rest⟩)
  | succ k ih =>
    intro i s hk hi hst hS hR
    have hlt : i < n := by omega
    refine codeAny_builtin PyProof.Rows.F.entry_set_update_loop ?_
    rw [Around.under_plainId PyProof.Rows.F.plain_set_update_loop _]
    show wpAny _ A.in1 (pyNext (.ref I) >>= _) _ _ s
    refine wpAny_bind (W.item i s _ _ hlt hst fun v s' hP hst' hm => ?_)
    obtain ⟨t, rfl⟩ := hval i v hP
    have hS' : s'.heap.SetOf (PySem.strKind prog w) S (fun k' => (xs.take i).any (· == k')) (dedS (xs.take i)).length := by
      obtain ⟨o, es, ep, tb, ho, rest⟩ := hS
      exact ⟨o, es, ep, tb, hm.heap S _ out ho, rest⟩
    have small : (dedS (xs.take i)).length + 1 < scanBound := by
      have a := dedS_le (xs.take i)
      rw [List.length_take] at a
      omega
    show wpAny _ A.in1 (holding [Value.str (xs.getD i Str.empty) t] (setAdd S (.str (xs.getD i Str.empty) t)) >>= _) _ _ s'
    refine wpAny_bind (wpAny_holding ?_)
    unfold setAdd
    refine wpAny_holding (wpAny_bind ((PySem.strKind prog w).pyHash (k := xs.getD i Str.empty) (strKind_is _ _ _ _) ?_))
    refine wpAny_setAddHashed_of (knd := PySem.strKind prog w) (s := { s' with toks := s'.toks + 1 }) (strKind_is _ _ _ _) rfl hS' small fun h' same hS2 => ?_
    have tk : xs.take (i + 1) = xs.take i ++ [xs.getD i Str.empty] := by
      rw [List.take_succ_eq_append_getElem (by omega), List.getD_eq_getElem?_getD, List.getElem?_eq_getElem (by omega)]; rfl
    have hSi : h'.SetOf (PySem.strKind prog w) S (fun k' => (xs.take (i + 1)).any (· == k')) (dedS (xs.take (i + 1))).length := by
      refine SetOf_congr hS2 (fun k' => ?_) ?_
      · rw [tk, List.any_append]
        congr 1
        by_cases e : k' = xs.getD i Str.empty
        · rw [decide_eq_true e, e]; simp
        · rw [decide_eq_false e]
          have : (xs.getD i Str.empty == k') = false := beq_eq_false_iff_ne.mpr fun z => e z.symm
          simp only [List.any_cons, this, List.any_nil, Bool.or_false]
      · rw [tk, dedS_snoc]
    have keepB : ∀ b o, b ∉ S :: wr → { s' with toks := s'.toks + 1 }.heap.get? b = some o → h'.get? b = some o := fun b o hb e => by
      rw [same.2 b (fun h : b = S => hb (by rw [h]; exact List.mem_cons_self))]; exact e
    refine wpAny_pure ⟨plainId_quiet PyProof.Rows.F.plain_set_update_loop _, ih (i + 1) _ (by omega) hlt (W.frame _ s' _ _ hst' (Nat.le_succ _) fun b hb o e => ?_) hSi fun s'' hm'' hS'' => ?_⟩
    · rw [same.2 b (fun h : b = S => hSf (by rw [← h]; exact hb))]; exact e
    · exact hR s'' (Moved.trans W.gtrans ((hm.mono sub).then_heap (Nat.le_succ _) keepB) hm'') hS''
end

section
variable {prog : Program} {w : World} {A : Around} {E : Value → Shared → Prop} {s : Shared}
/-- what a call of set leaves: a new set of these texts, the old objects as they were -/
def SetLeft (prog : Program) (w : World) (xs : List Str) (s s' : Shared) : Prop := ∃ h' tk, s' = { s with heap := h', toks := tk } ∧
  h'.SetOf (PySem.strKind prog w) s.heap.objs.size (fun k' => xs.any (· == k')) (dedS xs).length ∧
  (∀ b o, s.heap.get? b = some o → h'.get? b = some o)
abbrev newSet (led : Bool) : Obj := { cls := .type "set", dict := none, data := .set #[] 0 (.fresh 0 0 led) }
set_option maxHeartbeats 3200000 in
theorem call_setS {l : Addr} {items : Array Value} {xs : List Str} {Q : Value → Shared → Prop}
    (hh : A.handled = none) (hl : s.heap.IsTuple l items) (hi : PyProof.Rows.StrsAre items.toList xs) (hn1 : xs.length + 2 < scanBound)
    (h : ∀ s', SetLeft prog w xs s s' → Q (.ref s.heap.objs.size) s') :
    wpAny (model prog w) A (call (.type "set") [.ref l]) Q E s := by
  obtain ⟨c, tl, hmro⟩ := PySem.F.called_set.mro
  have m0 := PySem.F.called_set.made
  have m1 := PySem.F.called_set.sub
  refine wpAny_call (codeAny_of_tree ?_)
  show wpAny _ _ (callAny (.type "set") _) _ _ _
  refine wpAny_pure ⟨Code.quiet_builtin _ (by decide +kernel), codeAny_builtin PySem.F.entry_type_call ?_⟩
  rw [Around.under_plain (weight_type_call_type "set" [.ref l] []) rfl]
  have m2 := PySem.F.called_set.notType
  have m3 := PySem.F.called_set.canCreate
  have m4 := PySem.F.typeCall_set_1 (.ref l)
  repeat (any_goals (first | assumption | wp_step))
  refine codeAny_mono (code_set_new_1 (.ref l) (E := E) (Q₁ := fun obj s₁ => ∃ led : Bool, obj = .ref s.heap.objs.size ∧ s₁ = { s with heap := s.heap.push (newSet led) }) fun led => ⟨led, rfl, rfl⟩) fun r s₁ hr => ?_
  cases r with
  | error e => exact hr
  | ok fl =>
    cases fl with
    | ret obj =>
      obtain ⟨led, rfl, rfl⟩ := hr
      have hS : (s.heap.push (newSet led)).get? s.heap.objs.size = some (newSet led) := Heap.get?_push_size _ rfl
      have hT : Shared.TypeIs { s with heap := s.heap.push (newSet led) } (.ref s.heap.objs.size) "set" := ⟨_, hS, rfl⟩
      have m5 := PySem.F.called_set.init.lookup
      have m6 := PySem.F.called_set.init.bind (.ref s.heap.objs.size)
      repeat (any_goals (first | assumption | wp_step))
      refine codeAny_mono (codeAny_call_builtin (R := wants (fun r s₂ => r = .none ∧ SetLeft prog w xs s s₂) E) PySem.F.called_set.init.plain PySem.F.entry_set_init (check_set_init_1 hT ?_)) fun r₂ s₂ hr₂ => ?_
      · obtain ⟨ol, hol, hcl, nl, hdl⟩ := hl
        obtain ⟨ocls, odict, odata, oslots⟩ := ol
        simp only at hcl hdl
        subst hcl; subst hdl
        have hl1 : (s.heap.push (newSet led)).IsTuple l items := ⟨_, Heap.get?_push_of_some _ hol, rfl, nl, rfl⟩
        have m9 := (Heap.get?_push_of_some (newSet led) hol : (s.heap.push (newSet led)).get? l = some { cls := .type "tuple", dict := odict, data := .seq items nl, slots := oslots })
        have m7 := PySem.F.sub_tuple_set
        have m8 := PySem.F.sub_tuple_frozenset
        have ma : (Value.type "tuple" == Value.type "dict") = false := by decide
        unfold Builtin.«set.__init__» noKeywords Builtin.Frozenset.updateFrom
        generalize q : pyIter = PI
        wp_walk
        subst q
        refine wpAny_pyIter_tuple hl1 (wpAny_bind (wpAny_runValue ?_))
        have big : (s.heap.push (newSet led)).objs.size = s.heap.objs.size + 1 := Heap.size_push _ _
        have hlS : l < s.heap.objs.size := Heap.lt_size hol
        have hsz : xs.length = items.size := by rw [← StrsAre.len_eq hi, Array.length_toList]
        have all : xs.take items.size = xs := by rw [← hsz, List.take_length]
        refine loopS (xs := xs) ((Walks.tuple (show A.in1.in1.in1.handled = none by simp [hh]) _ l (by rw [big]; exact Nat.ne_of_lt (Nat.lt_succ_of_lt hlS)) items).toS) s.heap.objs.size
          (by rw [big]; simp only [List.mem_cons, List.not_mem_nil, or_false, not_or]; exact ⟨Nat.ne_of_lt (Nat.lt_succ_self _), Nat.ne_of_gt hlS⟩) hsz (by rw [← hsz]; exact hn1)
          (fun i v hv => SS.strs_at hi i v (by rw [Array.getElem?_toList]; exact hv)) (items.size - 0) 0 _ (by omega) (Nat.zero_le _)
          ⟨⟨_, Heap.get?_push_size _ rfl, rfl, rfl⟩, (hl1.push _)⟩ ?c0 ?c1
        case c0 =>
          exact PyProof.Rows.SetOf_congr ((PyProof.Rows.setObjOf_fresh (knd := PySem.strKind prog w) led).setOf (Heap.get?_push_of_some _ hS) (by unfold scanBound; omega)) (fun _ => rfl) rfl
        case c1 =>
          intro s' hm hS'
          obtain ⟨h', g', d', tk', os'⟩ := s'
          obtain rfl : g' = s.gens := hm.gens
          obtain rfl : d' = s.drawn := hm.drawn
          obtain rfl : os' = s.os := hm.os
          show wpAny _ _ _ _ _ _
          refine wpAny_pure ?_
          show wpAny _ _ (ret Value.none) _ _ _
          rw [all] at hS'
          refine wpAny_pure ⟨rfl, h', tk', rfl, hS', fun b o e => ?_⟩
          have hb := Heap.lt_size e
          exact hm.heap b o (by rw [big]; simp only [List.mem_cons, List.not_mem_nil, or_false, not_or]; exact ⟨Nat.ne_of_lt hb, Nat.ne_of_lt (Nat.lt_succ_of_lt hb)⟩) (Heap.get?_push_of_some _ (Heap.get?_push_of_some _ e))
      · cases r₂ with
        | error e => exact hr₂
        | ok fl₂ =>
          cases fl₂ with
          | ret r =>
            obtain ⟨rfl, left⟩ := hr₂
            repeat (any_goals (first | assumption | wp_step))
            exact h _ left
          | _ => exact hr₂.elim
    | _ => exact hr.elim
end
end DL

/-! The data layer: xs[::-1] of a tuple; len(set(texts)) as an expression. -/
namespace DL
open PySem PySem.Spec PyProof.Rows HT
section
variable {prog : Program} {w : World} {A : Around} {E : Value → Shared → Prop} {s : Shared}
theorem revApplied {sl : Addr} {vl vu vs : Value} {n : Nat} {Q : Int × Int × Nat → Shared → Prop} (hs : s.heap.IsSliceOf sl vl vu vs) (pl : IsPart vl none) (pu : IsPart vu none) (ps : IsPart vs (some (-1)))
    (h : Q (((n : Int) - 1, -1, n)) s) : wpAny (model prog w) A (Builtin.Slice.sliceApplied (.ref sl) (pure (n : Int))) Q E s := by
  obtain ⟨os, g0, g1, g2⟩ := id hs
  unfold Builtin.Slice.sliceApplied Builtin.Slice.sliceFields
  refine wpAny_bind (wpAny_bind (wpAny_field g0 g2 (x := vl) rfl (wpAny_bind (wpAny_field g0 g2 (x := vu) rfl (wpAny_bind (wpAny_field g0 g2 (x := vs) rfl (wpAny_pure ?_)))))))
  refine wpAny_bind (slicePart_ ps ?_)
  show wpAny _ _ (if ((-1 : Int) == 0) = true then _ else _) _ _ s
  rw [if_neg (by decide)]
  refine wpAny_bind (slicePart_ pl (wpAny_bind (slicePart_ pu (wpAny_bind (wpAny_pure ?_)))))
  show wpAny _ _ (match Builtin.Slice.sliceAdjust none none (-1) (n : Int) with | (lo, hi) => pure (lo, (-1 : Int), Builtin.Slice.slicePlaces lo hi (-1))) _ _ s
  have e1 : Builtin.Slice.sliceAdjust none none (-1) (n : Int) = ((n : Int) - 1, -1) := by
    unfold Builtin.Slice.sliceAdjust; simp
  have e2 : Builtin.Slice.slicePlaces ((n : Int) - 1) (-1) (-1) = n := by
    unfold Builtin.Slice.slicePlaces
    have h1 : ¬ ((-1 : Int) > 0) := by decide
    simp only [h1, if_false]
    split <;> simp <;> omega
  rw [e1]
  show wpAny _ _ (pure ((n : Int) - 1, (-1 : Int), Builtin.Slice.slicePlaces ((n : Int) - 1) (-1) (-1))) _ _ s
  rw [e2]
  exact wpAny_pure h
theorem revPick (xs : Array Value) : ((List.range xs.size).filterMap fun (m : Nat) => xs[((xs.size : Int) - 1 + (m : Int) * (-1)).toNat]?).toArray = xs.toList.reverse.toArray := by
  have e : ((List.range xs.size).filterMap fun (m : Nat) => xs[((xs.size : Int) - 1 + (m : Int) * (-1)).toNat]?) = ((List.range xs.size).map fun k => xs.size - 1 - k).filterMap (xs[·]?) := by
    rw [List.filterMap_map]
    have go : ∀ (l : List Nat), (∀ k ∈ l, k < xs.size) → (l.filterMap fun (m : Nat) => xs[((xs.size : Int) - 1 + (m : Int) * (-1)).toNat]?) = l.filterMap ((fun x => xs[x]?) ∘ fun k => xs.size - 1 - k) := by
      intro l
      induction l with
      | nil => intro _; rfl
      | cons k l ih =>
        intro h
        have := h k List.mem_cons_self
        have e2 : ((xs.size : Int) - 1 + (k : Int) * (-1)).toNat = xs.size - 1 - k := by omega
        rw [List.filterMap_cons, List.filterMap_cons, ih fun j hj => h j (List.mem_cons_of_mem _ hj), e2]
        rfl
    exact go _ fun k hk => List.mem_range.mp hk
  rw [e, PySem.W.krv_range, List.filterMap_reverse, PySem.W.krv_all]
theorem getTupleRev {t sl : Addr} {items : Array Value} {vl vu vs : Value} {Q : Value → Shared → Prop} (ht : IsTup s.heap t items) (hs : s.heap.IsSliceOf sl vl vu vs) (pl : IsPart vl none) (pu : IsPart vu none) (ps : IsPart vs (some (-1)))
    (h : Q (.ref s.heap.objs.size) { s with heap := s.heap.push { cls := .type "tuple", data := .seq items.toList.reverse.toArray } })
    (hsz : items.size ≤ sizeLine) : wpAny (model prog w) A (getItem (.ref t) (.ref sl)) Q E s := by
  have fits : sizeOk (.seq items.toList.reverse.toArray) := by
    show items.toList.reverse.toArray.size ≤ sizeLine
    rw [List.size_toArray, List.length_reverse, Array.length_toList]
    exact hsz
  obtain ⟨os, g0, g1, g2⟩ := id hs
  have ty : s.TypeIs (.ref sl) "slice" := ⟨os, g0, g1⟩
  unfold getItem
  try with_reducible refine wpAny_holding ?_
  first | refine wpAny_bind (wpAny_pure ?_) | skip
  refine wpAny_bind (wpAny_sequenceKey ht.typeIs (by decide) ?_)
  refine wpAny_bind (wpAny_callSpecial?_slot (name := Str.ofString "__getitem__") ht.typeIs PyProof.Rows.slot_tuple_getitem
    (wpAny_call_entry PyProof.Rows.slot_tuple_getitem ht.typeIs entry_tuple_getitem ?_ (args_tuple_getitem _ _)))
  show wpAny _ _ (Builtin.Tuple.tupleItemsOf (.ref t) >>= _) _ _ s
  refine wpAny_bind (tupleItemsOf_ ht (wpAny_bind (wpAny_typeOf ty ?_)))
  rw [if_pos (by decide)]
  refine wpAny_bind (revApplied (n := items.size) hs pl pu ps ?_)
  have no : ¬ ((((items.size : Int) - 1) == 0 && (-1 : Int) == 1 && items.size == items.size) = true) := by
    intro q
    rw [Bool.and_eq_true, Bool.and_eq_true] at q
    exact absurd q.1.2 (by decide)
  show wpAny _ _ (if (((items.size : Int) - 1) == 0 && (-1 : Int) == 1 && items.size == items.size) = true then _ else _) _ _ s
  rw [if_neg no, revPick]
  first
    | exact wpAny_bind (m := Builtin.Tuple.tupleExact _) (wpAny_newObj_type (wpAny_pure ⟨_, rfl, wpAny_pure h⟩) fits)
    | exact wpAny_bind (m := Builtin.Tuple.tupleExact _) (wpAny_newObj_type (wpAny_bind (wpAny_pure (wpAny_pure ⟨_, rfl, wpAny_pure h⟩))) fits)
    | exact wpAny_bind (wpAny_bind (m := Builtin.Tuple.tupleExact _) (wpAny_newObj_type (wpAny_pure (wpAny_pure ⟨_, rfl, wpAny_pure h⟩)) fits))
    | exact wpAny_bind (wpAny_bind (m := Builtin.Tuple.tupleExact _) (wpAny_newObj_type (wpAny_pure ⟨_, rfl, wpAny_pure h⟩) fits))
end
end DL
namespace DL
open PySem PySem.Spec PyProof.Rows L2
section
variable {X : Cx}
def tRevT (K : PySem.W.Frag) (te : TE) : TE := fun σ H Q => te σ H fun x H1 => ∃ a xs, x = .ref a ∧ SqT K H1 a xs ∧ ∀ p o, H1 p = none → o.dict = none → Q (.ref p) (upd H1 p (.frz o (.tup xs.reverse)))
theorem pe_revT {e : Expr} {te : TE} {k : Nat} {p1 p2 p3 pos : Pos} (he : PE X e te) : PE X (.Subscript e (.Slice none none (some (.UnaryOp .USub (.Constant (.int 1) k p1) p2)) p3) pos) (tRevT X.K te) := by
  refine ⟨fun pins s σ H Q I h => PyProof.Rows.Subscript_ (thn (he.run pins s σ H _ I h) fun v s1 ⟨x, H1, I1, r1, a, xs, ex, hx, q⟩ => ?_)⟩
  subst ex
  cases r1
  have step : PO X (some (.UnaryOp .USub (.Constant (.int 1) k p1) p2)) (tPart (tUn (rU fun i => .int (-i)) (tC (.int 1)))) := po_some (pe_un un_neg pe_int)
  refine wpAny_Slice (thn (po_none.run pins s1 σ H1 (fun o H2 => o = none ∧ H2 = H1) I1 ⟨rfl, rfl⟩) fun vl s2 ⟨l, H2, I2, pl, el, e2⟩ => ?_)
  subst el e2
  refine thn (po_none.run pins s2 σ H2 (fun o H3 => o = none ∧ H3 = H2) I2 ⟨rfl, rfl⟩) fun vu s3 ⟨u, H3, I3, pu, eu, e3⟩ => ?_
  subst eu e3
  refine thn (step.run pins s3 σ H3 (fun o H4 => o = some (-1) ∧ H4 = H3) I3 ⟨1, rfl, -1, rfl, rfl, rfl⟩) fun vs s4 ⟨o, H4, I4, ps, eo, e4⟩ => ?_
  subst eo e4
  have I5 : Inv X pins σ H4 { s4 with heap := s4.heap.push { cls := .type "slice", data := .fields #[vl, vu, vs] } } := I4.kept (t' := s4.toks) fun b ob q => Heap.get?_push_of_some _ q
  obtain ⟨its, r, ht, hz⟩ := I5.tuple hx
  have hlen := r.length
  show wpAny (model X.prog X.w) X.A (subscriptTail e (.Slice none none (some (.UnaryOp .USub (.Constant (.int 1) k p1) p2)) p3) (.ref a) (.ref s4.heap.objs.size)) (EP X pins σ Q) X.xe { s4 with heap := s4.heap.push { cls := .type "slice", data := .fields #[vl, vu, vs] } }
  refine tail_any (ops := [.ref a, .ref s4.heap.objs.size]) ht.typeIs (PyProof.Rows.slot_tuple_getitem.lookup) ?_ (by with_unfolding_all rfl)
  refine getTupleRev ht (Heap.IsSliceOf.new _ vl vu vs) pl pu ps ?_ (by rw [List.size_toArray]; omega)
  exact ⟨.ref _, _, laidT I5 r.reverse (by rw [List.length_reverse]; exact hz) s4.toks, rfl, q _ _ (I5.hok.fresh (Nat.le_refl _)) rfl⟩
end
def mrev {Z : TSys} (m : M Z) : M Z := fun e t => match m e t with
  | some (.tup ds, e1, t1) => some (.tup ds.reverse, e1, t1)
  | _ => none
theorem HoldsL.rev {rt : V} {F : Hp} : ∀ {ds : List D} {vs : List V}, HoldsL rt F ds vs → HoldsL rt F ds.reverse vs.reverse := by
  intro ds
  induction ds with
  | nil => intro vs h; simp only [HoldsL] at h; subst h; exact .nil
  | cons d r ih =>
    intro vs h
    simp only [HoldsL] at h
    obtain ⟨v, us, rfl, h1, h2⟩ := h
    rw [List.reverse_cons, List.reverse_cons]
    exact (ih h2).app (.one h1)
theorem ie_rev {Z : TSys} {X : Cx} {k : Nat} {p1 p2 p3 pos : Pos} {e : Expr} {m : M Z} (h : IsE Z X e m) : IsE Z X (.Subscript e (.Slice none none (some (.UnaryOp .USub (.Constant (.int 1) k p1) p2)) p3) pos) (mrev m) := ⟨PE.imp (pe_revT h.pe) fun σ H Q ⟨ad, env, T, F, A, r, env', T', R, e, k⟩ => by
  unfold mrev at e
  cases q : m env T with
  | none => rw [q] at e; cases e
  | some z =>
    obtain ⟨d, e1, t1⟩ := z
    rw [q] at e
    cases d with
    | tup ds =>
      simp only [Option.some.injEq, Prod.mk.injEq] at e
      obtain ⟨rfl, rfl, rfl⟩ := e
      refine ⟨ad, env, T, F, A, .tup ds, e1, t1, R, q, fun v H' F' A' R' S' hv => ?_⟩
      simp only [Holds] at hv
      obtain ⟨a, vs, rfl, f, l⟩ := hv
      refine ⟨a, vs, rfl, (f.mono R'.same).sq, fun p o hp ho => ?_⟩
      obtain ⟨R2, S2⟩ := R'.upd hp (.frz o (.tup vs.reverse))
      refine k _ _ _ _ R2 (R'.st S' S2 R2) ?_
      simp only [Holds]
      exact ⟨p, vs.reverse, rfl, ⟨o, upd_same, ho⟩, l.rev.mono S2.sF⟩
    | _ => cases e⟩
def tLenSetS (K : PySem.W.Frag) (ta : TE) : TE := fun σ H Q => ta σ H fun x H1 => ∃ (l : Addr) (ns : List Str), x = V.ref l ∧ SqT K H1 l (ns.map V.str) ∧ ns.length ≤ 4000 ∧ Q (.int (dedS ns).length) H1
theorem pe_lenSetS {X : Cx} {a : Expr} {ta : TE} {p p2 q pos : Pos} (hg : Gl X "len") (hm : X.mg "len" = none) (hg2 : Gl X "set") (hm2 : X.mg "set" = none) (ha : PE X a ta) (hc : X.calm = true)
    (na : starEach [a] X.env = (false, eval a X.env) :: starEach [] X.env := by rfl) : PE X (.Call (.Name "len" p) [.Call (.Name "set" p2) [a] [] q] [] pos) (tLenSetS X.K ta) := by
  refine ⟨fun pins s σ H Q I h => ?_⟩
  refine PyProof.Rows.Call_ (ld_blt I hg hm PySem.boot_len (PyProof.Rows.callWith_builtin1 (PyProof.Rows.args_cons ?_ rfl) rfl rfl))
  refine PyProof.Rows.Call_ (ld_blt I hg2 hm2 PyProof.Rows.boot_set (PyProof.Rows.callWith_type1 (PyProof.Rows.args_cons (thn (ha.run pins s σ H _ I h) fun v s1 ⟨x, H1, I1, r1, q1⟩ => PyProof.Rows.args_nil ?_) na) na rfl))
  obtain ⟨l, ns, rfl, hq, hl, q1⟩ := q1
  cases r1
  obtain ⟨its, r, pl, hz⟩ := I1.tuple hq
  refine call_setS (I1.ok.hd hc) pl (xs := ns) (by simpa using r.strs) (by unfold scanBound; omega) fun s2 ⟨h', tk, e2, hS, hk⟩ => PyProof.Rows.args_nil ?_
  subst e2
  obtain ⟨o, es, ep, t, ho, hex, hd, _, _, _, hf, hn⟩ := hS
  have I2 : Inv X pins σ H1 { s1 with heap := h', toks := tk } := I1.kept fun b o e => hk b o e
  have hle := dedS_le ns
  exact call_len_set ho hex hd hf (by rw [hn] <;> omega) ⟨.int (dedS ns).length, H1, I2.tok _, ⟨_, by rw [hn]⟩, q1⟩
def mlensetS {Z : TSys} (a : Arg Z) : M Z := fun e t => match ev1 a e t with
  | some (.tup ds, e1, t1) => match strsD ds with
    | some ns => if ns.length ≤ 4000 then some (.int (dedS ns).length, e1, t1) else none
    | none => none
  | _ => none
theorem ie_lensetS {Z : TSys} {X : Cx} {a : Expr} {A : Arg Z} {p p2 q pos : Pos} (hg : Gl X "len") (hm : X.mg "len" = none) (hg2 : Gl X "set") (hm2 : X.mg "set" = none) (ha : IsA Z X a A) (hc : X.calm = true)
    (na : starEach [a] X.env = (false, eval a X.env) :: starEach [] X.env := by rfl) : IsE Z X (.Call (.Name "len" p) [.Call (.Name "set" p2) [a] [] q] [] pos) (mlensetS A) :=
  ⟨PE.imp (pe_lenSetS hg hm hg2 hm2 ha.pe hc na) fun σ H Q ⟨ad, env, T, F, A0, d, env', T', R, e, k⟩ => by
  unfold mlensetS at e
  cases q : ev1 A env T with
  | none => rw [q] at e; cases e
  | some z =>
    obtain ⟨d0, e1, t1⟩ := z
    rw [q] at e
    cases d0 with
    | tup ds =>
      simp only at e
      cases q2 : strsD ds with
      | none => rw [q2] at e; cases e
      | some ns =>
        rw [q2] at e
        simp only at e
        split at e
        · rename_i hz
          simp only [Option.some.injEq, Prod.mk.injEq] at e
          obtain ⟨rfl, rfl, rfl⟩ := e
          refine ev1_run q R fun v H' F' A' R' S' hv => ?_
          have ex := strsD_inv q2
          subst ex
          simp only [HB, Holds] at hv
          obtain ⟨a, us, rfl, f, l⟩ := hv
          have eu := holds_strs l
          subst eu
          exact ⟨a, ns, rfl, (f.mono R'.same).sq, hz, k _ H' F' A' R' S' (by simp only [Holds])⟩
        · cases e
    | _ => cases e⟩
end DL

namespace K29
open PySem L2 DL
def top (i : Nat) : Stmt := PySem.Challenge.pw_elderfolios_k29_claims_judged.main.body.getD i (.Pass ⟨0, 0, 0, 0⟩)
abbrev s_is_siglum : Stmt := top 2
abbrev s_is_names : Stmt := top 3
abbrev s_is_claim : Stmt := top 5
abbrev s_are_claims : Stmt := top 6
abbrev s_in_order : Stmt := top 7
abbrev s_ties : Stmt := top 8
abbrev s_parts : Stmt := top 9
abbrev s_meets : Stmt := top 10
abbrev s_is_lot : Stmt := top 11
abbrev s_cross : Stmt := top 12
abbrev s_are_families : Stmt := top 13
abbrev s_is_tied : Stmt := top 14
abbrev s_accepts_grouping : Stmt := top 15
abbrev s_claims_of : Stmt := top 16
abbrev s__law_state : Stmt := top 18
abbrev s__law_take : Stmt := top 19
abbrev s__law_pick : Stmt := top 20
abbrev s__law_parts : Stmt := top 21
abbrev s__law_meets : Stmt := top 22
abbrev s__law_are_families : Stmt := top 23
abbrev s__law_is_lot : Stmt := top 24
abbrev s__law_is_tied : Stmt := top 25
abbrev s__law_claim : Stmt := top 26
abbrev s__law_made : Stmt := top 27
abbrev s__law_due : Stmt := top 28
abbrev s__law_bent : Stmt := top 29
abbrev s__law_says : Stmt := top 30
abbrev s_law : Stmt := top 31
theorem k_bool {K : PySem.W.Frag} : ∀ n ∈ ["NoneType", "bool", "int", "str", "tuple", "list", "dict"], PySem.W.kitOne K (.type n) (.type "bool") = some (n == "bool" || (n == "bool" && "bool" == "int")) := kitT (by decide +kernel)
theorem k_str {K : PySem.W.Frag} : ∀ n ∈ ["NoneType", "bool", "int", "str", "tuple", "list", "dict"], PySem.W.kitOne K (.type n) (.type "str") = some (n == "str" || (n == "bool" && "str" == "int")) := kitT (by decide +kernel)
theorem k_tuple {K : PySem.W.Frag} : ∀ n ∈ ["NoneType", "bool", "int", "str", "tuple", "list", "dict"], PySem.W.kitOne K (.type n) (.type "tuple") = some (n == "tuple" || (n == "bool" && "tuple" == "int")) := kitT (by decide +kernel)
structure Tx (K : PySem.W.Frag) (mg : Str → Option Value) : Prop where
  z_abs : mg "abs" = none
  z_all : mg "all" = none
  z_any : mg "any" = none
  z_bool : mg "bool" = none
  z_int : mg "int" = none
  z_isinstance : mg "isinstance" = none
  z_len : mg "len" = none
  z_list : mg "list" = none
  z_range : mg "range" = none
  z_set : mg "set" = none
  z_str : mg "str" = none
  z_tuple : mg "tuple" = none
  z_MOST_NAMES : ∃ t, mg "MOST_NAMES" = some (.int 40 t)
section
variable {P : Program} {w : World} {K : PySem.W.Frag} {mg : Str → Option Value} {base : Heap}
abbrev f__law_take : FnM tz := takeF
theorem sc__law_take : FnScope ["state", "most", "cells", "at", "cell", "mixed"] ["state", "most"] (defScope s__law_take) := ⟨rfl, rfl, rfl, by decide +kernel, rfl, by decide +kernel, by decide +kernel⟩
theorem ok__law_take {f : Addr} {fd : FuncData} (F : Fun K "_law_take" "_law_take" s__law_take f fd) (T : Tx K mg) : FnOk P w K mg base CX0 1 f fd ["state", "most"] (spD tz 2 f__law_take) :=
  fn_ok F sc__law_take fun cdv A outer s H E hr => ⟨PSs.imp (
    pss_cons (ps_if (pt_cmpR op_lt (pv 1) pe_int (nomark _)) (pss_one (ps_ret pe_int)) pss_nil)
    (pss_cons (ps_set (i := 2) sc__law_take.nd rfl (Or.inl rfl) (pe_ix ix_list (pv 0) pe_int fun _ _ => rfl))
    (pss_cons (ps_set (i := 3) sc__law_take.nd rfl (Or.inl rfl) (pe_op op_mod (pe_callTy call_int1 (by rfl) T.z_int PyProof.Rows.boot_int (pa_cons (pe_ix ix_list (pv 0) pe_int fun _ _ => rfl) pa_nil)) (pe_callB call_len_seq (by rfl) T.z_len PySem.boot_len (pa_cons (pv 2) pa_nil))))
    (pss_cons (ps_set (i := 4) sc__law_take.nd rfl (Or.inl rfl) (pe_ix ix_list (pv 2) (pv 3) fun _ _ => rfl))
    (pss_cons (ps_if (pt_cmpR op_ge (pv 4) pe_int (nomark _)) (pss_cons (ps_asg (pe_op op_fdiv (pv 4) (pv 1)) (pg_sub (pv 2) (pv 3) set_list)) (pss_one (ps_ret (pe_op op_mod (pe_callTy call_int1 (by rfl) T.z_int PyProof.Rows.boot_int (pa_cons (pv 4) pa_nil)) (pv 1))))) pss_nil)
    (pss_cons (ps_asg (pe_op op_add (pe_ix ix_list (pv 0) pe_int fun _ _ => rfl) pe_int) (pg_sub (pv 0) pe_int set_list))
    (pss_cons (ps_set (i := 5) sc__law_take.nd rfl (Or.inl rfl) (pe_op op_mod (pe_callTy call_int1 (by rfl) T.z_int PyProof.Rows.boot_int (pa_cons (pe_op op_add (pe_op op_mul (pv 4) pe_int) (pe_op op_mul (pe_ix ix_list (pv 0) pe_int fun _ _ => rfl) pe_int)) pa_nil)) pe_int))
    (pss_cons (ps_set (i := 5) sc__law_take.nd rfl (Or.inl rfl) (pe_op op_mod (pe_callTy call_int1 (by rfl) T.z_int PyProof.Rows.boot_int (pa_cons (pe_op op_add (pe_op op_mul (pv 5) pe_int) (pe_op op_mul (pe_ix ix_list (pv 0) pe_int fun _ _ => rfl) pe_int)) pa_nil)) pe_int))
    (pss_one (ps_ret (pe_op op_mod (pe_callTy call_int1 (by rfl) T.z_int PyProof.Rows.boot_int (pa_cons (pe_op op_fdiv (pv 5) pe_int) pa_nil)) (pv 1)))))))))))) fun D σ H h => take_core (K := K) h⟩
theorem sc__law_state : FnScope ["script", "cells", "cell"] ["script"] (defScope s__law_state) := ⟨rfl, rfl, rfl, by decide +kernel, rfl, by decide +kernel, by decide +kernel⟩
def scp__law_state : Scope := { kind := .function, names := [((".0" : Str), .local), (("cell" : Str), .local), (("abs" : Str), .globalImplicit)], isGenerator := false, isCoroutine := false, more := [] }
theorem ok__law_state {f : Addr} {fd : FuncData} (F : Fun K "_law_state" "_law_state" s__law_state f fd) (T : Tx K mg) : FnOk P w K mg base CX0 1 f fd ["script"] (spState K) := by
  refine F.ok sc__law_state (fun vs H Q E h => ?_) (fun cdv A outer s H vs Q E hr h => ?_)
  · obtain ⟨a, ns, rfl, _⟩ := h
    rfl
  · obtain ⟨a, ns, rfl, hS, hl, k⟩ := h
    exact ⟨_, pss_cons (ps_setLc (i := 1) (own := [("cell", 2)]) (g := gName 2) (tt := tYes) rfl sc__law_state.nd rfl rfl (sw_true rfl rfl rfl (by decide +kernel)) (pi_list (pe_slice sl_list (pv 0) po_none (po_some pe_int)))
        (blkOk_by (N := ["script", "cells", "cell"]) (sc := defScope s__law_state) (scope := scp__law_state) (own := [("cell", 2)]) (by decide +kernel)) (fun _ _ _ _ _ => pg_name (i := 2) sc__law_state.nd rfl (Or.inl rfl)) (fun _ _ _ _ _ => pts_nil) (fun _ _ _ _ _ => pe_callB call_abs (by rfl) T.z_abs PyProof.Rows.boot_abs (pa_cons (pv 2) pa_nil)))
      (pss_cons (ps_if (pt_cmpR op_eq (pe_callB call_len_seq (by rfl) T.z_len PySem.boot_len (pa_cons (pv 1) pa_nil)) pe_int (nomark _)) (pss_one (ps_set (i := 1) sc__law_state.nd rfl (Or.inl rfl) (pe_lst (pa_cons pe_int pa_nil)))) pss_nil)
      (pss_one (ps_ret (pe_lst (pa_cons pe_int (pa_cons (pv 1) pa_nil)))))), state_core (K := K) hS hl k⟩
/-! ### is_siglum -/
abbrev N_is_siglum : List Str := [("value" : Str), ("sign" : Str)]
theorem sc_is_siglum : FnScope N_is_siglum [("value" : Str)] (defScope s_is_siglum) := ⟨rfl, rfl, rfl, by decide +kernel, rfl, by decide +kernel, by decide +kernel⟩
def scp_is_siglum_1 : Scope := { kind := .function, names := [((".0" : Str), .local), (("sign" : Str), .local)], isGenerator := false, isCoroutine := false, more := [] }
def ce_is_siglum_1 : M tz := (mor (mchain leD leD (.e (mcst (.str "a"))) (.v 1) (.e (mcst (.str "z")))) (mchain leD leD (.e (mcst (.str "0"))) (.v 1) (.e (mcst (.str "9")))))
def c_is_siglum_1 : M tz := mlc [1] (iseq (mslice sliceD (.v 0) (osome (mcst (.int 1))) onone)) (gset 1) byes ce_is_siglum_1
def m_is_siglum : SM tz := (scons (sif (bor (bnot (asB (misinst "str" (.v 0)))) (bor (bnot (asB (mchain leD leD (.e (mcst (.int 1))) (.e (mfn len1 [(.v 0)])) (.e (mcst (.int 4)))))) (bnot (asB (mchain leD leD (.e (mcst (.str "A"))) (.e (mop idxD (.v 0) (.e (mcst (.int 0))))) (.e (mcst (.str "Z")))))))) (sret (mcst (.bl false))) snil)
    (sret (mfn all1 [(.e c_is_siglum_1)])))
def f_is_siglum : FnM tz := runFn 2 1 m_is_siglum
theorem ok_is_siglum {f : Addr} {fd : FuncData} (F : Fun K ("is_siglum" : Str) ("is_siglum" : Str) s_is_siglum f fd) (T : Tx K mg)  : FnOk P w K mg base CX0 1 f fd [("value" : Str)] (spD tz 1 f_is_siglum) :=
  fn_ok F sc_is_siglum fun cdv A outer s H E hr => by
    exact (ib_cons (is_if (IsW.t (iw_or (it_not (it_val (ie_isinst (by rfl) T.z_isinstance (by rfl) T.z_str (by decide +kernel) (.v (pv 0)) k_str))) (iw_or (it_not (it_chain op_leA od_le op_leA od_le (.e ie_int) (.e (ie_blt call_len cd_len (by rfl) T.z_len PySem.boot_len (ia_cons (.v (pv 0)) .nil))) (.e ie_int))) (iw_or1 (it_not (it_chain op_leA od_le op_leA od_le (.e ie_str) (.e (ie_ix ix_seq od_idx (.v (pv 0)) (.e ie_int))) (.e ie_str))))))) (ib_one (is_ret ie_bl)) ib_nil)
    (ib_one (is_ret (ie_blt (cr_all rfl) cd_all (by rfl) T.z_all PyProof.Rows.boot_all (ia_cons (.e (IsO.toE (io_lc [(("sign" : Str), 1)] rfl sc_is_siglum.nd (ii_seq (ie_slice sl_all sd_all (.v (pv 0)) (ip_some ie_int) ip_none)) (blkOk_by (N := N_is_siglum) (sc := defScope s_is_siglum) (scope := scp_is_siglum_1) (own := [(("sign" : Str), 1)]) (by decide +kernel)) (fun _ _ _ _ _ => (ig_name (i := 1) sc_is_siglum.nd rfl (Or.inl rfl))) (fun _ _ _ _ _ => its_nil) (fun _ _ _ _ _ => (ie_or (ie_chain op_leA od_le op_leA od_le (.e ie_str) (.v (pv 1)) (.e ie_str)) (ie_one (ie_chain op_leA od_le op_leA od_le (.e ie_str) (.v (pv 1)) (.e ie_str)))))))) .nil)))))
/-! ### in_order -/
abbrev N_in_order : List Str := [("names" : Str), ("some" : Str), ("name" : Str)]
theorem sc_in_order : FnScope N_in_order [("names" : Str), ("some" : Str)] (defScope s_in_order) := ⟨rfl, rfl, rfl, by decide +kernel, rfl, by decide +kernel, by decide +kernel⟩
def scp_in_order_1 : Scope := { kind := .function, names := [((".0" : Str), .local), (("name" : Str), .local), (("some" : Str), .free)], isGenerator := false, isCoroutine := false, more := [] }
def ce_in_order_1 : M tz := (mvar 2)
def ct_in_order_1 : MB tz := (asB (mop inD (.v 2) (.v 1)))
def c_in_order_1 : M tz := mlc [2] (iseq (mvar 0)) (gset 2) ct_in_order_1 ce_in_order_1
def m_in_order : SM tz := (sret (mfn tuple1 [(.e c_in_order_1)]))
def f_in_order : FnM tz := runFn 3 2 m_in_order
theorem ok_in_order {f : Addr} {fd : FuncData} (F : Fun K ("in_order" : Str) ("in_order" : Str) s_in_order f fd) (T : Tx K mg)  : FnOk P w K mg base CX0 1 f fd [("names" : Str), ("some" : Str)] (spD tz 2 f_in_order) :=
  fn_ok F sc_in_order fun cdv A outer s H E hr => by
    exact (ib_one (is_ret (ie_ty call_tuple_F cd_tuple (by rfl) T.z_tuple PyProof.Rows.boot_tuple (ia_cons (.e (IsO.toE (io_lc [(("name" : Str), 2)] rfl sc_in_order.nd (ii_seq (ie_var (pv 0))) (blkOk_by (N := N_in_order) (sc := defScope s_in_order) (scope := scp_in_order_1) (own := [(("name" : Str), 2)]) (by decide +kernel)) (fun _ _ _ _ _ => (ig_name (i := 2) sc_in_order.nd rfl (Or.inl rfl))) (fun _ _ _ _ _ => (its_one (it_cmp (op_inA hr) od_in (.v (pv 2)) (.v (pv 1)) (by with_unfolding_all rfl)))) (fun _ _ _ _ _ => (ie_var (pv 2)))))) .nil))))
/-! ### ties -/
abbrev N_ties : List Str := [("claims" : Str), ("lot" : Str), ("one" : Str), ("two" : Str), ("three" : Str)]
theorem sc_ties : FnScope N_ties [("claims" : Str), ("lot" : Str)] (defScope s_ties) := ⟨rfl, rfl, rfl, by decide +kernel, rfl, by decide +kernel, by decide +kernel⟩
def scp_ties_1 : Scope := { kind := .function, names := [((".0" : Str), .local), (("one" : Str), .local), (("two" : Str), .local), (("three" : Str), .local), (("lot" : Str), .free)], isGenerator := false, isCoroutine := false, more := [] }
def ce_ties_1 : M tz := (mtup (mcons (mvar 2) (mcons (mvar 3) mnil)))
def ct_ties_1 : MB tz := (band (asB (mop inD (.v 2) (.v 1))) (band (asB (mop inD (.v 3) (.v 1))) (asB (mop inD (.v 4) (.v 1)))))
def c_ties_1 : M tz := mlc [2, 3, 4] (iseq (mvar 0)) (gtup 3 (gcons (gset 2) (gcons (gset 3) (gcons (gset 4) gnil)))) ct_ties_1 ce_ties_1
def m_ties : SM tz := (sret c_ties_1)
def f_ties : FnM tz := runFn 5 2 m_ties
theorem ok_ties {f : Addr} {fd : FuncData} (F : Fun K ("ties" : Str) ("ties" : Str) s_ties f fd) (T : Tx K mg)  : FnOk P w K mg base CX0 1 f fd [("claims" : Str), ("lot" : Str)] (spD tz 2 f_ties) :=
  fn_ok F sc_ties fun cdv A outer s H E hr => by
    exact (ib_one (is_ret (IsO.toE (io_lc [(("one" : Str), 2), (("two" : Str), 3), (("three" : Str), 4)] rfl sc_ties.nd (ii_seq (ie_var (pv 0))) (blkOk_by (N := N_ties) (sc := defScope s_ties) (scope := scp_ties_1) (own := [(("one" : Str), 2), (("two" : Str), 3), (("three" : Str), 4)]) (by decide +kernel)) (fun _ _ _ _ _ => (ig_tup rfl (igs_cons (ig_name (i := 2) sc_ties.nd rfl (Or.inl rfl)) (igs_cons (ig_name (i := 3) sc_ties.nd rfl (Or.inl rfl)) (igs_cons (ig_name (i := 4) sc_ties.nd rfl (Or.inl rfl)) igs_nil))))) (fun _ _ _ _ _ => (its_one (IsW.t (iw_and (it_cmp (op_inA hr) od_in (.v (pv 2)) (.v (pv 1)) (by with_unfolding_all rfl)) (iw_and (it_cmp (op_inA hr) od_in (.v (pv 3)) (.v (pv 1)) (by with_unfolding_all rfl)) (iw_and1 (it_cmp (op_inA hr) od_in (.v (pv 4)) (.v (pv 1)) (by with_unfolding_all rfl)))))))) (fun _ _ _ _ _ => (ie_tup (il_cons (ie_var (pv 2)) (il_cons (ie_var (pv 3)) il_nil))))))))
/-! ### meets -/
abbrev N_meets : List Str := [("families" : Str), ("claim" : Str), ("family" : Str)]
theorem sc_meets : FnScope N_meets [("families" : Str), ("claim" : Str)] (defScope s_meets) := ⟨rfl, rfl, rfl, by decide +kernel, rfl, by decide +kernel, by decide +kernel⟩
def scp_meets_1 : Scope := { kind := .function, names := [((".0" : Str), .local), (("family" : Str), .local), (("claim" : Str), .free)], isGenerator := false, isCoroutine := false, more := [] }
def ce_meets_1 : M tz := (mand (mop inD (.e (mop idxD (.v 1) (.e (mcst (.int 0))))) (.v 2)) (mand (mop inD (.e (mop idxD (.v 1) (.e (mcst (.int 1))))) (.v 2)) (mop notinD (.e (mop idxD (.v 1) (.e (mcst (.int 2))))) (.v 2))))
def c_meets_1 : M tz := mlc [2] (iseq (mvar 0)) (gset 2) byes ce_meets_1
def m_meets : SM tz := (sret (mfn any1 [(.e c_meets_1)]))
def f_meets : FnM tz := runFn 3 2 m_meets
theorem ok_meets {f : Addr} {fd : FuncData} (F : Fun K ("meets" : Str) ("meets" : Str) s_meets f fd) (T : Tx K mg)  : FnOk P w K mg base CX0 1 f fd [("families" : Str), ("claim" : Str)] (spD tz 2 f_meets) :=
  fn_ok F sc_meets fun cdv A outer s H E hr => by
    exact (ib_one (is_ret (ie_blt (cr_any rfl) cd_any (by rfl) T.z_any PyProof.Rows.boot_any (ia_cons (.e (IsO.toE (io_lc [(("family" : Str), 2)] rfl sc_meets.nd (ii_seq (ie_var (pv 0))) (blkOk_by (N := N_meets) (sc := defScope s_meets) (scope := scp_meets_1) (own := [(("family" : Str), 2)]) (by decide +kernel)) (fun _ _ _ _ _ => (ig_name (i := 2) sc_meets.nd rfl (Or.inl rfl))) (fun _ _ _ _ _ => its_nil) (fun _ _ _ _ _ => (ie_and (ie_cmp (op_inA hr) od_in (.e (ie_ix ix_seq od_idx (.v (pv 1)) (.e ie_int))) (.v (pv 2)) (by with_unfolding_all rfl)) (ie_and (ie_cmp (op_inA hr) od_in (.e (ie_ix ix_seq od_idx (.v (pv 1)) (.e ie_int))) (.v (pv 2)) (by with_unfolding_all rfl)) (ie_one (ie_cmp (op_notInA hr) od_notin (.e (ie_ix ix_seq od_idx (.v (pv 1)) (.e ie_int))) (.v (pv 2)) (by with_unfolding_all rfl))))))))) .nil))))
/-! ### cross -/
abbrev N_cross : List Str := [("one" : Str), ("other" : Str), ("both" : Str), ("name" : Str)]
theorem sc_cross : FnScope N_cross [("one" : Str), ("other" : Str)] (defScope s_cross) := ⟨rfl, rfl, rfl, by decide +kernel, rfl, by decide +kernel, by decide +kernel⟩
def scp_cross_1 : Scope := { kind := .function, names := [((".0" : Str), .local), (("name" : Str), .local), (("other" : Str), .free)], isGenerator := false, isCoroutine := false, more := [] }
def ce_cross_1 : M tz := (mvar 3)
def ct_cross_1 : MB tz := (asB (mop inD (.v 3) (.v 1)))
def c_cross_1 : M tz := mlc [3] (iseq (mvar 0)) (gset 3) ct_cross_1 ce_cross_1
def m_cross : SM tz := (scons (sset 2 c_cross_1)
    (sret (mand (mop gtD (.e (mfn len1 [(.v 2)])) (.e (mcst (.int 0)))) (mand (mop ltD (.e (mfn len1 [(.v 2)])) (.e (mfn len1 [(.v 0)]))) (mop ltD (.e (mfn len1 [(.v 2)])) (.e (mfn len1 [(.v 1)])))))))
def f_cross : FnM tz := runFn 4 2 m_cross
theorem ok_cross {f : Addr} {fd : FuncData} (F : Fun K ("cross" : Str) ("cross" : Str) s_cross f fd) (T : Tx K mg)  : FnOk P w K mg base CX0 1 f fd [("one" : Str), ("other" : Str)] (spD tz 2 f_cross) :=
  fn_ok F sc_cross fun cdv A outer s H E hr => by
    exact (ib_cons (is_lc [(("name" : Str), 3)] (i := 2) rfl sc_cross.nd rfl rfl (sw_true rfl rfl rfl (by decide +kernel)) (ii_seq (ie_var (pv 0))) (blkOk_by (N := N_cross) (sc := defScope s_cross) (scope := scp_cross_1) (own := [(("name" : Str), 3)]) (by decide +kernel)) (fun _ _ _ _ _ => (ig_name (i := 3) sc_cross.nd rfl (Or.inl rfl))) (fun _ _ _ _ _ => (its_one (it_cmp (op_inA hr) od_in (.v (pv 3)) (.v (pv 1)) (by with_unfolding_all rfl)))) (fun _ _ _ _ _ => (ie_var (pv 3))))
    (ib_one (is_ret (ie_and (ie_cmp op_gtA od_gt (.e (ie_blt call_len cd_len (by rfl) T.z_len PySem.boot_len (ia_cons (.v (pv 2)) .nil))) (.e ie_int) (nomark _)) (ie_and (ie_cmp op_ltA od_lt (.e (ie_blt call_len cd_len (by rfl) T.z_len PySem.boot_len (ia_cons (.v (pv 2)) .nil))) (.e (ie_blt call_len cd_len (by rfl) T.z_len PySem.boot_len (ia_cons (.v (pv 0)) .nil))) (nomark _)) (ie_one (ie_cmp op_ltA od_lt (.e (ie_blt call_len cd_len (by rfl) T.z_len PySem.boot_len (ia_cons (.v (pv 2)) .nil))) (.e (ie_blt call_len cd_len (by rfl) T.z_len PySem.boot_len (ia_cons (.v (pv 1)) .nil))) (nomark _))))))))
/-! ### _law_parts -/
abbrev N__law_parts : List Str := [("claims" : Str), ("lot" : Str), ("pairs" : Str), ("left" : Str), ("found" : Str), ("turn" : Str), ("near" : Str), ("step" : Str), ("one" : Str), ("two" : Str), ("three" : Str), ("claim" : Str), ("name" : Str)]
theorem sc__law_parts : FnScope N__law_parts [("claims" : Str), ("lot" : Str)] (defScope s__law_parts) := ⟨rfl, rfl, rfl, by decide +kernel, rfl, by decide +kernel, by decide +kernel⟩
def scp__law_parts_1 : Scope := { kind := .function, names := [((".0" : Str), .local), (("name" : Str), .local), (("near" : Str), .free)], isGenerator := false, isCoroutine := false, more := [] }
def scp__law_parts_2 : Scope := { kind := .function, names := [((".0" : Str), .local), (("name" : Str), .local), (("near" : Str), .free)], isGenerator := false, isCoroutine := false, more := [] }
def scp__law_parts_3 : Scope := { kind := .function, names := [((".0" : Str), .local), (("claim" : Str), .local), (("lot" : Str), .free)], isGenerator := false, isCoroutine := false, more := [] }
def ce__law_parts_1 : M tz := (mvar 12)
def ct__law_parts_1 : MB tz := (asB (mop notinD (.v 12) (.v 6)))
def c__law_parts_1 : M tz := mlc [12] (iseq (mvar 3)) (gset 12) ct__law_parts_1 ce__law_parts_1
def ce__law_parts_2 : M tz := (mvar 12)
def ct__law_parts_2 : MB tz := (asB (mop inD (.v 12) (.v 6)))
def c__law_parts_2 : M tz := mlc [12] (iseq (mvar 1)) (gset 12) ct__law_parts_2 ce__law_parts_2
def lb__law_parts_1 : SM tz := (scons (sif (band (asB (mop inD (.v 8) (.v 6))) (asB (mop notinD (.v 9) (.v 6)))) (sdrop (mmut 6 uAppend (mcons (mvar 9) mnil))) snil)
    (sif (band (asB (mop inD (.v 9) (.v 6))) (asB (mop notinD (.v 8) (.v 6)))) (sdrop (mmut 6 uAppend (mcons (mvar 8) mnil))) snil))
def l__law_parts_1 : SM tz := sfor (iseq (mvar 2)) (gtup 3 (gcons (gset 8) (gcons (gset 9) (gcons (gset 10) gnil)))) lb__law_parts_1
def lb__law_parts_2 : SM tz := l__law_parts_1
def l__law_parts_2 : SM tz := sfor (irange1 (mcons (mfn len1 [(.v 1)]) mnil)) (gset 7) lb__law_parts_2
def lb__law_parts_3 : SM tz := (scons (sif (asB (mop eqD (.e (mfn len1 [(.v 3)])) (.e (mcst (.int 0))))) (sfl .bk) snil)
    (scons (ssetO 6 1 (mlst (mcons (mop idxD (.v 3) (.e (mcst (.int 0)))) mnil)))
    (scons l__law_parts_2
    (scons (sdrop (mmut 4 uAppend (mcons c__law_parts_2 mnil)))
    (sset 3 c__law_parts_1)))))
def l__law_parts_3 : SM tz := sfor (irange1 (mcons (mfn len1 [(.v 1)]) mnil)) (gset 5) lb__law_parts_3
def ce__law_parts_3 : M tz := (mvar 11)
def ct__law_parts_3 : MB tz := (band (asB (mop inD (.e (mop idxD (.v 11) (.e (mcst (.int 0))))) (.v 1))) (band (asB (mop inD (.e (mop idxD (.v 11) (.e (mcst (.int 1))))) (.v 1))) (asB (mop inD (.e (mop idxD (.v 11) (.e (mcst (.int 2))))) (.v 1)))))
def c__law_parts_3 : M tz := mlc [11] (iseq (mvar 0)) (gset 11) ct__law_parts_3 ce__law_parts_3
def m__law_parts : SM tz := (scons (sset 2 c__law_parts_3)
    (scons (spar [3, 4] [(0, (mfnL list1 [(.v 1)])), (1, (mlst mnil))])
    (scons l__law_parts_3
    (sret (mvar 4)))))
def f__law_parts : FnM tz := runFn 13 2 m__law_parts
theorem ok__law_parts {f : Addr} {fd : FuncData} (F : Fun K ("_law_parts" : Str) ("_law_parts" : Str) s__law_parts f fd) (T : Tx K mg)  : FnOk P w K mg base CX0 1 f fd [("claims" : Str), ("lot" : Str)] (spD tz 2 f__law_parts) :=
  fn_ok F sc__law_parts fun cdv A outer s H E hr => by
    exact (ib_cons (is_lc [(("claim" : Str), 11)] (i := 2) rfl sc__law_parts.nd rfl rfl (sw_true rfl rfl rfl (by decide +kernel)) (ii_seq (ie_var (pv 0))) (blkOk_by (N := N__law_parts) (sc := defScope s__law_parts) (scope := scp__law_parts_3) (own := [(("claim" : Str), 11)]) (by decide +kernel)) (fun _ _ _ _ _ => (ig_name (i := 11) sc__law_parts.nd rfl (Or.inl rfl))) (fun _ _ _ _ _ => (its_one (IsW.t (iw_and (it_cmp (op_inA hr) od_in (.e (ie_ix ix_seq od_idx (.v (pv 11)) (.e ie_int))) (.v (pv 1)) (by with_unfolding_all rfl)) (iw_and (it_cmp (op_inA hr) od_in (.e (ie_ix ix_seq od_idx (.v (pv 11)) (.e ie_int))) (.v (pv 1)) (by with_unfolding_all rfl)) (iw_and1 (it_cmp (op_inA hr) od_in (.e (ie_ix ix_seq od_idx (.v (pv 11)) (.e ie_int))) (.v (pv 1)) (by with_unfolding_all rfl)))))))) (fun _ _ _ _ _ => (ie_var (pv 11))))
    (ib_cons (is_par2 (i := 3) (j := 4) rfl sc__law_parts.nd rfl rfl (by decide) rfl rfl (os_cons (IsE.o (IsO.toE (io_ty call_list_of cn_list (by rfl) T.z_list PyProof.Rows.boot_list (ia_cons (.v (pv 1)) .nil)))) (os_cons (io_lst il_nil) os_nil)) rfl)
    (ib_cons (is_for PassesOwn.never rfl (ii_range1 (by rfl) T.z_range (il_cons (ie_blt call_len cd_len (by rfl) T.z_len PySem.boot_len (ia_cons (.v (pv 1)) .nil)) il_nil)) (ig_name (i := 5) sc__law_parts.nd rfl (Or.inl rfl)) (ib_cons (is_if (it_cmp (op_eqA hr) od_eq (.e (ie_blt call_len cd_len (by rfl) T.z_len PySem.boot_len (ia_cons (.v (pv 3)) .nil))) (.e ie_int) (nomark _)) (ib_one is_break) ib_nil)
    (ib_cons (is_setO (i := 6) sc__law_parts.nd rfl (Or.inr rfl) (io_lst (il_cons (ie_ix ix_seq od_idx (.v (pv 3)) (.e ie_int)) il_nil)))
    (ib_cons (is_for PassesOwn.never rfl (ii_range1 (by rfl) T.z_range (il_cons (ie_blt call_len cd_len (by rfl) T.z_len PySem.boot_len (ia_cons (.v (pv 1)) .nil)) il_nil)) (ig_name (i := 7) sc__law_parts.nd rfl (Or.inl rfl)) (ib_one (is_for PassesOwn.never rfl (ii_seq (ie_var (pv 2))) (ig_tup rfl (igs_cons (ig_name (i := 8) sc__law_parts.nd rfl (Or.inl rfl)) (igs_cons (ig_name (i := 9) sc__law_parts.nd rfl (Or.inl rfl)) (igs_cons (ig_name (i := 10) sc__law_parts.nd rfl (Or.inl rfl)) igs_nil)))) (ib_cons (is_if (IsW.t (iw_and (it_cmp (op_inA hr) od_in (.v (pv 8)) (.v (pv 6)) (by with_unfolding_all rfl)) (iw_and1 (it_cmp (op_notInA hr) od_notin (.v (pv 9)) (.v (pv 6)) (by with_unfolding_all rfl))))) (ib_one (is_drop (ie_mut PySem.F.slot_list_append PySem.F.type_list_append mt_append ud_append (pv 6) (il_cons (ie_var (pv 9)) il_nil)))) ib_nil)
    (ib_one (is_if (IsW.t (iw_and (it_cmp (op_inA hr) od_in (.v (pv 9)) (.v (pv 6)) (by with_unfolding_all rfl)) (iw_and1 (it_cmp (op_notInA hr) od_notin (.v (pv 8)) (.v (pv 6)) (by with_unfolding_all rfl))))) (ib_one (is_drop (ie_mut PySem.F.slot_list_append PySem.F.type_list_append mt_append ud_append (pv 6) (il_cons (ie_var (pv 8)) il_nil)))) ib_nil))))))
    (ib_cons (is_drop (ie_mut PySem.F.slot_list_append PySem.F.type_list_append mt_append ud_append (pv 4) (il_cons (IsO.toE (io_lc [(("name" : Str), 12)] rfl sc__law_parts.nd (ii_seq (ie_var (pv 1))) (blkOk_by (N := N__law_parts) (sc := defScope s__law_parts) (scope := scp__law_parts_2) (own := [(("name" : Str), 12)]) (by decide +kernel)) (fun _ _ _ _ _ => (ig_name (i := 12) sc__law_parts.nd rfl (Or.inl rfl))) (fun _ _ _ _ _ => (its_one (it_cmp (op_inA hr) od_in (.v (pv 12)) (.v (pv 6)) (by with_unfolding_all rfl)))) (fun _ _ _ _ _ => (ie_var (pv 12))))) il_nil)))
    (ib_one (is_lc [(("name" : Str), 12)] (i := 3) rfl sc__law_parts.nd rfl rfl (sw_true rfl rfl rfl (by decide +kernel)) (ii_seq (ie_var (pv 3))) (blkOk_by (N := N__law_parts) (sc := defScope s__law_parts) (scope := scp__law_parts_1) (own := [(("name" : Str), 12)]) (by decide +kernel)) (fun _ _ _ _ _ => (ig_name (i := 12) sc__law_parts.nd rfl (Or.inl rfl))) (fun _ _ _ _ _ => (its_one (it_cmp (op_notInA hr) od_notin (.v (pv 12)) (.v (pv 6)) (by with_unfolding_all rfl)))) (fun _ _ _ _ _ => (ie_var (pv 12))))))))))
    (ib_one (is_ret (ie_var (pv 4)))))))
/-! ### _law_meets -/
abbrev N__law_meets : List Str := [("families" : Str), ("claim" : Str), ("family" : Str)]
theorem sc__law_meets : FnScope N__law_meets [("families" : Str), ("claim" : Str)] (defScope s__law_meets) := ⟨rfl, rfl, rfl, by decide +kernel, rfl, by decide +kernel, by decide +kernel⟩
def scp__law_meets_1 : Scope := { kind := .function, names := [((".0" : Str), .local), (("family" : Str), .local), (("claim" : Str), .free)], isGenerator := false, isCoroutine := false, more := [] }
def ce__law_meets_1 : M tz := (mvar 2)
def ct__law_meets_1 : MB tz := (band (asB (mop inD (.e (mop idxD (.v 1) (.e (mcst (.int 0))))) (.v 2))) (band (asB (mop inD (.e (mop idxD (.v 1) (.e (mcst (.int 1))))) (.v 2))) (asB (mop notinD (.e (mop idxD (.v 1) (.e (mcst (.int 2))))) (.v 2)))))
def c__law_meets_1 : M tz := mlc [2] (iseq (mvar 0)) (gset 2) ct__law_meets_1 ce__law_meets_1
def m__law_meets : SM tz := (sret (mop gtD (.e (mfn len1 [(.e c__law_meets_1)])) (.e (mcst (.int 0)))))
def f__law_meets : FnM tz := runFn 3 2 m__law_meets
theorem ok__law_meets {f : Addr} {fd : FuncData} (F : Fun K ("_law_meets" : Str) ("_law_meets" : Str) s__law_meets f fd) (T : Tx K mg)  : FnOk P w K mg base CX0 1 f fd [("families" : Str), ("claim" : Str)] (spD tz 2 f__law_meets) :=
  fn_ok F sc__law_meets fun cdv A outer s H E hr => by
    exact (ib_one (is_ret (ie_cmp op_gtA od_gt (.e (ie_blt call_len cd_len (by rfl) T.z_len PySem.boot_len (ia_cons (.e (IsO.toE (io_lc [(("family" : Str), 2)] rfl sc__law_meets.nd (ii_seq (ie_var (pv 0))) (blkOk_by (N := N__law_meets) (sc := defScope s__law_meets) (scope := scp__law_meets_1) (own := [(("family" : Str), 2)]) (by decide +kernel)) (fun _ _ _ _ _ => (ig_name (i := 2) sc__law_meets.nd rfl (Or.inl rfl))) (fun _ _ _ _ _ => (its_one (IsW.t (iw_and (it_cmp (op_inA hr) od_in (.e (ie_ix ix_seq od_idx (.v (pv 1)) (.e ie_int))) (.v (pv 2)) (by with_unfolding_all rfl)) (iw_and (it_cmp (op_inA hr) od_in (.e (ie_ix ix_seq od_idx (.v (pv 1)) (.e ie_int))) (.v (pv 2)) (by with_unfolding_all rfl)) (iw_and1 (it_cmp (op_notInA hr) od_notin (.e (ie_ix ix_seq od_idx (.v (pv 1)) (.e ie_int))) (.v (pv 2)) (by with_unfolding_all rfl)))))))) (fun _ _ _ _ _ => (ie_var (pv 2)))))) .nil))) (.e ie_int) (nomark _))))
/-! ### _law_are_families -/
abbrev N__law_are_families : List Str := [("value" : Str), ("names" : Str), ("family" : Str), ("one" : Str), ("other" : Str), ("both" : Str), ("name" : Str)]
theorem sc__law_are_families : FnScope N__law_are_families [("value" : Str), ("names" : Str)] (defScope s__law_are_families) := ⟨rfl, rfl, rfl, by decide +kernel, rfl, by decide +kernel, by decide +kernel⟩
def scp__law_are_families_1 : Scope := { kind := .function, names := [((".0" : Str), .local), (("name" : Str), .local), (("other" : Str), .free)], isGenerator := false, isCoroutine := false, more := [] }
def scp__law_are_families_2 : Scope := { kind := .function, names := [((".0" : Str), .local), (("name" : Str), .local), (("family" : Str), .free)], isGenerator := false, isCoroutine := false, more := [] }
def ce__law_are_families_1 : M tz := (mvar 6)
def ct__law_are_families_1 : MB tz := (asB (mop inD (.v 6) (.v 4)))
def c__law_are_families_1 : M tz := mlc [6] (iseq (mvar 3)) (gset 6) ct__law_are_families_1 ce__law_are_families_1
def lb__law_are_families_1 : SM tz := (scons (sset 5 (mfn len1 [(.e c__law_are_families_1)]))
    (sif (band (asB (mop gtD (.v 5) (.e (mcst (.int 0))))) (band (asB (mop ltD (.v 5) (.e (mfn len1 [(.v 3)])))) (asB (mop ltD (.v 5) (.e (mfn len1 [(.v 4)])))))) (sret (mcst (.bl false))) snil))
def l__law_are_families_1 : SM tz := sfor (iseq (mvar 0)) (gset 4) lb__law_are_families_1
def lb__law_are_families_2 : SM tz := l__law_are_families_1
def l__law_are_families_2 : SM tz := sfor (iseq (mvar 0)) (gset 3) lb__law_are_families_2
def ce__law_are_families_2 : M tz := (mvar 6)
def ct__law_are_families_2 : MB tz := (asB (mop inD (.v 6) (.v 2)))
def c__law_are_families_2 : M tz := mlc [6] (iseq (mvar 1)) (gset 6) ct__law_are_families_2 ce__law_are_families_2
def lb__law_are_families_3 : SM tz := (sif (bor (bnot (asB (misinst "tuple" (.v 2)))) (bor (asB (mop eqD (.e (mfn len1 [(.v 2)])) (.e (mcst (.int 0))))) (asB (mop neD (.v 2) (.e (mfn tuple1 [(.e c__law_are_families_2)])))))) (sret (mcst (.bl false))) snil)
def l__law_are_families_3 : SM tz := sfor (iseq (mvar 0)) (gset 2) lb__law_are_families_3
def m__law_are_families : SM tz := (scons (sif (bnot (asB (misinst "tuple" (.v 0)))) (sret (mcst (.bl false))) snil)
    (scons l__law_are_families_3
    (scons l__law_are_families_2
    (sret (mcst (.bl true))))))
def f__law_are_families : FnM tz := runFn 7 2 m__law_are_families
theorem ok__law_are_families {f : Addr} {fd : FuncData} (F : Fun K ("_law_are_families" : Str) ("_law_are_families" : Str) s__law_are_families f fd) (T : Tx K mg)  : FnOk P w K mg base CX0 1 f fd [("value" : Str), ("names" : Str)] (spD tz 2 f__law_are_families) :=
  fn_ok F sc__law_are_families fun cdv A outer s H E hr => by
    exact (ib_cons (is_if (it_not (it_val (ie_isinst (by rfl) T.z_isinstance (by rfl) T.z_tuple (by decide +kernel) (.v (pv 0)) k_tuple))) (ib_one (is_ret ie_bl)) ib_nil)
    (ib_cons (is_for PassesOwn.never rfl (ii_seq (ie_var (pv 0))) (ig_name (i := 2) sc__law_are_families.nd rfl (Or.inr rfl)) (ib_one (is_if (IsW.t (iw_or (it_not (it_val (ie_isinst (by rfl) T.z_isinstance (by rfl) T.z_tuple (by decide +kernel) (.v (pv 2)) k_tuple))) (iw_or (it_cmp (op_eqA hr) od_eq (.e (ie_blt call_len cd_len (by rfl) T.z_len PySem.boot_len (ia_cons (.v (pv 2)) .nil))) (.e ie_int) (nomark _)) (iw_or1 (it_cmp (op_neA hr) od_ne (.v (pv 2)) (.e (ie_ty call_tuple_F cd_tuple (by rfl) T.z_tuple PyProof.Rows.boot_tuple (ia_cons (.e (IsO.toE (io_lc [(("name" : Str), 6)] rfl sc__law_are_families.nd (ii_seq (ie_var (pv 1))) (blkOk_by (N := N__law_are_families) (sc := defScope s__law_are_families) (scope := scp__law_are_families_2) (own := [(("name" : Str), 6)]) (by decide +kernel)) (fun _ _ _ _ _ => (ig_name (i := 6) sc__law_are_families.nd rfl (Or.inl rfl))) (fun _ _ _ _ _ => (its_one (it_cmp (op_inA hr) od_in (.v (pv 6)) (.v (pv 2)) (by with_unfolding_all rfl)))) (fun _ _ _ _ _ => (ie_var (pv 6)))))) .nil))) (nomark _)))))) (ib_one (is_ret ie_bl)) ib_nil)))
    (ib_cons (is_for PassesOwn.never rfl (ii_seq (ie_var (pv 0))) (ig_name (i := 3) sc__law_are_families.nd rfl (Or.inl rfl)) (ib_one (is_for PassesOwn.never rfl (ii_seq (ie_var (pv 0))) (ig_name (i := 4) sc__law_are_families.nd rfl (Or.inr rfl)) (ib_cons (is_set (i := 5) sc__law_are_families.nd rfl (Or.inl rfl) (ie_blt call_len cd_len (by rfl) T.z_len PySem.boot_len (ia_cons (.e (IsO.toE (io_lc [(("name" : Str), 6)] rfl sc__law_are_families.nd (ii_seq (ie_var (pv 3))) (blkOk_by (N := N__law_are_families) (sc := defScope s__law_are_families) (scope := scp__law_are_families_1) (own := [(("name" : Str), 6)]) (by decide +kernel)) (fun _ _ _ _ _ => (ig_name (i := 6) sc__law_are_families.nd rfl (Or.inl rfl))) (fun _ _ _ _ _ => (its_one (it_cmp (op_inA hr) od_in (.v (pv 6)) (.v (pv 4)) (by with_unfolding_all rfl)))) (fun _ _ _ _ _ => (ie_var (pv 6)))))) .nil)))
    (ib_one (is_if (IsW.t (iw_and (it_cmp op_gtA od_gt (.v (pv 5)) (.e ie_int) (nomark _)) (iw_and (it_cmp op_ltA od_lt (.v (pv 5)) (.e (ie_blt call_len cd_len (by rfl) T.z_len PySem.boot_len (ia_cons (.v (pv 3)) .nil))) (nomark _)) (iw_and1 (it_cmp op_ltA od_lt (.v (pv 5)) (.e (ie_blt call_len cd_len (by rfl) T.z_len PySem.boot_len (ia_cons (.v (pv 4)) .nil))) (nomark _)))))) (ib_one (is_ret ie_bl)) ib_nil))))))
    (ib_one (is_ret ie_bl)))))
/-! ### _law_is_lot -/
abbrev N__law_is_lot : List Str := [("value" : Str), ("names" : Str), ("name" : Str)]
theorem sc__law_is_lot : FnScope N__law_is_lot [("value" : Str), ("names" : Str)] (defScope s__law_is_lot) := ⟨rfl, rfl, rfl, by decide +kernel, rfl, by decide +kernel, by decide +kernel⟩
def scp__law_is_lot_1 : Scope := { kind := .function, names := [((".0" : Str), .local), (("name" : Str), .local), (("value" : Str), .free)], isGenerator := false, isCoroutine := false, more := [] }
def ce__law_is_lot_1 : M tz := (mvar 2)
def ct__law_is_lot_1 : MB tz := (asB (mop inD (.v 2) (.v 0)))
def c__law_is_lot_1 : M tz := mlc [2] (iseq (mvar 1)) (gset 2) ct__law_is_lot_1 ce__law_is_lot_1
def m__law_is_lot : SM tz := (sret (mand (misinst "tuple" (.v 0)) (mand (mop gtD (.e (mfn len1 [(.v 0)])) (.e (mcst (.int 0)))) (mop eqD (.v 0) (.e (mfn tuple1 [(.e c__law_is_lot_1)]))))))
def f__law_is_lot : FnM tz := runFn 3 2 m__law_is_lot
theorem ok__law_is_lot {f : Addr} {fd : FuncData} (F : Fun K ("_law_is_lot" : Str) ("_law_is_lot" : Str) s__law_is_lot f fd) (T : Tx K mg)  : FnOk P w K mg base CX0 1 f fd [("value" : Str), ("names" : Str)] (spD tz 2 f__law_is_lot) :=
  fn_ok F sc__law_is_lot fun cdv A outer s H E hr => by
    exact (ib_one (is_ret (ie_and (ie_isinst (by rfl) T.z_isinstance (by rfl) T.z_tuple (by decide +kernel) (.v (pv 0)) k_tuple) (ie_and (ie_cmp op_gtA od_gt (.e (ie_blt call_len cd_len (by rfl) T.z_len PySem.boot_len (ia_cons (.v (pv 0)) .nil))) (.e ie_int) (nomark _)) (ie_one (ie_cmp (op_eqA hr) od_eq (.v (pv 0)) (.e (ie_ty call_tuple_F cd_tuple (by rfl) T.z_tuple PyProof.Rows.boot_tuple (ia_cons (.e (IsO.toE (io_lc [(("name" : Str), 2)] rfl sc__law_is_lot.nd (ii_seq (ie_var (pv 1))) (blkOk_by (N := N__law_is_lot) (sc := defScope s__law_is_lot) (scope := scp__law_is_lot_1) (own := [(("name" : Str), 2)]) (by decide +kernel)) (fun _ _ _ _ _ => (ig_name (i := 2) sc__law_is_lot.nd rfl (Or.inl rfl))) (fun _ _ _ _ _ => (its_one (it_cmp (op_inA hr) od_in (.v (pv 2)) (.v (pv 0)) (by with_unfolding_all rfl)))) (fun _ _ _ _ _ => (ie_var (pv 2)))))) .nil))) (nomark _)))))))
/-! ### _law_says -/
abbrev N__law_says : List Str := [("told" : Str), ("due" : Str)]
theorem sc__law_says : FnScope N__law_says [("told" : Str), ("due" : Str)] (defScope s__law_says) := ⟨rfl, rfl, rfl, by decide +kernel, rfl, by decide +kernel, by decide +kernel⟩
def m__law_says : SM tz := (sret (mand (misinst "bool" (.v 0)) (mop eqD (.v 0) (.v 1))))
def f__law_says : FnM tz := runFn 2 2 m__law_says
theorem ok__law_says {f : Addr} {fd : FuncData} (F : Fun K ("_law_says" : Str) ("_law_says" : Str) s__law_says f fd) (T : Tx K mg)  : FnOk P w K mg base CX0 1 f fd [("told" : Str), ("due" : Str)] (spD tz 2 f__law_says) :=
  fn_ok F sc__law_says fun cdv A outer s H E hr => by
    exact (ib_one (is_ret (ie_and (ie_isinst (by rfl) T.z_isinstance (by rfl) T.z_bool (by decide +kernel) (.v (pv 0)) k_bool) (ie_one (ie_cmp (op_eqA hr) od_eq (.v (pv 0)) (.v (pv 1)) (nomark _))))))
/-! ### is_names -/
abbrev N_is_names : List Str := [("value" : Str), ("name" : Str)]
theorem sc_is_names : FnScope N_is_names [("value" : Str)] (defScope s_is_names) := ⟨rfl, rfl, rfl, by decide +kernel, rfl, by decide +kernel, by decide +kernel⟩
def scp_is_names_1 : Scope := { kind := .function, names := [((".0" : Str), .local), (("name" : Str), .local), (("is_siglum" : Str), .globalImplicit)], isGenerator := false, isCoroutine := false, more := [] }
def ce_is_names_1 : M tz := (mcall 1 f_is_siglum (mcons (mvar 1) mnil))
def c_is_names_1 : M tz := mlc [1] (iseq (mvar 0)) (gset 1) byes ce_is_names_1
def m_is_names : SM tz := (scons (sif (bor (bnot (asB (misinst "tuple" (.v 0)))) (bnot (asB (mchain leD leD (.e (mcst (.int 1))) (.e (mfn len1 [(.v 0)])) (.e (mcst (.int 40))))))) (sret (mcst (.bl false))) snil)
    (sret (mand (mfn all1 [(.e c_is_names_1)]) (mop eqD (.e (mlensetS (.v 0))) (.e (mfn len1 [(.v 0)]))))))
def f_is_names : FnM tz := runFn 2 1 m_is_names
theorem ok_is_names {f : Addr} {fd : FuncData} (F : Fun K ("is_names" : Str) ("is_names" : Str) s_is_names f fd) (T : Tx K mg) (g_is_siglum : FnAt tz P w K mg base 1 ("is_siglum" : Str) 1 f_is_siglum) : FnOk P w K mg base CX0 2 f fd [("value" : Str)] (spD tz 1 f_is_names) :=
  fn_ok F sc_is_names fun cdv A outer s H E hr => by
    have c_is_siglum := g_is_siglum.fn (A := A.deeper (PyProof.Rows.envOfC ("is_names" : Str) (defScope s_is_names) s.heap.objs.size f cdv)) hr (by decide)
    exact (ib_cons (is_if (IsW.t (iw_or (it_not (it_val (ie_isinst (by rfl) T.z_isinstance (by rfl) T.z_tuple (by decide +kernel) (.v (pv 0)) k_tuple))) (iw_or1 (it_not (it_chain op_leA od_le op_leA od_le (.e ie_int) (.e (ie_blt call_len cd_len (by rfl) T.z_len PySem.boot_len (ia_cons (.v (pv 0)) .nil))) (.e (ie_gint (by rfl) T.z_MOST_NAMES.choose_spec))))))) (ib_one (is_ret ie_bl)) ib_nil)
    (ib_one (is_ret (ie_and (ie_blt (cr_all rfl) cd_all (by rfl) T.z_all PyProof.Rows.boot_all (ia_cons (.e (IsO.toE (io_lc [(("name" : Str), 1)] rfl sc_is_names.nd (ii_seq (ie_var (pv 0))) (blkOk_by (N := N_is_names) (sc := defScope s_is_names) (scope := scp_is_names_1) (own := [(("name" : Str), 1)]) (by decide +kernel)) (fun _ _ _ _ _ => (ig_name (i := 1) sc_is_names.nd rfl (Or.inl rfl))) (fun _ _ _ _ _ => its_nil) (fun _ _ _ _ _ => (ie_call c_is_siglum (by rfl) (il_cons (ie_var (pv 1)) il_nil)))))) .nil)) (ie_one (ie_cmp (op_eqA hr) od_eq (.e (ie_lensetS (by rfl) T.z_len (by rfl) T.z_set (.v (pv 0)) rfl)) (.e (ie_blt call_len cd_len (by rfl) T.z_len PySem.boot_len (ia_cons (.v (pv 0)) .nil))) (nomark _)))))))
/-! ### parts -/
abbrev N_parts : List Str := [("claims" : Str), ("lot" : Str), ("pairs" : Str), ("left" : Str), ("found" : Str), ("near" : Str), ("changed" : Str), ("one" : Str), ("two" : Str), ("name" : Str)]
theorem sc_parts : FnScope N_parts [("claims" : Str), ("lot" : Str)] (defScope s_parts) := ⟨rfl, rfl, rfl, by decide +kernel, rfl, by decide +kernel, by decide +kernel⟩
def scp_parts_1 : Scope := { kind := .function, names := [((".0" : Str), .local), (("name" : Str), .local), (("near" : Str), .free)], isGenerator := false, isCoroutine := false, more := [] }
def ce_parts_1 : M tz := (mvar 9)
def ct_parts_1 : MB tz := (asB (mop notinD (.v 9) (.v 5)))
def c_parts_1 : M tz := mlc [9] (iseq (mvar 3)) (gset 9) ct_parts_1 ce_parts_1
def lb_parts_1 : SM tz := (sif (asB (mop neD (.e (mop inD (.v 7) (.v 5))) (.e (mop inD (.v 8) (.v 5))))) (scons (sdrop (mmut 5 uAppend (mcons (mite (asB (mop inD (.v 7) (.v 5))) (mvar 8) (mvar 7)) mnil)))
    (sset 6 (mcst (.bl true)))) snil)
def l_parts_1 : SM tz := sfor (iseq (mvar 2)) (gtup 2 (gcons (gset 7) (gcons (gset 8) gnil))) lb_parts_1
def wc_parts_1 : MB tz := (asB (mvar 6))
def wb_parts_1 : SM tz := (scons (sset 6 (mcst (.bl false)))
    l_parts_1)
def w_parts_1 : SM tz := whileL wc_parts_1 wb_parts_1 200
def wc_parts_2 : MB tz := (asB (mop gtD (.e (mfn len1 [(.v 3)])) (.e (mcst (.int 0)))))
def wb_parts_2 : SM tz := (scons (ssetO 5 1 (mlst (mcons (mop idxD (.v 3) (.e (mcst (.int 0)))) mnil)))
    (scons (sset 6 (mcst (.bl true)))
    (scons w_parts_1
    (scons (sdrop (mmut 4 uAppend (mcons (mcall 2 f_in_order (mcons (mvar 1) (mcons (mvar 5) mnil))) mnil)))
    (sset 3 c_parts_1)))))
def w_parts_2 : SM tz := whileL wc_parts_2 wb_parts_2 200
def m_parts : SM tz := (scons (sset 2 (mcall 2 f_ties (mcons (mvar 0) (mcons (mvar 1) mnil))))
    (scons (spar [3, 4] [(0, (mfnL list1 [(.v 1)])), (1, (mlst mnil))])
    (scons w_parts_2
    (sret (mvar 4)))))
def f_parts : FnM tz := runFn 10 2 m_parts
theorem ok_parts {f : Addr} {fd : FuncData} (F : Fun K ("parts" : Str) ("parts" : Str) s_parts f fd) (T : Tx K mg) (g_in_order : FnAt tz P w K mg base 1 ("in_order" : Str) 2 f_in_order) (g_ties : FnAt tz P w K mg base 1 ("ties" : Str) 2 f_ties) : FnOk P w K mg base CX0 2 f fd [("claims" : Str), ("lot" : Str)] (spD tz 2 f_parts) :=
  fn_ok F sc_parts fun cdv A outer s H E hr => by
    have c_in_order := g_in_order.fn (A := A.deeper (PyProof.Rows.envOfC ("parts" : Str) (defScope s_parts) s.heap.objs.size f cdv)) hr (by decide)
    have c_ties := g_ties.fn (A := A.deeper (PyProof.Rows.envOfC ("parts" : Str) (defScope s_parts) s.heap.objs.size f cdv)) hr (by decide)
    exact (ib_cons (is_set (i := 2) sc_parts.nd rfl (Or.inl rfl) (ie_call c_ties (by rfl) (il_cons (ie_var (pv 0)) (il_cons (ie_var (pv 1)) il_nil))))
    (ib_cons (is_par2 (i := 3) (j := 4) rfl sc_parts.nd rfl rfl (by decide) rfl rfl (os_cons (IsE.o (IsO.toE (io_ty call_list_of cn_list (by rfl) T.z_list PyProof.Rows.boot_list (ia_cons (.v (pv 1)) .nil)))) (os_cons (io_lst il_nil) os_nil)) rfl)
    (ib_cons (is_while 200 PassesOwn.never (it_cmp op_gtA od_gt (.e (ie_blt call_len cd_len (by rfl) T.z_len PySem.boot_len (ia_cons (.v (pv 3)) .nil))) (.e ie_int) (nomark _)) (ib_cons (is_setO (i := 5) sc_parts.nd rfl (Or.inr rfl) (io_lst (il_cons (ie_ix ix_seq od_idx (.v (pv 3)) (.e ie_int)) il_nil)))
    (ib_cons (is_set (i := 6) sc_parts.nd rfl (Or.inl rfl) ie_bl)
    (ib_cons (is_while 200 PassesOwn.never (it_val (ie_var (pv 6))) (ib_cons (is_set (i := 6) sc_parts.nd rfl (Or.inl rfl) ie_bl)
    (ib_one (is_for PassesOwn.never rfl (ii_seq (ie_var (pv 2))) (ig_tup rfl (igs_cons (ig_name (i := 7) sc_parts.nd rfl (Or.inl rfl)) (igs_cons (ig_name (i := 8) sc_parts.nd rfl (Or.inl rfl)) igs_nil))) (ib_one (is_if (it_cmp (op_neA hr) od_ne (.e (ie_cmp (op_inA hr) od_in (.v (pv 7)) (.v (pv 5)) (by with_unfolding_all rfl))) (.e (ie_cmp (op_inA hr) od_in (.v (pv 8)) (.v (pv 5)) (by with_unfolding_all rfl))) (nomark _)) (ib_cons (is_drop (ie_mut PySem.F.slot_list_append PySem.F.type_list_append mt_append ud_append (pv 5) (il_cons (ie_ite (it_cmp (op_inA hr) od_in (.v (pv 7)) (.v (pv 5)) (by with_unfolding_all rfl)) (ie_var (pv 8)) (ie_var (pv 7))) il_nil)))
    (ib_one (is_set (i := 6) sc_parts.nd rfl (Or.inl rfl) ie_bl))) ib_nil))))))
    (ib_cons (is_drop (ie_mut PySem.F.slot_list_append PySem.F.type_list_append mt_append ud_append (pv 4) (il_cons (ie_call c_in_order (by rfl) (il_cons (ie_var (pv 1)) (il_cons (ie_var (pv 5)) il_nil))) il_nil)))
    (ib_one (is_lc [(("name" : Str), 9)] (i := 3) rfl sc_parts.nd rfl rfl (sw_true rfl rfl rfl (by decide +kernel)) (ii_seq (ie_var (pv 3))) (blkOk_by (N := N_parts) (sc := defScope s_parts) (scope := scp_parts_1) (own := [(("name" : Str), 9)]) (by decide +kernel)) (fun _ _ _ _ _ => (ig_name (i := 9) sc_parts.nd rfl (Or.inl rfl))) (fun _ _ _ _ _ => (its_one (it_cmp (op_notInA hr) od_notin (.v (pv 9)) (.v (pv 5)) (by with_unfolding_all rfl)))) (fun _ _ _ _ _ => (ie_var (pv 9))))))))))
    (ib_one (is_ret (ie_var (pv 4)))))))
/-! ### claims_of -/
abbrev N_claims_of : List Str := [("names" : Str), ("families" : Str), ("found" : Str), ("i" : Str), ("j" : Str), ("third" : Str), ("claim" : Str)]
theorem sc_claims_of : FnScope N_claims_of [("names" : Str), ("families" : Str)] (defScope s_claims_of) := ⟨rfl, rfl, rfl, by decide +kernel, rfl, by decide +kernel, by decide +kernel⟩
def lb_claims_of_1 : SM tz := (scons (sset 6 (mtup (mcons (mop idxD (.v 0) (.v 3)) (mcons (mop idxD (.v 0) (.v 4)) (mcons (mvar 5) mnil)))))
    (sif (band (asB (mop notinD (.v 5) (.e (mslice sliceD (.v 6) onone (osome (mcst (.int 2))))))) (asB (mcall 2 f_meets (mcons (mvar 1) (mcons (mvar 6) mnil))))) (sdrop (mmut 2 uAppend (mcons (mvar 6) mnil))) snil))
def l_claims_of_1 : SM tz := sfor (iseq (mvar 0)) (gset 5) lb_claims_of_1
def lb_claims_of_2 : SM tz := l_claims_of_1
def l_claims_of_2 : SM tz := sfor (irange2 (mcons (mop addD (.v 3) (.e (mcst (.int 1)))) (mcons (mfn len1 [(.v 0)]) mnil))) (gset 4) lb_claims_of_2
def lb_claims_of_3 : SM tz := l_claims_of_2
def l_claims_of_3 : SM tz := sfor (irange1 (mcons (mfn len1 [(.v 0)]) mnil)) (gset 3) lb_claims_of_3
def m_claims_of : SM tz := (scons (ssetO 2 1 (mlst mnil))
    (scons l_claims_of_3
    (sret (mvar 2))))
def f_claims_of : FnM tz := runFn 7 2 m_claims_of
theorem ok_claims_of {f : Addr} {fd : FuncData} (F : Fun K ("claims_of" : Str) ("claims_of" : Str) s_claims_of f fd) (T : Tx K mg) (g_meets : FnAt tz P w K mg base 1 ("meets" : Str) 2 f_meets) : FnOk P w K mg base CX0 2 f fd [("names" : Str), ("families" : Str)] (spD tz 2 f_claims_of) :=
  fn_ok F sc_claims_of fun cdv A outer s H E hr => by
    have c_meets := g_meets.fn (A := A.deeper (PyProof.Rows.envOfC ("claims_of" : Str) (defScope s_claims_of) s.heap.objs.size f cdv)) hr (by decide)
    exact (ib_cons (is_setO (i := 2) sc_claims_of.nd rfl (Or.inl rfl) (io_lst il_nil))
    (ib_cons (is_for PassesOwn.never rfl (ii_range1 (by rfl) T.z_range (il_cons (ie_blt call_len cd_len (by rfl) T.z_len PySem.boot_len (ia_cons (.v (pv 0)) .nil)) il_nil)) (ig_name (i := 3) sc_claims_of.nd rfl (Or.inl rfl)) (ib_one (is_for PassesOwn.never rfl (ii_range2 (by rfl) T.z_range (il_cons (ie_op op_addAll od_add (.v (pv 3)) (.e ie_int)) (il_cons (ie_blt call_len cd_len (by rfl) T.z_len PySem.boot_len (ia_cons (.v (pv 0)) .nil)) il_nil))) (ig_name (i := 4) sc_claims_of.nd rfl (Or.inl rfl)) (ib_one (is_for PassesOwn.never rfl (ii_seq (ie_var (pv 0))) (ig_name (i := 5) sc_claims_of.nd rfl (Or.inl rfl)) (ib_cons (is_set (i := 6) sc_claims_of.nd rfl (Or.inl rfl) (ie_tup (il_cons (ie_ix ix_seq od_idx (.v (pv 0)) (.v (pv 3))) (il_cons (ie_ix ix_seq od_idx (.v (pv 0)) (.v (pv 4))) (il_cons (ie_var (pv 5)) il_nil)))))
    (ib_one (is_if (IsW.t (iw_and (it_cmp (op_notInA hr) od_notin (.v (pv 5)) (.e (ie_slice sl_all sd_all (.v (pv 6)) ip_none (ip_some ie_int))) (by with_unfolding_all rfl)) (iw_and1 (it_val (ie_call c_meets (by rfl) (il_cons (ie_var (pv 1)) (il_cons (ie_var (pv 6)) il_nil))))))) (ib_one (is_drop (ie_mut PySem.F.slot_list_append PySem.F.type_list_append mt_append ud_append (pv 2) (il_cons (ie_var (pv 6)) il_nil)))) ib_nil))))))))
    (ib_one (is_ret (ie_var (pv 2))))))
/-! ### _law_pick -/
abbrev N__law_pick : List Str := [("state" : Str), ("row" : Str)]
theorem sc__law_pick : FnScope N__law_pick [("state" : Str), ("row" : Str)] (defScope s__law_pick) := ⟨rfl, rfl, rfl, by decide +kernel, rfl, by decide +kernel, by decide +kernel⟩
def m__law_pick : SM tz := (sret (mop idxD (.v 1) (.e (mcall 2 f__law_take (mcons (mvar 0) (mcons (mfn len1 [(.v 1)]) mnil))))))
def f__law_pick : FnM tz := runFn 2 2 m__law_pick
theorem ok__law_pick {f : Addr} {fd : FuncData} (F : Fun K ("_law_pick" : Str) ("_law_pick" : Str) s__law_pick f fd) (T : Tx K mg) (g__law_take : FnAt tz P w K mg base 1 ("_law_take" : Str) 2 f__law_take) : FnOk P w K mg base CX0 2 f fd [("state" : Str), ("row" : Str)] (spD tz 2 f__law_pick) :=
  fn_ok F sc__law_pick fun cdv A outer s H E hr => by
    have c__law_take := g__law_take.fn (A := A.deeper (PyProof.Rows.envOfC ("_law_pick" : Str) (defScope s__law_pick) s.heap.objs.size f cdv)) hr (by decide)
    exact (ib_one (is_ret (ie_ix ix_seq od_idx (.v (pv 1)) (.e (ie_call c__law_take (by rfl) (il_cons (ie_var (pv 0)) (il_cons (ie_blt call_len cd_len (by rfl) T.z_len PySem.boot_len (ia_cons (.v (pv 1)) .nil)) il_nil)))))))
/-! ### _law_is_tied -/
abbrev N__law_is_tied : List Str := [("value" : Str), ("names" : Str), ("claims" : Str)]
theorem sc__law_is_tied : FnScope N__law_is_tied [("value" : Str), ("names" : Str), ("claims" : Str)] (defScope s__law_is_tied) := ⟨rfl, rfl, rfl, by decide +kernel, rfl, by decide +kernel, by decide +kernel⟩
def m__law_is_tied : SM tz := (sret (mand (mcall 2 f__law_is_lot (mcons (mvar 0) (mcons (mvar 1) mnil))) (mand (mop gtD (.e (mfn len1 [(.v 0)])) (.e (mcst (.int 1)))) (mop eqD (.e (mfn len1 [(.e (mcall 2 f__law_parts (mcons (mvar 2) (mcons (mvar 0) mnil))))])) (.e (mcst (.int 1)))))))
def f__law_is_tied : FnM tz := runFn 3 3 m__law_is_tied
theorem ok__law_is_tied {f : Addr} {fd : FuncData} (F : Fun K ("_law_is_tied" : Str) ("_law_is_tied" : Str) s__law_is_tied f fd) (T : Tx K mg) (g__law_parts : FnAt tz P w K mg base 1 ("_law_parts" : Str) 2 f__law_parts) (g__law_is_lot : FnAt tz P w K mg base 1 ("_law_is_lot" : Str) 2 f__law_is_lot) : FnOk P w K mg base CX0 2 f fd [("value" : Str), ("names" : Str), ("claims" : Str)] (spD tz 3 f__law_is_tied) :=
  fn_ok F sc__law_is_tied fun cdv A outer s H E hr => by
    have c__law_parts := g__law_parts.fn (A := A.deeper (PyProof.Rows.envOfC ("_law_is_tied" : Str) (defScope s__law_is_tied) s.heap.objs.size f cdv)) hr (by decide)
    have c__law_is_lot := g__law_is_lot.fn (A := A.deeper (PyProof.Rows.envOfC ("_law_is_tied" : Str) (defScope s__law_is_tied) s.heap.objs.size f cdv)) hr (by decide)
    exact (ib_one (is_ret (ie_and (ie_call c__law_is_lot (by rfl) (il_cons (ie_var (pv 0)) (il_cons (ie_var (pv 1)) il_nil))) (ie_and (ie_cmp op_gtA od_gt (.e (ie_blt call_len cd_len (by rfl) T.z_len PySem.boot_len (ia_cons (.v (pv 0)) .nil))) (.e ie_int) (nomark _)) (ie_one (ie_cmp (op_eqA hr) od_eq (.e (ie_blt call_len cd_len (by rfl) T.z_len PySem.boot_len (ia_cons (.e (ie_call c__law_parts (by rfl) (il_cons (ie_var (pv 2)) (il_cons (ie_var (pv 0)) il_nil)))) .nil))) (.e ie_int) (nomark _)))))))
/-! ### _law_claim -/
abbrev N__law_claim : List Str := [("state" : Str), ("names" : Str), ("left" : Str), ("k" : Str)]
theorem sc__law_claim : FnScope N__law_claim [("state" : Str), ("names" : Str)] (defScope s__law_claim) := ⟨rfl, rfl, rfl, by decide +kernel, rfl, by decide +kernel, by decide +kernel⟩
def scp__law_claim_1 : Scope := { kind := .function, names := [((".0" : Str), .local), (("k" : Str), .local), (("_law_take" : Str), .globalImplicit), (("len" : Str), .globalImplicit), (("left" : Str), .free), (("state" : Str), .free)], isGenerator := false, isCoroutine := false, more := [] }
def ce__law_claim_1 : M tz := (mmut 2 uPopAt (mcons (mcall 2 f__law_take (mcons (mvar 0) (mcons (mfn len1 [(.v 2)]) mnil))) mnil))
def c__law_claim_1 : M tz := mlc [3] (irange1 (mcons (mcst (.int 3)) mnil)) (gset 3) byes ce__law_claim_1
def m__law_claim : SM tz := (scons (ssetO 2 1 (mfnL list1 [(.v 1)]))
    (sret (mfn tuple1 [(.e c__law_claim_1)])))
def f__law_claim : FnM tz := runFn 4 2 m__law_claim
theorem ok__law_claim {f : Addr} {fd : FuncData} (F : Fun K ("_law_claim" : Str) ("_law_claim" : Str) s__law_claim f fd) (T : Tx K mg) (g__law_take : FnAt tz P w K mg base 1 ("_law_take" : Str) 2 f__law_take) : FnOk P w K mg base CX0 2 f fd [("state" : Str), ("names" : Str)] (spD tz 2 f__law_claim) :=
  fn_ok F sc__law_claim fun cdv A outer s H E hr => by
    have c__law_take := g__law_take.fn (A := A.deeper (PyProof.Rows.envOfC ("_law_claim" : Str) (defScope s__law_claim) s.heap.objs.size f cdv)) hr (by decide)
    exact (ib_cons (is_setO (i := 2) sc__law_claim.nd rfl (Or.inr rfl) (io_ty call_list_of cn_list (by rfl) T.z_list PyProof.Rows.boot_list (ia_cons (.v (pv 1)) .nil)))
    (ib_one (is_ret (ie_ty call_tuple_F cd_tuple (by rfl) T.z_tuple PyProof.Rows.boot_tuple (ia_cons (.e (IsO.toE (io_lc [(("k" : Str), 3)] rfl sc__law_claim.nd (ii_range1 (by rfl) T.z_range (il_cons ie_int il_nil)) (blkOk_by (N := N__law_claim) (sc := defScope s__law_claim) (scope := scp__law_claim_1) (own := [(("k" : Str), 3)]) (by decide +kernel)) (fun _ _ _ _ _ => (ig_name (i := 3) sc__law_claim.nd rfl (Or.inl rfl))) (fun _ _ _ _ _ => its_nil) (fun _ _ _ _ _ => (ie_mut PySem.F.slot_list_pop PySem.F.type_list_pop mt_popAt ud_popAt (pv 2) (il_cons (ie_call c__law_take (by rfl) (il_cons (ie_var (pv 0)) (il_cons (ie_blt call_len cd_len (by rfl) T.z_len PySem.boot_len (ia_cons (.v (pv 2)) .nil)) il_nil))) il_nil)))))) .nil)))))
/-! ### _law_made -/
abbrev N__law_made : List Str := [("names" : Str), ("claims" : Str), ("families" : Str), ("waiting" : Str), ("turn" : Str), ("lot" : Str), ("found" : Str), ("part" : Str)]
theorem sc__law_made : FnScope N__law_made [("names" : Str), ("claims" : Str)] (defScope s__law_made) := ⟨rfl, rfl, rfl, by decide +kernel, rfl, by decide +kernel, by decide +kernel⟩
def lb__law_made_1 : SM tz := (sif (asB (mop gtD (.e (mfn len1 [(.v 7)])) (.e (mcst (.int 1))))) (scons (sdrop (mmut 2 uAppend (mcons (mfn tuple1 [(.v 7)]) mnil)))
    (sdrop (mmut 3 uAppend (mcons (mfn tuple1 [(.v 7)]) mnil)))) snil)
def l__law_made_1 : SM tz := sfor (iseq (mvar 6)) (gset 7) lb__law_made_1
def lb__law_made_2 : SM tz := (scons (sif (asB (mop eqD (.e (mfn len1 [(.v 3)])) (.e (mcst (.int 0))))) (sfl .bk) snil)
    (scons (sset 5 (mmut 3 uPop mnil))
    (scons (sset 6 (mcall 2 f__law_parts (mcons (mvar 1) (mcons (mvar 5) mnil))))
    (scons (sif (band (asB (mop eqD (.e (mfn len1 [(.v 6)])) (.e (mcst (.int 1))))) (asB (mop gtD (.e (mfn len1 [(.v 5)])) (.e (mcst (.int 1)))))) (sret (mtup (mcons (mcst (.str "tied")) (mcons (mvar 5) mnil)))) snil)
    l__law_made_1))))
def l__law_made_2 : SM tz := sfor (irange1 (mcons (mcst (.int 100)) mnil)) (gset 4) lb__law_made_2
def m__law_made : SM tz := (scons (spar [2, 3] [(1, (mlst mnil)), (1, (mlst (mcons (mfn tuple1 [(.v 0)]) mnil)))])
    (scons l__law_made_2
    (sret (mtup (mcons (mcst (.str "families")) (mcons (mfn tuple1 [(.v 2)]) mnil))))))
def f__law_made : FnM tz := runFn 8 2 m__law_made
theorem ok__law_made {f : Addr} {fd : FuncData} (F : Fun K ("_law_made" : Str) ("_law_made" : Str) s__law_made f fd) (T : Tx K mg) (g__law_parts : FnAt tz P w K mg base 1 ("_law_parts" : Str) 2 f__law_parts) : FnOk P w K mg base CX0 2 f fd [("names" : Str), ("claims" : Str)] (spD tz 2 f__law_made) :=
  fn_ok F sc__law_made fun cdv A outer s H E hr => by
    have c__law_parts := g__law_parts.fn (A := A.deeper (PyProof.Rows.envOfC ("_law_made" : Str) (defScope s__law_made) s.heap.objs.size f cdv)) hr (by decide)
    exact (ib_cons (is_par2 (i := 2) (j := 3) rfl sc__law_made.nd rfl rfl (by decide) rfl rfl (os_cons (io_lst il_nil) (os_cons (io_lst (il_cons (ie_ty call_tuple_F cd_tuple (by rfl) T.z_tuple PyProof.Rows.boot_tuple (ia_cons (.v (pv 0)) .nil)) il_nil)) os_nil)) rfl)
    (ib_cons (is_for PassesOwn.never rfl (ii_range1 (by rfl) T.z_range (il_cons ie_int il_nil)) (ig_name (i := 4) sc__law_made.nd rfl (Or.inl rfl)) (ib_cons (is_if (it_cmp (op_eqA hr) od_eq (.e (ie_blt call_len cd_len (by rfl) T.z_len PySem.boot_len (ia_cons (.v (pv 3)) .nil))) (.e ie_int) (nomark _)) (ib_one is_break) ib_nil)
    (ib_cons (is_set (i := 5) sc__law_made.nd rfl (Or.inl rfl) (ie_mut0 PySem.F.slot_list_pop PySem.F.type_list_pop mt_pop ud_pop (pv 3)))
    (ib_cons (is_set (i := 6) sc__law_made.nd rfl (Or.inl rfl) (ie_call c__law_parts (by rfl) (il_cons (ie_var (pv 1)) (il_cons (ie_var (pv 5)) il_nil))))
    (ib_cons (is_if (IsW.t (iw_and (it_cmp (op_eqA hr) od_eq (.e (ie_blt call_len cd_len (by rfl) T.z_len PySem.boot_len (ia_cons (.v (pv 6)) .nil))) (.e ie_int) (nomark _)) (iw_and1 (it_cmp op_gtA od_gt (.e (ie_blt call_len cd_len (by rfl) T.z_len PySem.boot_len (ia_cons (.v (pv 5)) .nil))) (.e ie_int) (nomark _))))) (ib_one (is_ret (ie_tup (il_cons ie_str (il_cons (ie_var (pv 5)) il_nil))))) ib_nil)
    (ib_one (is_for PassesOwn.never rfl (ii_seq (ie_var (pv 6))) (ig_name (i := 7) sc__law_made.nd rfl (Or.inl rfl)) (ib_one (is_if (it_cmp op_gtA od_gt (.e (ie_blt call_len cd_len (by rfl) T.z_len PySem.boot_len (ia_cons (.v (pv 7)) .nil))) (.e ie_int) (nomark _)) (ib_cons (is_drop (ie_mut PySem.F.slot_list_append PySem.F.type_list_append mt_append ud_append (pv 2) (il_cons (ie_ty call_tuple_F cd_tuple (by rfl) T.z_tuple PyProof.Rows.boot_tuple (ia_cons (.v (pv 7)) .nil)) il_nil)))
    (ib_one (is_drop (ie_mut PySem.F.slot_list_append PySem.F.type_list_append mt_append ud_append (pv 3) (il_cons (ie_ty call_tuple_F cd_tuple (by rfl) T.z_tuple PyProof.Rows.boot_tuple (ia_cons (.v (pv 7)) .nil)) il_nil))))) ib_nil)))))))))
    (ib_one (is_ret (ie_tup (il_cons ie_str (il_cons (ie_ty call_tuple_F cd_tuple (by rfl) T.z_tuple PyProof.Rows.boot_tuple (ia_cons (.v (pv 2)) .nil)) il_nil)))))))
/-! ### is_claim -/
abbrev N_is_claim : List Str := [("value" : Str), ("names" : Str), ("name" : Str)]
theorem sc_is_claim : FnScope N_is_claim [("value" : Str), ("names" : Str)] (defScope s_is_claim) := ⟨rfl, rfl, rfl, by decide +kernel, rfl, by decide +kernel, by decide +kernel⟩
def scp_is_claim_1 : Scope := { kind := .function, names := [((".0" : Str), .local), (("name" : Str), .local), (("names" : Str), .free)], isGenerator := false, isCoroutine := false, more := [] }
def ce_is_claim_1 : M tz := (mop inD (.v 2) (.v 1))
def c_is_claim_1 : M tz := mlc [2] (iseq (mvar 0)) (gset 2) byes ce_is_claim_1
def m_is_claim : SM tz := (sret (mand (mcall 1 f_is_names (mcons (mvar 0) mnil)) (mand (mop eqD (.e (mfn len1 [(.v 0)])) (.e (mcst (.int 3)))) (mfn all1 [(.e c_is_claim_1)]))))
def f_is_claim : FnM tz := runFn 3 2 m_is_claim
theorem ok_is_claim {f : Addr} {fd : FuncData} (F : Fun K ("is_claim" : Str) ("is_claim" : Str) s_is_claim f fd) (T : Tx K mg) (g_is_names : FnAt tz P w K mg base 2 ("is_names" : Str) 1 f_is_names) : FnOk P w K mg base CX0 3 f fd [("value" : Str), ("names" : Str)] (spD tz 2 f_is_claim) :=
  fn_ok F sc_is_claim fun cdv A outer s H E hr => by
    have c_is_names := g_is_names.fn (A := A.deeper (PyProof.Rows.envOfC ("is_claim" : Str) (defScope s_is_claim) s.heap.objs.size f cdv)) hr (by decide)
    exact (ib_one (is_ret (ie_and (ie_call c_is_names (by rfl) (il_cons (ie_var (pv 0)) il_nil)) (ie_and (ie_cmp (op_eqA hr) od_eq (.e (ie_blt call_len cd_len (by rfl) T.z_len PySem.boot_len (ia_cons (.v (pv 0)) .nil))) (.e ie_int) (nomark _)) (ie_one (ie_blt (cr_all rfl) cd_all (by rfl) T.z_all PyProof.Rows.boot_all (ia_cons (.e (IsO.toE (io_lc [(("name" : Str), 2)] rfl sc_is_claim.nd (ii_seq (ie_var (pv 0))) (blkOk_by (N := N_is_claim) (sc := defScope s_is_claim) (scope := scp_is_claim_1) (own := [(("name" : Str), 2)]) (by decide +kernel)) (fun _ _ _ _ _ => (ig_name (i := 2) sc_is_claim.nd rfl (Or.inl rfl))) (fun _ _ _ _ _ => its_nil) (fun _ _ _ _ _ => (ie_cmp (op_inA hr) od_in (.v (pv 2)) (.v (pv 1)) (by with_unfolding_all rfl)))))) .nil)))))))
/-! ### is_lot -/
abbrev N_is_lot : List Str := [("value" : Str), ("names" : Str)]
theorem sc_is_lot : FnScope N_is_lot [("value" : Str), ("names" : Str)] (defScope s_is_lot) := ⟨rfl, rfl, rfl, by decide +kernel, rfl, by decide +kernel, by decide +kernel⟩
def m_is_lot : SM tz := (sret (mand (mcall 1 f_is_names (mcons (mvar 0) mnil)) (mop eqD (.v 0) (.e (mcall 2 f_in_order (mcons (mvar 1) (mcons (mvar 0) mnil)))))))
def f_is_lot : FnM tz := runFn 2 2 m_is_lot
theorem ok_is_lot {f : Addr} {fd : FuncData} (F : Fun K ("is_lot" : Str) ("is_lot" : Str) s_is_lot f fd) (T : Tx K mg) (g_in_order : FnAt tz P w K mg base 1 ("in_order" : Str) 2 f_in_order) (g_is_names : FnAt tz P w K mg base 2 ("is_names" : Str) 1 f_is_names) : FnOk P w K mg base CX0 3 f fd [("value" : Str), ("names" : Str)] (spD tz 2 f_is_lot) :=
  fn_ok F sc_is_lot fun cdv A outer s H E hr => by
    have c_in_order := g_in_order.fn (A := A.deeper (PyProof.Rows.envOfC ("is_lot" : Str) (defScope s_is_lot) s.heap.objs.size f cdv)) hr (by decide)
    have c_is_names := g_is_names.fn (A := A.deeper (PyProof.Rows.envOfC ("is_lot" : Str) (defScope s_is_lot) s.heap.objs.size f cdv)) hr (by decide)
    exact (ib_one (is_ret (ie_and (ie_call c_is_names (by rfl) (il_cons (ie_var (pv 0)) il_nil)) (ie_one (ie_cmp (op_eqA hr) od_eq (.v (pv 0)) (.e (ie_call c_in_order (by rfl) (il_cons (ie_var (pv 1)) (il_cons (ie_var (pv 0)) il_nil)))) (nomark _))))))
/-! ### _law_due -/
abbrev N__law_due : List Str := [("names" : Str), ("claims" : Str), ("value" : Str), ("claim" : Str)]
theorem sc__law_due : FnScope N__law_due [("names" : Str), ("claims" : Str), ("value" : Str)] (defScope s__law_due) := ⟨rfl, rfl, rfl, by decide +kernel, rfl, by decide +kernel, by decide +kernel⟩
def scp__law_due_1 : Scope := { kind := .function, names := [((".0" : Str), .local), (("claim" : Str), .local), (("_law_meets" : Str), .globalImplicit), (("value" : Str), .free)], isGenerator := false, isCoroutine := false, more := [] }
def ce__law_due_1 : M tz := (mvar 3)
def ct__law_due_1 : MB tz := (bnot (asB (mcall 2 f__law_meets (mcons (mop idxD (.v 2) (.e (mcst (.int 1)))) (mcons (mvar 3) mnil)))))
def c__law_due_1 : M tz := mlc [3] (iseq (mvar 1)) (gset 3) ct__law_due_1 ce__law_due_1
def m__law_due : SM tz := (scons (sif (bor (bnot (asB (misinst "tuple" (.v 2)))) (asB (mop neD (.e (mfn len1 [(.v 2)])) (.e (mcst (.int 2)))))) (sret (mcst (.bl false))) snil)
    (scons (sif (asB (mop eqD (.e (mop idxD (.v 2) (.e (mcst (.int 0))))) (.e (mcst (.str "tied"))))) (sret (mcall 3 f__law_is_tied (mcons (mop idxD (.v 2) (.e (mcst (.int 1)))) (mcons (mvar 0) (mcons (mvar 1) mnil))))) snil)
    (scons (sif (bor (asB (mop neD (.e (mop idxD (.v 2) (.e (mcst (.int 0))))) (.e (mcst (.str "families"))))) (bnot (asB (mcall 2 f__law_are_families (mcons (mop idxD (.v 2) (.e (mcst (.int 1)))) (mcons (mvar 0) mnil)))))) (sret (mcst (.bl false))) snil)
    (sret (mop eqD (.e (mfn len1 [(.e c__law_due_1)])) (.e (mcst (.int 0))))))))
def f__law_due : FnM tz := runFn 4 3 m__law_due
theorem ok__law_due {f : Addr} {fd : FuncData} (F : Fun K ("_law_due" : Str) ("_law_due" : Str) s__law_due f fd) (T : Tx K mg) (g__law_meets : FnAt tz P w K mg base 1 ("_law_meets" : Str) 2 f__law_meets) (g__law_are_families : FnAt tz P w K mg base 1 ("_law_are_families" : Str) 2 f__law_are_families) (g__law_is_tied : FnAt tz P w K mg base 2 ("_law_is_tied" : Str) 3 f__law_is_tied) : FnOk P w K mg base CX0 3 f fd [("names" : Str), ("claims" : Str), ("value" : Str)] (spD tz 3 f__law_due) :=
  fn_ok F sc__law_due fun cdv A outer s H E hr => by
    have c__law_meets := g__law_meets.fn (A := A.deeper (PyProof.Rows.envOfC ("_law_due" : Str) (defScope s__law_due) s.heap.objs.size f cdv)) hr (by decide)
    have c__law_are_families := g__law_are_families.fn (A := A.deeper (PyProof.Rows.envOfC ("_law_due" : Str) (defScope s__law_due) s.heap.objs.size f cdv)) hr (by decide)
    have c__law_is_tied := g__law_is_tied.fn (A := A.deeper (PyProof.Rows.envOfC ("_law_due" : Str) (defScope s__law_due) s.heap.objs.size f cdv)) hr (by decide)
    exact (ib_cons (is_if (IsW.t (iw_or (it_not (it_val (ie_isinst (by rfl) T.z_isinstance (by rfl) T.z_tuple (by decide +kernel) (.v (pv 2)) k_tuple))) (iw_or1 (it_cmp (op_neA hr) od_ne (.e (ie_blt call_len cd_len (by rfl) T.z_len PySem.boot_len (ia_cons (.v (pv 2)) .nil))) (.e ie_int) (nomark _))))) (ib_one (is_ret ie_bl)) ib_nil)
    (ib_cons (is_if (it_cmp (op_eqA hr) od_eq (.e (ie_ix ix_seq od_idx (.v (pv 2)) (.e ie_int))) (.e ie_str) (nomark _)) (ib_one (is_ret (ie_call c__law_is_tied (by rfl) (il_cons (ie_ix ix_seq od_idx (.v (pv 2)) (.e ie_int)) (il_cons (ie_var (pv 0)) (il_cons (ie_var (pv 1)) il_nil)))))) ib_nil)
    (ib_cons (is_if (IsW.t (iw_or (it_cmp (op_neA hr) od_ne (.e (ie_ix ix_seq od_idx (.v (pv 2)) (.e ie_int))) (.e ie_str) (nomark _)) (iw_or1 (it_not (it_val (ie_call c__law_are_families (by rfl) (il_cons (ie_ix ix_seq od_idx (.v (pv 2)) (.e ie_int)) (il_cons (ie_var (pv 0)) il_nil)))))))) (ib_one (is_ret ie_bl)) ib_nil)
    (ib_one (is_ret (ie_cmp (op_eqA hr) od_eq (.e (ie_blt call_len cd_len (by rfl) T.z_len PySem.boot_len (ia_cons (.e (IsO.toE (io_lc [(("claim" : Str), 3)] rfl sc__law_due.nd (ii_seq (ie_var (pv 1))) (blkOk_by (N := N__law_due) (sc := defScope s__law_due) (scope := scp__law_due_1) (own := [(("claim" : Str), 3)]) (by decide +kernel)) (fun _ _ _ _ _ => (ig_name (i := 3) sc__law_due.nd rfl (Or.inl rfl))) (fun _ _ _ _ _ => (its_one (it_not (it_val (ie_call c__law_meets (by rfl) (il_cons (ie_ix ix_seq od_idx (.v (pv 2)) (.e ie_int)) (il_cons (ie_var (pv 3)) il_nil))))))) (fun _ _ _ _ _ => (ie_var (pv 3)))))) .nil))) (.e ie_int) (nomark _)))))))
/-! ### _law_bent -/
abbrev N__law_bent : List Str := [("state" : Str), ("names" : Str), ("value" : Str), ("row" : Str), ("at" : Str), ("one" : Str), ("kind" : Str), ("lot" : Str), ("name" : Str)]
theorem sc__law_bent : FnScope N__law_bent [("state" : Str), ("names" : Str), ("value" : Str)] (defScope s__law_bent) := ⟨rfl, rfl, rfl, by decide +kernel, rfl, by decide +kernel, by decide +kernel⟩
def scp__law_bent_1 : Scope := { kind := .function, names := [((".0" : Str), .local), (("name" : Str), .local), (("_law_take" : Str), .globalImplicit), (("state" : Str), .free)], isGenerator := false, isCoroutine := false, more := [] }
def scp__law_bent_2 : Scope := { kind := .function, names := [((".0" : Str), .local), (("name" : Str), .local), (("lot" : Str), .free), (("one" : Str), .free)], isGenerator := false, isCoroutine := false, more := [] }
def ce__law_bent_1 : M tz := (mvar 8)
def ct__law_bent_1 : MB tz := (asB (mop gtD (.e (mcall 2 f__law_take (mcons (mvar 0) (mcons (mcst (.int 3)) mnil)))) (.e (mcst (.int 0)))))
def c__law_bent_1 : M tz := mlc [8] (iseq (mvar 1)) (gset 8) ct__law_bent_1 ce__law_bent_1
def ce__law_bent_2 : M tz := (mvar 8)
def ct__law_bent_2 : MB tz := (bor (asB (mop inD (.v 8) (.v 7))) (asB (mop eqD (.v 8) (.v 5))))
def c__law_bent_2 : M tz := mlc [8] (iseq (mvar 1)) (gset 8) ct__law_bent_2 ce__law_bent_2
def m__law_bent : SM tz := (scons (sset 3 (mop idxD (.v 2) (.e (mcst (.int 1)))))
    (scons (sif (asB (mop eqD (.e (mfn len1 [(.v 3)])) (.e (mcst (.int 0))))) (sret (mcall 2 f__law_pick (mcons (mvar 0) (mcons (mlst (mcons (mtup (mcons (mcst (.str "families")) (mcons (mtup (mcons (mvar 1) mnil)) mnil))) (mcons (mtup (mcons (mcst (.str "families")) (mcons (mtup (mcons (mslice sliceD (.v 1) onone (osome (mcst (.int 1)))) mnil)) mnil))) (mcons (mtup (mcons (mcst (.str "tied")) (mcons (mvar 1) mnil))) (mcons (mtup (mcons (mcst (.str "families")) (mcons (mtup (mcons (mtup mnil) mnil)) mnil))) (mcons (mtup (mcons (mcst (.str "tied")) (mcons (mtup mnil) mnil))) (mcons (mtup (mcons (mcst (.str "families")) (mcons (mcst .non) mnil))) mnil))))))) mnil)))) snil)
    (scons (sset 4 (mcall 2 f__law_take (mcons (mvar 0) (mcons (mfn len1 [(.v 3)]) mnil))))
    (scons (sset 5 (mcall 2 f__law_pick (mcons (mvar 0) (mcons (mvar 1) mnil))))
    (scons (sset 6 (mcall 2 f__law_take (mcons (mvar 0) (mcons (mcst (.int 10)) mnil))))
    (scons (sif (asB (mop eqD (.v 6) (.e (mcst (.int 0))))) (sret (mtup (mcons (mop idxD (.v 2) (.e (mcst (.int 0)))) (mcons (mop addD (.e (mslice sliceD (.v 3) onone (osome (mvar 4)))) (.e (mslice sliceD (.v 3) (osome (mop addD (.v 4) (.e (mcst (.int 1))))) onone))) mnil)))) snil)
    (scons (sif (asB (mop eqD (.v 6) (.e (mcst (.int 1))))) (sret (mtup (mcons (mop idxD (.v 2) (.e (mcst (.int 0)))) (mcons (mrev (mvar 3)) mnil)))) snil)
    (scons (sif (asB (mop eqD (.v 6) (.e (mcst (.int 2))))) (sret (mtup (mcons (mcall 2 f__law_pick (mcons (mvar 0) (mcons (mlst (mcons (mcst (.str "families")) (mcons (mcst (.str "tied")) (mcons (mcst (.str "open")) mnil)))) mnil))) (mcons (mvar 3) mnil)))) snil)
    (scons (sif (asB (mop eqD (.v 6) (.e (mcst (.int 3))))) (sret (mtup (mcons (mop idxD (.v 2) (.e (mcst (.int 0)))) (mcons (mfnL list1 [(.v 3)]) mnil)))) snil)
    (scons (sif (asB (mop eqD (.v 6) (.e (mcst (.int 4))))) (sret (mtup (mcons (mop idxD (.v 2) (.e (mcst (.int 0)))) (mcons (mop addD (.v 3) (.e (mslice sliceD (.v 3) (osome (mvar 4)) (osome (mop addD (.v 4) (.e (mcst (.int 1)))))))) mnil)))) snil)
    (scons (sif (asB (mop eqD (.v 6) (.e (mcst (.int 5))))) (sret (mtup (mcons (mop idxD (.v 2) (.e (mcst (.int 0)))) (mcons (mop addD (.v 3) (.e (mtup (mcons (mcall 2 f__law_pick (mcons (mvar 0) (mcons (mlst (mcons (mtup (mcons (mvar 5) mnil)) (mcons (mvar 1) (mcons (mtup (mcons (mop idxD (.v 1) (.e (mcst (.int 0)))) (mcons (mop idxD (.v 1) (.e (mneg (mcst (.int 1))))) mnil))) (mcons (mvar 5) (mcons (mtup (mcons (mcst (.str "Q9")) mnil)) (mcons (mtup mnil) (mcons (mcst .non) mnil)))))))) mnil))) mnil)))) mnil)))) snil)
    (scons (sif (band (asB (mop eqD (.v 6) (.e (mcst (.int 6))))) (asB (mop eqD (.e (mop idxD (.v 2) (.e (mcst (.int 0))))) (.e (mcst (.str "families")))))) (scons (sset 7 (mop idxD (.v 3) (.v 4)))
    (sret (mtup (mcons (mcst (.str "families")) (mcons (mop addD (.e (mop addD (.e (mslice sliceD (.v 3) onone (osome (mvar 4)))) (.e (mtup (mcons (mcall 2 f__law_pick (mcons (mvar 0) (mcons (mlst (mcons (mslice sliceD (.v 7) (osome (mcst (.int 1))) onone) (mcons (mrev (mvar 7)) (mcons (mfn tuple1 [(.e c__law_bent_2)]) mnil)))) mnil))) mnil))))) (.e (mslice sliceD (.v 3) (osome (mop addD (.v 4) (.e (mcst (.int 1))))) onone))) mnil))))) snil)
    (scons (sif (asB (mop eqD (.v 6) (.e (mcst (.int 7))))) (sret (mtup (mcons (mcst (.str "tied")) (mcons (mfn tuple1 [(.e c__law_bent_1)]) mnil)))) snil)
    (scons (sif (asB (mop eqD (.v 6) (.e (mcst (.int 8))))) (sret (mop addD (.v 2) (.e (mtup (mcons (mcst .non) mnil))))) snil)
    (sret (mcall 2 f__law_pick (mcons (mvar 0) (mcons (mlst (mcons (mcst .non) (mcons (mtup mnil) (mcons (mcst (.str "tied")) (mcons (mcst (.int 5)) (mcons (mlst (mcons (mcst (.str "tied")) (mcons (mvar 3) mnil))) (mcons (mcst (.dic [] [])) (mcons (mtup (mcons (mcst (.str "tied")) (mcons (mcst (.int 5)) mnil))) mnil)))))))) mnil))))))))))))))))))
def f__law_bent : FnM tz := runFn 9 3 m__law_bent
theorem ok__law_bent {f : Addr} {fd : FuncData} (F : Fun K ("_law_bent" : Str) ("_law_bent" : Str) s__law_bent f fd) (T : Tx K mg) (g__law_pick : FnAt tz P w K mg base 2 ("_law_pick" : Str) 2 f__law_pick) (g__law_take : FnAt tz P w K mg base 1 ("_law_take" : Str) 2 f__law_take) : FnOk P w K mg base CX0 3 f fd [("state" : Str), ("names" : Str), ("value" : Str)] (spD tz 3 f__law_bent) :=
  fn_ok F sc__law_bent fun cdv A outer s H E hr => by
    have c__law_pick := g__law_pick.fn (A := A.deeper (PyProof.Rows.envOfC ("_law_bent" : Str) (defScope s__law_bent) s.heap.objs.size f cdv)) hr (by decide)
    have c__law_take := g__law_take.fn (A := A.deeper (PyProof.Rows.envOfC ("_law_bent" : Str) (defScope s__law_bent) s.heap.objs.size f cdv)) hr (by decide)
    exact (ib_cons (is_set (i := 3) sc__law_bent.nd rfl (Or.inl rfl) (ie_ix ix_seq od_idx (.v (pv 2)) (.e ie_int)))
    (ib_cons (is_if (it_cmp (op_eqA hr) od_eq (.e (ie_blt call_len cd_len (by rfl) T.z_len PySem.boot_len (ia_cons (.v (pv 3)) .nil))) (.e ie_int) (nomark _)) (ib_one (is_ret (ie_call c__law_pick (by rfl) (il_cons (ie_var (pv 0)) (il_cons (IsO.toE (io_lst (il_cons (ie_tup (il_cons ie_str (il_cons (ie_tup (il_cons (ie_var (pv 1)) il_nil)) il_nil))) (il_cons (ie_tup (il_cons ie_str (il_cons (ie_tup (il_cons (ie_slice sl_all sd_all (.v (pv 1)) ip_none (ip_some ie_int)) il_nil)) il_nil))) (il_cons (ie_tup (il_cons ie_str (il_cons (ie_var (pv 1)) il_nil))) (il_cons (ie_tup (il_cons ie_str (il_cons (ie_tup (il_cons (ie_tup il_nil) il_nil)) il_nil))) (il_cons (ie_tup (il_cons ie_str (il_cons (ie_tup il_nil) il_nil))) (il_cons (ie_tup (il_cons ie_str (il_cons ie_non il_nil))) il_nil)))))))) il_nil))))) ib_nil)
    (ib_cons (is_set (i := 4) sc__law_bent.nd rfl (Or.inl rfl) (ie_call c__law_take (by rfl) (il_cons (ie_var (pv 0)) (il_cons (ie_blt call_len cd_len (by rfl) T.z_len PySem.boot_len (ia_cons (.v (pv 3)) .nil)) il_nil))))
    (ib_cons (is_set (i := 5) sc__law_bent.nd rfl (Or.inr rfl) (ie_call c__law_pick (by rfl) (il_cons (ie_var (pv 0)) (il_cons (ie_var (pv 1)) il_nil))))
    (ib_cons (is_set (i := 6) sc__law_bent.nd rfl (Or.inl rfl) (ie_call c__law_take (by rfl) (il_cons (ie_var (pv 0)) (il_cons ie_int il_nil))))
    (ib_cons (is_if (it_cmp (op_eqA hr) od_eq (.v (pv 6)) (.e ie_int) (nomark _)) (ib_one (is_ret (ie_tup (il_cons (ie_ix ix_seq od_idx (.v (pv 2)) (.e ie_int)) (il_cons (ie_op op_addAll od_add (.e (ie_slice sl_all sd_all (.v (pv 3)) ip_none (ip_some (ie_var (pv 4))))) (.e (ie_slice sl_all sd_all (.v (pv 3)) (ip_some (ie_op op_addAll od_add (.v (pv 4)) (.e ie_int))) ip_none))) il_nil))))) ib_nil)
    (ib_cons (is_if (it_cmp (op_eqA hr) od_eq (.v (pv 6)) (.e ie_int) (nomark _)) (ib_one (is_ret (ie_tup (il_cons (ie_ix ix_seq od_idx (.v (pv 2)) (.e ie_int)) (il_cons (ie_rev (ie_var (pv 3))) il_nil))))) ib_nil)
    (ib_cons (is_if (it_cmp (op_eqA hr) od_eq (.v (pv 6)) (.e ie_int) (nomark _)) (ib_one (is_ret (ie_tup (il_cons (ie_call c__law_pick (by rfl) (il_cons (ie_var (pv 0)) (il_cons (IsO.toE (io_lst (il_cons ie_str (il_cons ie_str (il_cons ie_str il_nil))))) il_nil))) (il_cons (ie_var (pv 3)) il_nil))))) ib_nil)
    (ib_cons (is_if (it_cmp (op_eqA hr) od_eq (.v (pv 6)) (.e ie_int) (nomark _)) (ib_one (is_ret (ie_tup (il_cons (ie_ix ix_seq od_idx (.v (pv 2)) (.e ie_int)) (il_cons (IsO.toE (io_ty call_list_of cn_list (by rfl) T.z_list PyProof.Rows.boot_list (ia_cons (.v (pv 3)) .nil))) il_nil))))) ib_nil)
    (ib_cons (is_if (it_cmp (op_eqA hr) od_eq (.v (pv 6)) (.e ie_int) (nomark _)) (ib_one (is_ret (ie_tup (il_cons (ie_ix ix_seq od_idx (.v (pv 2)) (.e ie_int)) (il_cons (ie_op op_addAll od_add (.v (pv 3)) (.e (ie_slice sl_all sd_all (.v (pv 3)) (ip_some (ie_var (pv 4))) (ip_some (ie_op op_addAll od_add (.v (pv 4)) (.e ie_int)))))) il_nil))))) ib_nil)
    (ib_cons (is_if (it_cmp (op_eqA hr) od_eq (.v (pv 6)) (.e ie_int) (nomark _)) (ib_one (is_ret (ie_tup (il_cons (ie_ix ix_seq od_idx (.v (pv 2)) (.e ie_int)) (il_cons (ie_op op_addAll od_add (.v (pv 3)) (.e (ie_tup (il_cons (ie_call c__law_pick (by rfl) (il_cons (ie_var (pv 0)) (il_cons (IsO.toE (io_lst (il_cons (ie_tup (il_cons (ie_var (pv 5)) il_nil)) (il_cons (ie_var (pv 1)) (il_cons (ie_tup (il_cons (ie_ix ix_seq od_idx (.v (pv 1)) (.e ie_int)) (il_cons (ie_ix ix_seq od_idx (.v (pv 1)) (.e (ie_neg ie_int))) il_nil))) (il_cons (ie_var (pv 5)) (il_cons (ie_tup (il_cons ie_str il_nil)) (il_cons (ie_tup il_nil) (il_cons ie_non il_nil))))))))) il_nil))) il_nil)))) il_nil))))) ib_nil)
    (ib_cons (is_if (IsW.t (iw_and (it_cmp (op_eqA hr) od_eq (.v (pv 6)) (.e ie_int) (nomark _)) (iw_and1 (it_cmp (op_eqA hr) od_eq (.e (ie_ix ix_seq od_idx (.v (pv 2)) (.e ie_int))) (.e ie_str) (nomark _))))) (ib_cons (is_set (i := 7) sc__law_bent.nd rfl (Or.inr rfl) (ie_ix ix_seq od_idx (.v (pv 3)) (.v (pv 4))))
    (ib_one (is_ret (ie_tup (il_cons ie_str (il_cons (ie_op op_addAll od_add (.e (ie_op op_addAll od_add (.e (ie_slice sl_all sd_all (.v (pv 3)) ip_none (ip_some (ie_var (pv 4))))) (.e (ie_tup (il_cons (ie_call c__law_pick (by rfl) (il_cons (ie_var (pv 0)) (il_cons (IsO.toE (io_lst (il_cons (ie_slice sl_all sd_all (.v (pv 7)) (ip_some ie_int) ip_none) (il_cons (ie_rev (ie_var (pv 7))) (il_cons (ie_ty call_tuple_F cd_tuple (by rfl) T.z_tuple PyProof.Rows.boot_tuple (ia_cons (.e (IsO.toE (io_lc [(("name" : Str), 8)] rfl sc__law_bent.nd (ii_seq (ie_var (pv 1))) (blkOk_by (N := N__law_bent) (sc := defScope s__law_bent) (scope := scp__law_bent_2) (own := [(("name" : Str), 8)]) (by decide +kernel)) (fun _ _ _ _ _ => (ig_name (i := 8) sc__law_bent.nd rfl (Or.inl rfl))) (fun _ _ _ _ _ => (its_one (IsW.t (iw_or (it_cmp (op_inA hr) od_in (.v (pv 8)) (.v (pv 7)) (by with_unfolding_all rfl)) (iw_or1 (it_cmp (op_eqA hr) od_eq (.v (pv 8)) (.v (pv 5)) (nomark _))))))) (fun _ _ _ _ _ => (ie_var (pv 8)))))) .nil)) il_nil))))) il_nil))) il_nil))))) (.e (ie_slice sl_all sd_all (.v (pv 3)) (ip_some (ie_op op_addAll od_add (.v (pv 4)) (.e ie_int))) ip_none))) il_nil)))))) ib_nil)
    (ib_cons (is_if (it_cmp (op_eqA hr) od_eq (.v (pv 6)) (.e ie_int) (nomark _)) (ib_one (is_ret (ie_tup (il_cons ie_str (il_cons (ie_ty call_tuple_F cd_tuple (by rfl) T.z_tuple PyProof.Rows.boot_tuple (ia_cons (.e (IsO.toE (io_lc [(("name" : Str), 8)] rfl sc__law_bent.nd (ii_seq (ie_var (pv 1))) (blkOk_by (N := N__law_bent) (sc := defScope s__law_bent) (scope := scp__law_bent_1) (own := [(("name" : Str), 8)]) (by decide +kernel)) (fun _ _ _ _ _ => (ig_name (i := 8) sc__law_bent.nd rfl (Or.inl rfl))) (fun _ _ _ _ _ => (its_one (it_cmp op_gtA od_gt (.e (ie_call c__law_take (by rfl) (il_cons (ie_var (pv 0)) (il_cons ie_int il_nil)))) (.e ie_int) (nomark _)))) (fun _ _ _ _ _ => (ie_var (pv 8)))))) .nil)) il_nil))))) ib_nil)
    (ib_cons (is_if (it_cmp (op_eqA hr) od_eq (.v (pv 6)) (.e ie_int) (nomark _)) (ib_one (is_ret (ie_op op_addAll od_add (.v (pv 2)) (.e (ie_tup (il_cons ie_non il_nil)))))) ib_nil)
    (ib_one (is_ret (ie_call c__law_pick (by rfl) (il_cons (ie_var (pv 0)) (il_cons (IsO.toE (io_lst (il_cons ie_non (il_cons (ie_tup il_nil) (il_cons ie_str (il_cons ie_int (il_cons (IsO.toE (io_lst (il_cons ie_str (il_cons (ie_var (pv 3)) il_nil)))) (il_cons ie_dict0 (il_cons (ie_tup (il_cons ie_str (il_cons ie_int il_nil))) il_nil))))))))) il_nil)))))))))))))))))))
/-! ### are_claims -/
abbrev N_are_claims : List Str := [("value" : Str), ("names" : Str), ("claim" : Str)]
theorem sc_are_claims : FnScope N_are_claims [("value" : Str), ("names" : Str)] (defScope s_are_claims) := ⟨rfl, rfl, rfl, by decide +kernel, rfl, by decide +kernel, by decide +kernel⟩
def scp_are_claims_1 : Scope := { kind := .function, names := [((".0" : Str), .local), (("claim" : Str), .local), (("is_claim" : Str), .globalImplicit), (("names" : Str), .free)], isGenerator := false, isCoroutine := false, more := [] }
def ce_are_claims_1 : M tz := (mcall 2 f_is_claim (mcons (mvar 2) (mcons (mvar 1) mnil)))
def c_are_claims_1 : M tz := mlc [2] (iseq (mvar 0)) (gset 2) byes ce_are_claims_1
def m_are_claims : SM tz := (sret (mand (misinst "tuple" (.v 0)) (mfn all1 [(.e c_are_claims_1)])))
def f_are_claims : FnM tz := runFn 3 2 m_are_claims
theorem ok_are_claims {f : Addr} {fd : FuncData} (F : Fun K ("are_claims" : Str) ("are_claims" : Str) s_are_claims f fd) (T : Tx K mg) (g_is_claim : FnAt tz P w K mg base 3 ("is_claim" : Str) 2 f_is_claim) : FnOk P w K mg base CX0 4 f fd [("value" : Str), ("names" : Str)] (spD tz 2 f_are_claims) :=
  fn_ok F sc_are_claims fun cdv A outer s H E hr => by
    have c_is_claim := g_is_claim.fn (A := A.deeper (PyProof.Rows.envOfC ("are_claims" : Str) (defScope s_are_claims) s.heap.objs.size f cdv)) hr (by decide)
    exact (ib_one (is_ret (ie_and (ie_isinst (by rfl) T.z_isinstance (by rfl) T.z_tuple (by decide +kernel) (.v (pv 0)) k_tuple) (ie_one (ie_blt (cr_all rfl) cd_all (by rfl) T.z_all PyProof.Rows.boot_all (ia_cons (.e (IsO.toE (io_lc [(("claim" : Str), 2)] rfl sc_are_claims.nd (ii_seq (ie_var (pv 0))) (blkOk_by (N := N_are_claims) (sc := defScope s_are_claims) (scope := scp_are_claims_1) (own := [(("claim" : Str), 2)]) (by decide +kernel)) (fun _ _ _ _ _ => (ig_name (i := 2) sc_are_claims.nd rfl (Or.inl rfl))) (fun _ _ _ _ _ => its_nil) (fun _ _ _ _ _ => (ie_call c_is_claim (by rfl) (il_cons (ie_var (pv 2)) (il_cons (ie_var (pv 1)) il_nil))))))) .nil))))))
/-! ### are_families -/
abbrev N_are_families : List Str := [("value" : Str), ("names" : Str), ("family" : Str), ("one" : Str), ("other" : Str)]
theorem sc_are_families : FnScope N_are_families [("value" : Str), ("names" : Str)] (defScope s_are_families) := ⟨rfl, rfl, rfl, by decide +kernel, rfl, by decide +kernel, by decide +kernel⟩
def scp_are_families_1 : Scope := { kind := .function, names := [((".0" : Str), .local), (("one" : Str), .local), (("other" : Str), .local), (("cross" : Str), .globalImplicit), (("value" : Str), .free)], isGenerator := false, isCoroutine := false, more := [] }
def scp_are_families_2 : Scope := { kind := .function, names := [((".0" : Str), .local), (("family" : Str), .local), (("is_lot" : Str), .globalImplicit), (("names" : Str), .free)], isGenerator := false, isCoroutine := false, more := [] }
def ce_are_families_1 : M tz := (mcall 2 f_cross (mcons (mvar 3) (mcons (mvar 4) mnil)))
def cs_are_families_1 : ML tz := (iseq (mvar 0))
def c_are_families_1 : M tz := mlc2 [3, 4] [4] (iseq (mvar 0)) (gset 3) byes cs_are_families_1 (gset 4) byes ce_are_families_1
def ce_are_families_2 : M tz := (mcall 2 f_is_lot (mcons (mvar 2) (mcons (mvar 1) mnil)))
def c_are_families_2 : M tz := mlc [2] (iseq (mvar 0)) (gset 2) byes ce_are_families_2
def m_are_families : SM tz := (scons (sif (bor (bnot (asB (misinst "tuple" (.v 0)))) (bnot (asB (mfn all1 [(.e c_are_families_2)])))) (sret (mcst (.bl false))) snil)
    (sret (mnot (mfn any1 [(.e c_are_families_1)]))))
def f_are_families : FnM tz := runFn 5 2 m_are_families
theorem ok_are_families {f : Addr} {fd : FuncData} (F : Fun K ("are_families" : Str) ("are_families" : Str) s_are_families f fd) (T : Tx K mg) (g_cross : FnAt tz P w K mg base 1 ("cross" : Str) 2 f_cross) (g_is_lot : FnAt tz P w K mg base 3 ("is_lot" : Str) 2 f_is_lot) : FnOk P w K mg base CX0 4 f fd [("value" : Str), ("names" : Str)] (spD tz 2 f_are_families) :=
  fn_ok F sc_are_families fun cdv A outer s H E hr => by
    have c_cross := g_cross.fn (A := A.deeper (PyProof.Rows.envOfC ("are_families" : Str) (defScope s_are_families) s.heap.objs.size f cdv)) hr (by decide)
    have c_is_lot := g_is_lot.fn (A := A.deeper (PyProof.Rows.envOfC ("are_families" : Str) (defScope s_are_families) s.heap.objs.size f cdv)) hr (by decide)
    exact (ib_cons (is_if (IsW.t (iw_or (it_not (it_val (ie_isinst (by rfl) T.z_isinstance (by rfl) T.z_tuple (by decide +kernel) (.v (pv 0)) k_tuple))) (iw_or1 (it_not (it_val (ie_blt (cr_all rfl) cd_all (by rfl) T.z_all PyProof.Rows.boot_all (ia_cons (.e (IsO.toE (io_lc [(("family" : Str), 2)] rfl sc_are_families.nd (ii_seq (ie_var (pv 0))) (blkOk_by (N := N_are_families) (sc := defScope s_are_families) (scope := scp_are_families_2) (own := [(("family" : Str), 2)]) (by decide +kernel)) (fun _ _ _ _ _ => (ig_name (i := 2) sc_are_families.nd rfl (Or.inl rfl))) (fun _ _ _ _ _ => its_nil) (fun _ _ _ _ _ => (ie_call c_is_lot (by rfl) (il_cons (ie_var (pv 2)) (il_cons (ie_var (pv 1)) il_nil))))))) .nil))))))) (ib_one (is_ret ie_bl)) ib_nil)
    (ib_one (is_ret (ie_not (ie_blt (cr_any rfl) cd_any (by rfl) T.z_any PyProof.Rows.boot_any (ia_cons (.e (IsO.toE (io_lc2 [(("one" : Str), 3), (("other" : Str), 4)] [4] rfl sc_are_families.nd (ii_seq (ie_var (pv 0))) (blkOk_by (N := N_are_families) (sc := defScope s_are_families) (scope := scp_are_families_1) (own := [(("one" : Str), 3), (("other" : Str), 4)]) (by decide +kernel)) (by decide) (fun _ _ _ _ _ => (ig_name (i := 3) sc_are_families.nd rfl (Or.inl rfl))) (fun _ _ _ _ _ => its_nil) (fun _ _ _ _ _ => (ii_seq (ie_var (pv 0)))) (fun _ _ _ _ _ => (ig_name (i := 4) sc_are_families.nd rfl (Or.inl rfl))) (fun _ _ _ _ _ => its_nil) (fun _ _ _ _ _ => (ie_call c_cross (by rfl) (il_cons (ie_var (pv 3)) (il_cons (ie_var (pv 4)) il_nil))))))) .nil))))))
/-! ### is_tied -/
abbrev N_is_tied : List Str := [("value" : Str), ("names" : Str), ("claims" : Str)]
theorem sc_is_tied : FnScope N_is_tied [("value" : Str), ("names" : Str), ("claims" : Str)] (defScope s_is_tied) := ⟨rfl, rfl, rfl, by decide +kernel, rfl, by decide +kernel, by decide +kernel⟩
def m_is_tied : SM tz := (sret (mand (mcall 2 f_is_lot (mcons (mvar 0) (mcons (mvar 1) mnil))) (mand (mop gtD (.e (mfn len1 [(.v 0)])) (.e (mcst (.int 1)))) (mop eqD (.e (mfn len1 [(.e (mcall 2 f_parts (mcons (mvar 2) (mcons (mvar 0) mnil))))])) (.e (mcst (.int 1)))))))
def f_is_tied : FnM tz := runFn 3 3 m_is_tied
theorem ok_is_tied {f : Addr} {fd : FuncData} (F : Fun K ("is_tied" : Str) ("is_tied" : Str) s_is_tied f fd) (T : Tx K mg) (g_parts : FnAt tz P w K mg base 2 ("parts" : Str) 2 f_parts) (g_is_lot : FnAt tz P w K mg base 3 ("is_lot" : Str) 2 f_is_lot) : FnOk P w K mg base CX0 4 f fd [("value" : Str), ("names" : Str), ("claims" : Str)] (spD tz 3 f_is_tied) :=
  fn_ok F sc_is_tied fun cdv A outer s H E hr => by
    have c_parts := g_parts.fn (A := A.deeper (PyProof.Rows.envOfC ("is_tied" : Str) (defScope s_is_tied) s.heap.objs.size f cdv)) hr (by decide)
    have c_is_lot := g_is_lot.fn (A := A.deeper (PyProof.Rows.envOfC ("is_tied" : Str) (defScope s_is_tied) s.heap.objs.size f cdv)) hr (by decide)
    exact (ib_one (is_ret (ie_and (ie_call c_is_lot (by rfl) (il_cons (ie_var (pv 0)) (il_cons (ie_var (pv 1)) il_nil))) (ie_and (ie_cmp op_gtA od_gt (.e (ie_blt call_len cd_len (by rfl) T.z_len PySem.boot_len (ia_cons (.v (pv 0)) .nil))) (.e ie_int) (nomark _)) (ie_one (ie_cmp (op_eqA hr) od_eq (.e (ie_blt call_len cd_len (by rfl) T.z_len PySem.boot_len (ia_cons (.e (ie_call c_parts (by rfl) (il_cons (ie_var (pv 2)) (il_cons (ie_var (pv 0)) il_nil)))) .nil))) (.e ie_int) (nomark _)))))))
/-! ### accepts_grouping -/
abbrev N_accepts_grouping : List Str := [("names" : Str), ("claims" : Str), ("value" : Str), ("claim" : Str)]
theorem sc_accepts_grouping : FnScope N_accepts_grouping [("names" : Str), ("claims" : Str), ("value" : Str)] (defScope s_accepts_grouping) := ⟨rfl, rfl, rfl, by decide +kernel, rfl, by decide +kernel, by decide +kernel⟩
def scp_accepts_grouping_1 : Scope := { kind := .function, names := [((".0" : Str), .local), (("claim" : Str), .local), (("meets" : Str), .globalImplicit), (("value" : Str), .free)], isGenerator := false, isCoroutine := false, more := [] }
def ce_accepts_grouping_1 : M tz := (mcall 2 f_meets (mcons (mop idxD (.v 2) (.e (mcst (.int 1)))) (mcons (mvar 3) mnil)))
def c_accepts_grouping_1 : M tz := mlc [3] (iseq (mvar 1)) (gset 3) byes ce_accepts_grouping_1
def m_accepts_grouping : SM tz := (scons (sif (bor (bnot (asB (mcall 1 f_is_names (mcons (mvar 0) mnil)))) (bor (bnot (asB (mcall 2 f_are_claims (mcons (mvar 1) (mcons (mvar 0) mnil))))) (bor (bnot (asB (misinst "tuple" (.v 2)))) (asB (mop neD (.e (mfn len1 [(.v 2)])) (.e (mcst (.int 2)))))))) (sret (mcst (.bl false))) snil)
    (scons (sif (asB (mop eqD (.e (mop idxD (.v 2) (.e (mcst (.int 0))))) (.e (mcst (.str "tied"))))) (sret (mcall 3 f_is_tied (mcons (mop idxD (.v 2) (.e (mcst (.int 1)))) (mcons (mvar 0) (mcons (mvar 1) mnil))))) snil)
    (scons (sif (bor (asB (mop neD (.e (mop idxD (.v 2) (.e (mcst (.int 0))))) (.e (mcst (.str "families"))))) (bnot (asB (mcall 2 f_are_families (mcons (mop idxD (.v 2) (.e (mcst (.int 1)))) (mcons (mvar 0) mnil)))))) (sret (mcst (.bl false))) snil)
    (sret (mfn all1 [(.e c_accepts_grouping_1)])))))
def f_accepts_grouping : FnM tz := runFn 4 3 m_accepts_grouping
theorem ok_accepts_grouping {f : Addr} {fd : FuncData} (F : Fun K ("accepts_grouping" : Str) ("accepts_grouping" : Str) s_accepts_grouping f fd) (T : Tx K mg) (g_meets : FnAt tz P w K mg base 1 ("meets" : Str) 2 f_meets) (g_are_families : FnAt tz P w K mg base 4 ("are_families" : Str) 2 f_are_families) (g_is_tied : FnAt tz P w K mg base 4 ("is_tied" : Str) 3 f_is_tied) (g_are_claims : FnAt tz P w K mg base 4 ("are_claims" : Str) 2 f_are_claims) (g_is_names : FnAt tz P w K mg base 2 ("is_names" : Str) 1 f_is_names) : FnOk P w K mg base CX0 5 f fd [("names" : Str), ("claims" : Str), ("value" : Str)] (spD tz 3 f_accepts_grouping) :=
  fn_ok F sc_accepts_grouping fun cdv A outer s H E hr => by
    have c_meets := g_meets.fn (A := A.deeper (PyProof.Rows.envOfC ("accepts_grouping" : Str) (defScope s_accepts_grouping) s.heap.objs.size f cdv)) hr (by decide)
    have c_are_families := g_are_families.fn (A := A.deeper (PyProof.Rows.envOfC ("accepts_grouping" : Str) (defScope s_accepts_grouping) s.heap.objs.size f cdv)) hr (by decide)
    have c_is_tied := g_is_tied.fn (A := A.deeper (PyProof.Rows.envOfC ("accepts_grouping" : Str) (defScope s_accepts_grouping) s.heap.objs.size f cdv)) hr (by decide)
    have c_are_claims := g_are_claims.fn (A := A.deeper (PyProof.Rows.envOfC ("accepts_grouping" : Str) (defScope s_accepts_grouping) s.heap.objs.size f cdv)) hr (by decide)
    have c_is_names := g_is_names.fn (A := A.deeper (PyProof.Rows.envOfC ("accepts_grouping" : Str) (defScope s_accepts_grouping) s.heap.objs.size f cdv)) hr (by decide)
    exact (ib_cons (is_if (IsW.t (iw_or (it_not (it_val (ie_call c_is_names (by rfl) (il_cons (ie_var (pv 0)) il_nil)))) (iw_or (it_not (it_val (ie_call c_are_claims (by rfl) (il_cons (ie_var (pv 1)) (il_cons (ie_var (pv 0)) il_nil))))) (iw_or (it_not (it_val (ie_isinst (by rfl) T.z_isinstance (by rfl) T.z_tuple (by decide +kernel) (.v (pv 2)) k_tuple))) (iw_or1 (it_cmp (op_neA hr) od_ne (.e (ie_blt call_len cd_len (by rfl) T.z_len PySem.boot_len (ia_cons (.v (pv 2)) .nil))) (.e ie_int) (nomark _))))))) (ib_one (is_ret ie_bl)) ib_nil)
    (ib_cons (is_if (it_cmp (op_eqA hr) od_eq (.e (ie_ix ix_seq od_idx (.v (pv 2)) (.e ie_int))) (.e ie_str) (nomark _)) (ib_one (is_ret (ie_call c_is_tied (by rfl) (il_cons (ie_ix ix_seq od_idx (.v (pv 2)) (.e ie_int)) (il_cons (ie_var (pv 0)) (il_cons (ie_var (pv 1)) il_nil)))))) ib_nil)
    (ib_cons (is_if (IsW.t (iw_or (it_cmp (op_neA hr) od_ne (.e (ie_ix ix_seq od_idx (.v (pv 2)) (.e ie_int))) (.e ie_str) (nomark _)) (iw_or1 (it_not (it_val (ie_call c_are_families (by rfl) (il_cons (ie_ix ix_seq od_idx (.v (pv 2)) (.e ie_int)) (il_cons (ie_var (pv 0)) il_nil)))))))) (ib_one (is_ret ie_bl)) ib_nil)
    (ib_one (is_ret (ie_blt (cr_all rfl) cd_all (by rfl) T.z_all PyProof.Rows.boot_all (ia_cons (.e (IsO.toE (io_lc [(("claim" : Str), 3)] rfl sc_accepts_grouping.nd (ii_seq (ie_var (pv 1))) (blkOk_by (N := N_accepts_grouping) (sc := defScope s_accepts_grouping) (scope := scp_accepts_grouping_1) (own := [(("claim" : Str), 3)]) (by decide +kernel)) (fun _ _ _ _ _ => (ig_name (i := 3) sc_accepts_grouping.nd rfl (Or.inl rfl))) (fun _ _ _ _ _ => its_nil) (fun _ _ _ _ _ => (ie_call c_meets (by rfl) (il_cons (ie_ix ix_seq od_idx (.v (pv 2)) (.e ie_int)) (il_cons (ie_var (pv 3)) il_nil))))))) .nil)))))))
/-! ### law -/
abbrev N_law : List Str := [("script" : Str), ("state" : Str), ("turn" : Str), ("names" : Str), ("claims" : Str), ("value" : Str), ("step" : Str), ("bent" : Str), ("part" : Str), ("families" : Str), ("claim" : Str), ("due" : Str), ("i" : Str), ("j" : Str), ("wrong" : Str), ("k" : Str), ("third" : Str)]
theorem sc_law : FnScope N_law [("script" : Str)] (defScope s_law) := ⟨rfl, rfl, rfl, by decide +kernel, rfl, by decide +kernel, by decide +kernel⟩
def scp_law_1 : Scope := { kind := .function, names := [((".0" : Str), .local), (("third" : Str), .local), (("_law_meets" : Str), .globalImplicit), (("families" : Str), .free), (("i" : Str), .free), (("j" : Str), .free), (("names" : Str), .free)], isGenerator := false, isCoroutine := false, more := [] }
def scp_law_2 : Scope := { kind := .function, names := [((".0" : Str), .local), (("k" : Str), .local), (("_law_claim" : Str), .globalImplicit), (("names" : Str), .free), (("state" : Str), .free)], isGenerator := false, isCoroutine := false, more := [] }
def lb_law_1 : SM tz := (scons (sif (bor (bnot (asB (mcall 2 f__law_says (mcons (mcall 2 f_is_claim (mcons (mvar 14) (mcons (mvar 3) mnil))) (mcons (mcst (.bl false)) mnil))))) (bnot (asB (mcall 2 f__law_says (mcons (mcall 2 f_are_claims (mcons (mop addD (.v 4) (.e (mtup (mcons (mvar 14) mnil)))) (mcons (mvar 3) mnil))) (mcons (mcst (.bl false)) mnil)))))) (sret (mcst (.bl false))) snil)
    (sif (bnot (asB (mcall 2 f__law_says (mcons (mcall 3 f_accepts_grouping (mcons (mvar 3) (mcons (mtup (mcons (mvar 14) mnil)) (mcons (mvar 5) mnil)))) (mcons (mcst (.bl false)) mnil))))) (sret (mcst (.bl false))) snil))
def l_law_1 : SM tz := sfor (iseq (mlst (mcons (mslice sliceD (.v 3) onone (osome (mcst (.int 2)))) (mcons (mop addD (.e (mslice sliceD (.v 3) onone (osome (mcst (.int 2))))) (.e (mtup (mcons (mcst (.str "Q9")) mnil)))) (mcons (mop mulD (.e (mtup (mcons (mop idxD (.v 3) (.e (mcst (.int 0)))) mnil))) (.e (mcst (.int 3)))) (mcons (mfnL list1 [(.e (mslice sliceD (.v 3) onone (osome (mcst (.int 3)))))]) (mcons (mcst .non) (mcons (mop addD (.e (mslice sliceD (.v 3) onone (osome (mcst (.int 3))))) (.e (mslice sliceD (.v 3) onone (osome (mcst (.int 1)))))) (mcons (mcst (.str "ABC")) (mcons (mcst (.int 5)) mnil)))))))))) (gset 14) lb_law_1
def ce_law_1 : M tz := (mtup (mcons (mop idxD (.v 3) (.v 12)) (mcons (mop idxD (.v 3) (.v 13)) (mcons (mvar 16) mnil))))
def ct_law_1 : MB tz := (band (asB (mop neD (.v 16) (.e (mop idxD (.v 3) (.v 12))))) (band (asB (mop neD (.v 16) (.e (mop idxD (.v 3) (.v 13))))) (asB (mcall 2 f__law_meets (mcons (mvar 9) (mcons (mtup (mcons (mop idxD (.v 3) (.v 12)) (mcons (mop idxD (.v 3) (.v 13)) (mcons (mvar 16) mnil)))) mnil))))))
def c_law_1 : M tz := mlc [16] (iseq (mvar 3)) (gset 16) ct_law_1 ce_law_1
def lb_law_2 : SM tz := (sset 11 (mop addD (.v 11) (.e c_law_1)))
def l_law_2 : SM tz := sfor (irange2 (mcons (mop addD (.v 12) (.e (mcst (.int 1)))) (mcons (mfn len1 [(.v 3)]) mnil))) (gset 13) lb_law_2
def lb_law_3 : SM tz := l_law_2
def l_law_3 : SM tz := sfor (irange1 (mcons (mfn len1 [(.v 3)]) mnil)) (gset 12) lb_law_3
def lb_law_4 : SM tz := (sif (bor (bnot (asB (mcall 2 f__law_says (mcons (mcall 2 f_meets (mcons (mvar 9) (mcons (mvar 10) mnil))) (mcons (mcall 2 f__law_meets (mcons (mvar 9) (mcons (mvar 10) mnil))) mnil))))) (bnot (asB (mcall 2 f__law_says (mcons (mcall 2 f_is_claim (mcons (mvar 10) (mcons (mvar 3) mnil))) (mcons (mcst (.bl true)) mnil)))))) (sret (mcst (.bl false))) snil)
def l_law_4 : SM tz := sfor (iseq (mop addD (.e (mslice sliceD (.v 4) onone (osome (mcst (.int 3))))) (.e (mtup (mcons (mcall 2 f__law_claim (mcons (mvar 1) (mcons (mvar 3) mnil))) mnil))))) (gset 10) lb_law_4
def lb_law_5 : SM tz := (scons (sset 7 (mcall 3 f__law_bent (mcons (mvar 1) (mcons (mvar 3) (mcons (mvar 5) mnil)))))
    (scons (sif (bnot (asB (mcall 2 f__law_says (mcons (mcall 3 f_accepts_grouping (mcons (mvar 3) (mcons (mvar 4) (mcons (mvar 7) mnil)))) (mcons (mcall 3 f__law_due (mcons (mvar 3) (mcons (mvar 4) (mcons (mvar 7) mnil)))) mnil))))) (sret (mcst (.bl false))) snil)
    (scons (sset 8 (mite (band (asB (misinst "tuple" (.v 7))) (asB (mop eqD (.e (mfn len1 [(.v 7)])) (.e (mcst (.int 2)))))) (mop idxD (.v 7) (.e (mcst (.int 1)))) (mvar 7)))
    (sif (bor (bnot (asB (mcall 2 f__law_says (mcons (mcall 3 f_is_tied (mcons (mvar 8) (mcons (mvar 3) (mcons (mvar 4) mnil)))) (mcons (mcall 3 f__law_is_tied (mcons (mvar 8) (mcons (mvar 3) (mcons (mvar 4) mnil)))) mnil))))) (bnot (asB (mcall 2 f__law_says (mcons (mcall 2 f_are_families (mcons (mvar 8) (mcons (mvar 3) mnil))) (mcons (mcall 2 f__law_are_families (mcons (mvar 8) (mcons (mvar 3) mnil))) mnil)))))) (sret (mcst (.bl false))) snil))))
def l_law_5 : SM tz := sfor (irange1 (mcons (mcst (.int 8)) mnil)) (gset 6) lb_law_5
def ce_law_2 : M tz := (mcall 2 f__law_claim (mcons (mvar 1) (mcons (mvar 3) mnil)))
def c_law_2 : M tz := mlc [15] (irange1 (mcons (mcall 2 f__law_take (mcons (mvar 1) (mcons (mcst (.int 10)) mnil))) mnil)) (gset 15) byes ce_law_2
def lb_law_6 : SM tz := (scons (sset 3 (mslice sliceD (.e (mtup (mcons (mcst (.str "A")) (mcons (mcst (.str "B2")) (mcons (mcst (.str "C")) (mcons (mcst (.str "Dx")) (mcons (mcst (.str "E")) (mcons (mcst (.str "F7")) (mcons (mcst (.str "G")) mnil))))))))) onone (osome (mop addD (.e (mcst (.int 3))) (.e (mcall 2 f__law_take (mcons (mvar 1) (mcons (mcst (.int 5)) mnil))))))))
    (scons (sset 4 (mfn tuple1 [(.e c_law_2)]))
    (scons (sset 5 (mcall 2 f__law_made (mcons (mvar 3) (mcons (mvar 4) mnil))))
    (scons (sif (bnot (asB (mcall 2 f__law_says (mcons (mcall 3 f_accepts_grouping (mcons (mvar 3) (mcons (mvar 4) (mcons (mvar 5) mnil)))) (mcons (mcst (.bl true)) mnil))))) (sret (mcst (.bl false))) snil)
    (scons l_law_5
    (scons (sset 9 (mite (asB (mop eqD (.e (mop idxD (.v 5) (.e (mcst (.int 0))))) (.e (mcst (.str "families"))))) (mop idxD (.v 5) (.e (mcst (.int 1)))) (mtup (mcons (mslice sliceD (.v 3) onone (osome (mcst (.int 2)))) mnil))))
    (scons l_law_4
    (scons (sset 11 (mlst mnil))
    (scons l_law_3
    (scons (sif (bor (asB (mop neD (.e (mcall 2 f_claims_of (mcons (mvar 3) (mcons (mvar 9) mnil)))) (.v 11))) (bnot (asB (mcall 2 f__law_says (mcons (mcall 2 f_are_claims (mcons (mvar 4) (mcons (mvar 3) mnil))) (mcons (mcst (.bl true)) mnil)))))) (sret (mcst (.bl false))) snil)
    (scons l_law_1
    (sif (bor (bnot (asB (mcall 2 f__law_says (mcons (mcall 2 f_are_claims (mcons (mfnL list1 [(.v 4)]) (mcons (mvar 3) mnil))) (mcons (mcst (.bl false)) mnil))))) (bnot (asB (mcall 2 f__law_says (mcons (mcall 3 f_accepts_grouping (mcons (mcst .non) (mcons (mvar 4) (mcons (mvar 5) mnil)))) (mcons (mcst (.bl false)) mnil)))))) (sret (mcst (.bl false))) snil))))))))))))
def l_law_6 : SM tz := sfor (irange1 (mcons (mcst (.int 3)) mnil)) (gset 2) lb_law_6
def m_law : SM tz := (scons l_law_6
    (sret (mcst (.bl true))))
theorem ib_law {f : Addr} (T : Tx K mg) (g_accepts_grouping : FnAt tz P w K mg base 5 ("accepts_grouping" : Str) 3 f_accepts_grouping) (g__law_says : FnAt tz P w K mg base 1 ("_law_says" : Str) 2 f__law_says) (g_are_claims : FnAt tz P w K mg base 4 ("are_claims" : Str) 2 f_are_claims) (g_is_claim : FnAt tz P w K mg base 3 ("is_claim" : Str) 2 f_is_claim) (g_claims_of : FnAt tz P w K mg base 2 ("claims_of" : Str) 2 f_claims_of) (g__law_meets : FnAt tz P w K mg base 1 ("_law_meets" : Str) 2 f__law_meets) (g__law_claim : FnAt tz P w K mg base 2 ("_law_claim" : Str) 2 f__law_claim) (g_meets : FnAt tz P w K mg base 1 ("meets" : Str) 2 f_meets) (g__law_are_families : FnAt tz P w K mg base 1 ("_law_are_families" : Str) 2 f__law_are_families) (g_are_families : FnAt tz P w K mg base 4 ("are_families" : Str) 2 f_are_families) (g__law_is_tied : FnAt tz P w K mg base 2 ("_law_is_tied" : Str) 3 f__law_is_tied) (g_is_tied : FnAt tz P w K mg base 4 ("is_tied" : Str) 3 f_is_tied) (g__law_due : FnAt tz P w K mg base 3 ("_law_due" : Str) 3 f__law_due) (g__law_bent : FnAt tz P w K mg base 3 ("_law_bent" : Str) 3 f__law_bent) (g__law_made : FnAt tz P w K mg base 2 ("_law_made" : Str) 2 f__law_made) (g__law_take : FnAt tz P w K mg base 1 ("_law_take" : Str) 2 f__law_take) (cdv : Value) (A : Around) (outer : List Env) (s : Shared) (H : Hp) (E : XK) (hr : Room 5 (A.deeper (PyProof.Rows.envOfC "law" (defScope s_law) s.heap.objs.size f cdv))) :
    IsB tz (cxOf CX0 P w K mg base N_law "law" (defScope s_law) f cdv A outer s H E).nox ((defBody s_law).drop 1) m_law := by
    have c_accepts_grouping := g_accepts_grouping.fn (A := A.deeper (PyProof.Rows.envOfC ("law" : Str) (defScope s_law) s.heap.objs.size f cdv)) hr (by decide)
    have c__law_says := g__law_says.fn (A := A.deeper (PyProof.Rows.envOfC ("law" : Str) (defScope s_law) s.heap.objs.size f cdv)) hr (by decide)
    have c_are_claims := g_are_claims.fn (A := A.deeper (PyProof.Rows.envOfC ("law" : Str) (defScope s_law) s.heap.objs.size f cdv)) hr (by decide)
    have c_is_claim := g_is_claim.fn (A := A.deeper (PyProof.Rows.envOfC ("law" : Str) (defScope s_law) s.heap.objs.size f cdv)) hr (by decide)
    have c_claims_of := g_claims_of.fn (A := A.deeper (PyProof.Rows.envOfC ("law" : Str) (defScope s_law) s.heap.objs.size f cdv)) hr (by decide)
    have c__law_meets := g__law_meets.fn (A := A.deeper (PyProof.Rows.envOfC ("law" : Str) (defScope s_law) s.heap.objs.size f cdv)) hr (by decide)
    have c__law_claim := g__law_claim.fn (A := A.deeper (PyProof.Rows.envOfC ("law" : Str) (defScope s_law) s.heap.objs.size f cdv)) hr (by decide)
    have c_meets := g_meets.fn (A := A.deeper (PyProof.Rows.envOfC ("law" : Str) (defScope s_law) s.heap.objs.size f cdv)) hr (by decide)
    have c__law_are_families := g__law_are_families.fn (A := A.deeper (PyProof.Rows.envOfC ("law" : Str) (defScope s_law) s.heap.objs.size f cdv)) hr (by decide)
    have c_are_families := g_are_families.fn (A := A.deeper (PyProof.Rows.envOfC ("law" : Str) (defScope s_law) s.heap.objs.size f cdv)) hr (by decide)
    have c__law_is_tied := g__law_is_tied.fn (A := A.deeper (PyProof.Rows.envOfC ("law" : Str) (defScope s_law) s.heap.objs.size f cdv)) hr (by decide)
    have c_is_tied := g_is_tied.fn (A := A.deeper (PyProof.Rows.envOfC ("law" : Str) (defScope s_law) s.heap.objs.size f cdv)) hr (by decide)
    have c__law_due := g__law_due.fn (A := A.deeper (PyProof.Rows.envOfC ("law" : Str) (defScope s_law) s.heap.objs.size f cdv)) hr (by decide)
    have c__law_bent := g__law_bent.fn (A := A.deeper (PyProof.Rows.envOfC ("law" : Str) (defScope s_law) s.heap.objs.size f cdv)) hr (by decide)
    have c__law_made := g__law_made.fn (A := A.deeper (PyProof.Rows.envOfC ("law" : Str) (defScope s_law) s.heap.objs.size f cdv)) hr (by decide)
    have c__law_take := g__law_take.fn (A := A.deeper (PyProof.Rows.envOfC ("law" : Str) (defScope s_law) s.heap.objs.size f cdv)) hr (by decide)
    exact (ib_cons (is_for PassesOwn.never rfl (ii_range1 (by rfl) T.z_range (il_cons ie_int il_nil)) (ig_name (i := 2) sc_law.nd rfl (Or.inl rfl)) (ib_cons (is_set (i := 3) sc_law.nd rfl (Or.inr rfl) (ie_slice sl_all sd_all (.e (ie_tup (il_cons ie_str (il_cons ie_str (il_cons ie_str (il_cons ie_str (il_cons ie_str (il_cons ie_str (il_cons ie_str il_nil))))))))) ip_none (ip_some (ie_op op_addAll od_add (.e ie_int) (.e (ie_call c__law_take (by rfl) (il_cons (ie_var (pv 1)) (il_cons ie_int il_nil))))))))
    (ib_cons (is_set (i := 4) sc_law.nd rfl (Or.inl rfl) (ie_ty call_tuple_F cd_tuple (by rfl) T.z_tuple PyProof.Rows.boot_tuple (ia_cons (.e (IsO.toE (io_lc [(("k" : Str), 15)] rfl sc_law.nd (ii_range1 (by rfl) T.z_range (il_cons (ie_call c__law_take (by rfl) (il_cons (ie_var (pv 1)) (il_cons ie_int il_nil))) il_nil)) (blkOk_by (N := N_law) (sc := defScope s_law) (scope := scp_law_2) (own := [(("k" : Str), 15)]) (by decide +kernel)) (fun _ _ _ _ _ => (ig_name (i := 15) sc_law.nd rfl (Or.inl rfl))) (fun _ _ _ _ _ => its_nil) (fun _ _ _ _ _ => (ie_call c__law_claim (by rfl) (il_cons (ie_var (pv 1)) (il_cons (ie_var (pv 3)) il_nil))))))) .nil)))
    (ib_cons (is_set (i := 5) sc_law.nd rfl (Or.inl rfl) (ie_call c__law_made (by rfl) (il_cons (ie_var (pv 3)) (il_cons (ie_var (pv 4)) il_nil))))
    (ib_cons (is_if (it_not (it_val (ie_call c__law_says (by rfl) (il_cons (ie_call c_accepts_grouping (by rfl) (il_cons (ie_var (pv 3)) (il_cons (ie_var (pv 4)) (il_cons (ie_var (pv 5)) il_nil)))) (il_cons ie_bl il_nil))))) (ib_one (is_ret ie_bl)) ib_nil)
    (ib_cons (is_for PassesOwn.never rfl (ii_range1 (by rfl) T.z_range (il_cons ie_int il_nil)) (ig_name (i := 6) sc_law.nd rfl (Or.inl rfl)) (ib_cons (is_set (i := 7) sc_law.nd rfl (Or.inl rfl) (ie_call c__law_bent (by rfl) (il_cons (ie_var (pv 1)) (il_cons (ie_var (pv 3)) (il_cons (ie_var (pv 5)) il_nil)))))
    (ib_cons (is_if (it_not (it_val (ie_call c__law_says (by rfl) (il_cons (ie_call c_accepts_grouping (by rfl) (il_cons (ie_var (pv 3)) (il_cons (ie_var (pv 4)) (il_cons (ie_var (pv 7)) il_nil)))) (il_cons (ie_call c__law_due (by rfl) (il_cons (ie_var (pv 3)) (il_cons (ie_var (pv 4)) (il_cons (ie_var (pv 7)) il_nil)))) il_nil))))) (ib_one (is_ret ie_bl)) ib_nil)
    (ib_cons (is_set (i := 8) sc_law.nd rfl (Or.inl rfl) (ie_ite (IsW.t (iw_and (it_val (ie_isinst (by rfl) T.z_isinstance (by rfl) T.z_tuple (by decide +kernel) (.v (pv 7)) k_tuple)) (iw_and1 (it_cmp (op_eqA hr) od_eq (.e (ie_blt call_len cd_len (by rfl) T.z_len PySem.boot_len (ia_cons (.v (pv 7)) .nil))) (.e ie_int) (nomark _))))) (ie_ix ix_seq od_idx (.v (pv 7)) (.e ie_int)) (ie_var (pv 7))))
    (ib_one (is_if (IsW.t (iw_or (it_not (it_val (ie_call c__law_says (by rfl) (il_cons (ie_call c_is_tied (by rfl) (il_cons (ie_var (pv 8)) (il_cons (ie_var (pv 3)) (il_cons (ie_var (pv 4)) il_nil)))) (il_cons (ie_call c__law_is_tied (by rfl) (il_cons (ie_var (pv 8)) (il_cons (ie_var (pv 3)) (il_cons (ie_var (pv 4)) il_nil)))) il_nil))))) (iw_or1 (it_not (it_val (ie_call c__law_says (by rfl) (il_cons (ie_call c_are_families (by rfl) (il_cons (ie_var (pv 8)) (il_cons (ie_var (pv 3)) il_nil))) (il_cons (ie_call c__law_are_families (by rfl) (il_cons (ie_var (pv 8)) (il_cons (ie_var (pv 3)) il_nil))) il_nil)))))))) (ib_one (is_ret ie_bl)) ib_nil))))))
    (ib_cons (is_set (i := 9) sc_law.nd rfl (Or.inr rfl) (ie_ite (it_cmp (op_eqA hr) od_eq (.e (ie_ix ix_seq od_idx (.v (pv 5)) (.e ie_int))) (.e ie_str) (nomark _)) (ie_ix ix_seq od_idx (.v (pv 5)) (.e ie_int)) (ie_tup (il_cons (ie_slice sl_all sd_all (.v (pv 3)) ip_none (ip_some ie_int)) il_nil))))
    (ib_cons (is_for PassesOwn.never rfl (ii_seq (ie_op op_addAll od_add (.e (ie_slice sl_all sd_all (.v (pv 4)) ip_none (ip_some ie_int))) (.e (ie_tup (il_cons (ie_call c__law_claim (by rfl) (il_cons (ie_var (pv 1)) (il_cons (ie_var (pv 3)) il_nil))) il_nil))))) (ig_name (i := 10) sc_law.nd rfl (Or.inl rfl)) (ib_one (is_if (IsW.t (iw_or (it_not (it_val (ie_call c__law_says (by rfl) (il_cons (ie_call c_meets (by rfl) (il_cons (ie_var (pv 9)) (il_cons (ie_var (pv 10)) il_nil))) (il_cons (ie_call c__law_meets (by rfl) (il_cons (ie_var (pv 9)) (il_cons (ie_var (pv 10)) il_nil))) il_nil))))) (iw_or1 (it_not (it_val (ie_call c__law_says (by rfl) (il_cons (ie_call c_is_claim (by rfl) (il_cons (ie_var (pv 10)) (il_cons (ie_var (pv 3)) il_nil))) (il_cons ie_bl il_nil)))))))) (ib_one (is_ret ie_bl)) ib_nil)))
    (ib_cons (is_set (i := 11) sc_law.nd rfl (Or.inl rfl) (IsO.toE (io_lst il_nil)))
    (ib_cons (is_for PassesOwn.never rfl (ii_range1 (by rfl) T.z_range (il_cons (ie_blt call_len cd_len (by rfl) T.z_len PySem.boot_len (ia_cons (.v (pv 3)) .nil)) il_nil)) (ig_name (i := 12) sc_law.nd rfl (Or.inr rfl)) (ib_one (is_for PassesOwn.never rfl (ii_range2 (by rfl) T.z_range (il_cons (ie_op op_addAll od_add (.v (pv 12)) (.e ie_int)) (il_cons (ie_blt call_len cd_len (by rfl) T.z_len PySem.boot_len (ia_cons (.v (pv 3)) .nil)) il_nil))) (ig_name (i := 13) sc_law.nd rfl (Or.inr rfl)) (ib_one (is_set (i := 11) sc_law.nd rfl (Or.inl rfl) (ie_op op_addAll od_add (.v (pv 11)) (.e (IsO.toE (io_lc [(("third" : Str), 16)] rfl sc_law.nd (ii_seq (ie_var (pv 3))) (blkOk_by (N := N_law) (sc := defScope s_law) (scope := scp_law_1) (own := [(("third" : Str), 16)]) (by decide +kernel)) (fun _ _ _ _ _ => (ig_name (i := 16) sc_law.nd rfl (Or.inl rfl))) (fun _ _ _ _ _ => (its_one (IsW.t (iw_and (it_cmp (op_neA hr) od_ne (.v (pv 16)) (.e (ie_ix ix_seq od_idx (.v (pv 3)) (.v (pv 12)))) (nomark _)) (iw_and (it_cmp (op_neA hr) od_ne (.v (pv 16)) (.e (ie_ix ix_seq od_idx (.v (pv 3)) (.v (pv 13)))) (nomark _)) (iw_and1 (it_val (ie_call c__law_meets (by rfl) (il_cons (ie_var (pv 9)) (il_cons (ie_tup (il_cons (ie_ix ix_seq od_idx (.v (pv 3)) (.v (pv 12))) (il_cons (ie_ix ix_seq od_idx (.v (pv 3)) (.v (pv 13))) (il_cons (ie_var (pv 16)) il_nil)))) il_nil)))))))))) (fun _ _ _ _ _ => (ie_tup (il_cons (ie_ix ix_seq od_idx (.v (pv 3)) (.v (pv 12))) (il_cons (ie_ix ix_seq od_idx (.v (pv 3)) (.v (pv 13))) (il_cons (ie_var (pv 16)) il_nil))))))))))))))
    (ib_cons (is_if (IsW.t (iw_or (it_cmp (op_neA hr) od_ne (.e (ie_call c_claims_of (by rfl) (il_cons (ie_var (pv 3)) (il_cons (ie_var (pv 9)) il_nil)))) (.v (pv 11)) (nomark _)) (iw_or1 (it_not (it_val (ie_call c__law_says (by rfl) (il_cons (ie_call c_are_claims (by rfl) (il_cons (ie_var (pv 4)) (il_cons (ie_var (pv 3)) il_nil))) (il_cons ie_bl il_nil)))))))) (ib_one (is_ret ie_bl)) ib_nil)
    (ib_cons (is_for PassesOwn.never rfl (ii_seq (IsO.toE (io_lst (il_cons (ie_slice sl_all sd_all (.v (pv 3)) ip_none (ip_some ie_int)) (il_cons (ie_op op_addAll od_add (.e (ie_slice sl_all sd_all (.v (pv 3)) ip_none (ip_some ie_int))) (.e (ie_tup (il_cons ie_str il_nil)))) (il_cons (ie_op op_mulA od_mul (.e (ie_tup (il_cons (ie_ix ix_seq od_idx (.v (pv 3)) (.e ie_int)) il_nil))) (.e ie_int)) (il_cons (IsO.toE (io_ty call_list_of cn_list (by rfl) T.z_list PyProof.Rows.boot_list (ia_cons (.e (ie_slice sl_all sd_all (.v (pv 3)) ip_none (ip_some ie_int))) .nil))) (il_cons ie_non (il_cons (ie_op op_addAll od_add (.e (ie_slice sl_all sd_all (.v (pv 3)) ip_none (ip_some ie_int))) (.e (ie_slice sl_all sd_all (.v (pv 3)) ip_none (ip_some ie_int)))) (il_cons ie_str (il_cons ie_int il_nil))))))))))) (ig_name (i := 14) sc_law.nd rfl (Or.inl rfl)) (ib_cons (is_if (IsW.t (iw_or (it_not (it_val (ie_call c__law_says (by rfl) (il_cons (ie_call c_is_claim (by rfl) (il_cons (ie_var (pv 14)) (il_cons (ie_var (pv 3)) il_nil))) (il_cons ie_bl il_nil))))) (iw_or1 (it_not (it_val (ie_call c__law_says (by rfl) (il_cons (ie_call c_are_claims (by rfl) (il_cons (ie_op op_addAll od_add (.v (pv 4)) (.e (ie_tup (il_cons (ie_var (pv 14)) il_nil)))) (il_cons (ie_var (pv 3)) il_nil))) (il_cons ie_bl il_nil)))))))) (ib_one (is_ret ie_bl)) ib_nil)
    (ib_one (is_if (it_not (it_val (ie_call c__law_says (by rfl) (il_cons (ie_call c_accepts_grouping (by rfl) (il_cons (ie_var (pv 3)) (il_cons (ie_tup (il_cons (ie_var (pv 14)) il_nil)) (il_cons (ie_var (pv 5)) il_nil)))) (il_cons ie_bl il_nil))))) (ib_one (is_ret ie_bl)) ib_nil))))
    (ib_one (is_if (IsW.t (iw_or (it_not (it_val (ie_call c__law_says (by rfl) (il_cons (ie_call c_are_claims (by rfl) (il_cons (IsO.toE (io_ty call_list_of cn_list (by rfl) T.z_list PyProof.Rows.boot_list (ia_cons (.v (pv 4)) .nil))) (il_cons (ie_var (pv 3)) il_nil))) (il_cons ie_bl il_nil))))) (iw_or1 (it_not (it_val (ie_call c__law_says (by rfl) (il_cons (ie_call c_accepts_grouping (by rfl) (il_cons ie_non (il_cons (ie_var (pv 4)) (il_cons (ie_var (pv 5)) il_nil)))) (il_cons ie_bl il_nil)))))))) (ib_one (is_ret ie_bl)) ib_nil))))))))))))))
    (ib_one (is_ret ie_bl)))
theorem ok_law {f fS : Addr} {fd fdS : FuncData} (F : Fun K "law" "law" s_law f fd) (T : Tx K mg) (gS : FnOk P w K mg base CX0 1 fS fdS ["script"] (spState K)) (mS : mg "_law_state" = some (.ref fS)) (kS : PySem.W.keepIn K (.ref fS) = true) (bS : Binds K fdS ["script"] []) (g_accepts_grouping : FnAt tz P w K mg base 5 ("accepts_grouping" : Str) 3 f_accepts_grouping) (g__law_says : FnAt tz P w K mg base 1 ("_law_says" : Str) 2 f__law_says) (g_are_claims : FnAt tz P w K mg base 4 ("are_claims" : Str) 2 f_are_claims) (g_is_claim : FnAt tz P w K mg base 3 ("is_claim" : Str) 2 f_is_claim) (g_claims_of : FnAt tz P w K mg base 2 ("claims_of" : Str) 2 f_claims_of) (g__law_meets : FnAt tz P w K mg base 1 ("_law_meets" : Str) 2 f__law_meets) (g__law_claim : FnAt tz P w K mg base 2 ("_law_claim" : Str) 2 f__law_claim) (g_meets : FnAt tz P w K mg base 1 ("meets" : Str) 2 f_meets) (g__law_are_families : FnAt tz P w K mg base 1 ("_law_are_families" : Str) 2 f__law_are_families) (g_are_families : FnAt tz P w K mg base 4 ("are_families" : Str) 2 f_are_families) (g__law_is_tied : FnAt tz P w K mg base 2 ("_law_is_tied" : Str) 3 f__law_is_tied) (g_is_tied : FnAt tz P w K mg base 4 ("is_tied" : Str) 3 f_is_tied) (g__law_due : FnAt tz P w K mg base 3 ("_law_due" : Str) 3 f__law_due) (g__law_bent : FnAt tz P w K mg base 3 ("_law_bent" : Str) 3 f__law_bent) (g__law_made : FnAt tz P w K mg base 2 ("_law_made" : Str) 2 f__law_made) (g__law_take : FnAt tz P w K mg base 1 ("_law_take" : Str) 2 f__law_take)
    (plain : ∀ ns : List Int, ns.length ≤ 63 → ∃ T' e', m_law (.no :: .sh .tape :: List.replicate 15 .no) (startT ns) = some (.rt (.bl true), e', T')) : FnOk P w K mg base CX0 6 f fd ["script"] (spLaw K) := by
  refine F.ok sc_law (fun vs H Q E h => ?_) (fun cdv A outer s H vs Q E hr h => ?_)
  · obtain ⟨a, ns, rfl, _⟩ := h
    rfl
  · obtain ⟨a, ns, rfl, hS, hl, kk⟩ := h
    refine ⟨_, pss_cons (ps_set (i := 1) sc_law.nd rfl (Or.inr rfl) (pe_call gS (hr.mono (by decide)) (by rfl) mS kS bS .nil pass0 (pa_cons (pv 0) pa_nil))) (ib_law T g_accepts_grouping g__law_says g_are_claims g_is_claim g_claims_of g__law_meets g__law_claim g_meets g__law_are_families g_are_families g__law_is_tied g_is_tied g__law_due g__law_bent g__law_made g__law_take cdv A outer s H E hr).ps, ?_⟩
    exact ⟨_, rfl, a, ns, rfl, hS, hl, law_core ns (plain ns hl) kk⟩
end
open PySem.Spec PyProof.Rows
def d_is_siglum : He.DefD := ⟨(("is_siglum" : Str), none), ("is_siglum" : Str), ("is_siglum" : Str), defArgs s_is_siglum, defBody s_is_siglum, defScope s_is_siglum, [], []⟩
def d_is_names : He.DefD := ⟨(("is_names" : Str), none), ("is_names" : Str), ("is_names" : Str), defArgs s_is_names, defBody s_is_names, defScope s_is_names, [], []⟩
def d_is_claim : He.DefD := ⟨(("is_claim" : Str), none), ("is_claim" : Str), ("is_claim" : Str), defArgs s_is_claim, defBody s_is_claim, defScope s_is_claim, [], []⟩
def d_are_claims : He.DefD := ⟨(("are_claims" : Str), none), ("are_claims" : Str), ("are_claims" : Str), defArgs s_are_claims, defBody s_are_claims, defScope s_are_claims, [], []⟩
def d_in_order : He.DefD := ⟨(("in_order" : Str), none), ("in_order" : Str), ("in_order" : Str), defArgs s_in_order, defBody s_in_order, defScope s_in_order, [], []⟩
def d_ties : He.DefD := ⟨(("ties" : Str), none), ("ties" : Str), ("ties" : Str), defArgs s_ties, defBody s_ties, defScope s_ties, [], []⟩
def d_parts : He.DefD := ⟨(("parts" : Str), none), ("parts" : Str), ("parts" : Str), defArgs s_parts, defBody s_parts, defScope s_parts, [], []⟩
def d_meets : He.DefD := ⟨(("meets" : Str), none), ("meets" : Str), ("meets" : Str), defArgs s_meets, defBody s_meets, defScope s_meets, [], []⟩
def d_is_lot : He.DefD := ⟨(("is_lot" : Str), none), ("is_lot" : Str), ("is_lot" : Str), defArgs s_is_lot, defBody s_is_lot, defScope s_is_lot, [], []⟩
def d_cross : He.DefD := ⟨(("cross" : Str), none), ("cross" : Str), ("cross" : Str), defArgs s_cross, defBody s_cross, defScope s_cross, [], []⟩
def d_are_families : He.DefD := ⟨(("are_families" : Str), none), ("are_families" : Str), ("are_families" : Str), defArgs s_are_families, defBody s_are_families, defScope s_are_families, [], []⟩
def d_is_tied : He.DefD := ⟨(("is_tied" : Str), none), ("is_tied" : Str), ("is_tied" : Str), defArgs s_is_tied, defBody s_is_tied, defScope s_is_tied, [], []⟩
def d_accepts_grouping : He.DefD := ⟨(("accepts_grouping" : Str), none), ("accepts_grouping" : Str), ("accepts_grouping" : Str), defArgs s_accepts_grouping, defBody s_accepts_grouping, defScope s_accepts_grouping, [], []⟩
def d_claims_of : He.DefD := ⟨(("claims_of" : Str), none), ("claims_of" : Str), ("claims_of" : Str), defArgs s_claims_of, defBody s_claims_of, defScope s_claims_of, [], []⟩
def d__law_state : He.DefD := ⟨(("_law_state" : Str), none), ("_law_state" : Str), ("_law_state" : Str), defArgs s__law_state, defBody s__law_state, defScope s__law_state, [], []⟩
def d__law_take : He.DefD := ⟨(("_law_take" : Str), none), ("_law_take" : Str), ("_law_take" : Str), defArgs s__law_take, defBody s__law_take, defScope s__law_take, [], []⟩
def d__law_pick : He.DefD := ⟨(("_law_pick" : Str), none), ("_law_pick" : Str), ("_law_pick" : Str), defArgs s__law_pick, defBody s__law_pick, defScope s__law_pick, [], []⟩
def d__law_parts : He.DefD := ⟨(("_law_parts" : Str), none), ("_law_parts" : Str), ("_law_parts" : Str), defArgs s__law_parts, defBody s__law_parts, defScope s__law_parts, [], []⟩
def d__law_meets : He.DefD := ⟨(("_law_meets" : Str), none), ("_law_meets" : Str), ("_law_meets" : Str), defArgs s__law_meets, defBody s__law_meets, defScope s__law_meets, [], []⟩
def d__law_are_families : He.DefD := ⟨(("_law_are_families" : Str), none), ("_law_are_families" : Str), ("_law_are_families" : Str), defArgs s__law_are_families, defBody s__law_are_families, defScope s__law_are_families, [], []⟩
def d__law_is_lot : He.DefD := ⟨(("_law_is_lot" : Str), none), ("_law_is_lot" : Str), ("_law_is_lot" : Str), defArgs s__law_is_lot, defBody s__law_is_lot, defScope s__law_is_lot, [], []⟩
def d__law_is_tied : He.DefD := ⟨(("_law_is_tied" : Str), none), ("_law_is_tied" : Str), ("_law_is_tied" : Str), defArgs s__law_is_tied, defBody s__law_is_tied, defScope s__law_is_tied, [], []⟩
def d__law_claim : He.DefD := ⟨(("_law_claim" : Str), none), ("_law_claim" : Str), ("_law_claim" : Str), defArgs s__law_claim, defBody s__law_claim, defScope s__law_claim, [], []⟩
def d__law_made : He.DefD := ⟨(("_law_made" : Str), none), ("_law_made" : Str), ("_law_made" : Str), defArgs s__law_made, defBody s__law_made, defScope s__law_made, [], []⟩
def d__law_due : He.DefD := ⟨(("_law_due" : Str), none), ("_law_due" : Str), ("_law_due" : Str), defArgs s__law_due, defBody s__law_due, defScope s__law_due, [], []⟩
def d__law_bent : He.DefD := ⟨(("_law_bent" : Str), none), ("_law_bent" : Str), ("_law_bent" : Str), defArgs s__law_bent, defBody s__law_bent, defScope s__law_bent, [], []⟩
def d__law_says : He.DefD := ⟨(("_law_says" : Str), none), ("_law_says" : Str), ("_law_says" : Str), defArgs s__law_says, defBody s__law_says, defScope s__law_says, [], []⟩
def d_law : He.DefD := ⟨(("law" : Str), none), ("law" : Str), ("law" : Str), defArgs s_law, defBody s_law, defScope s_law, [], []⟩
def fn : List He.DefD := [d_is_siglum, d_is_names, d_is_claim, d_are_claims, d_in_order, d_ties, d_parts, d_meets, d_is_lot, d_cross, d_are_families, d_is_tied, d_accepts_grouping, d_claims_of, d__law_state, d__law_take, d__law_pick, d__law_parts, d__law_meets, d__law_are_families, d__law_is_lot, d__law_is_tied, d__law_claim, d__law_made, d__law_due, d__law_bent, d__law_says, d_law]
def fa : List He.Fa := [.glo ("is_siglum" : Str), .glo ("is_names" : Str), .glo ("is_claim" : Str), .glo ("are_claims" : Str), .glo ("in_order" : Str), .glo ("ties" : Str), .glo ("parts" : Str), .glo ("meets" : Str), .glo ("is_lot" : Str), .glo ("cross" : Str), .glo ("are_families" : Str), .glo ("is_tied" : Str), .glo ("accepts_grouping" : Str), .glo ("claims_of" : Str), .glo ("_law_state" : Str), .glo ("_law_take" : Str), .glo ("_law_pick" : Str), .glo ("_law_parts" : Str), .glo ("_law_meets" : Str), .glo ("_law_are_families" : Str), .glo ("_law_is_lot" : Str), .glo ("_law_is_tied" : Str), .glo ("_law_claim" : Str), .glo ("_law_made" : Str), .glo ("_law_due" : Str), .glo ("_law_bent" : Str), .glo ("_law_says" : Str), .glo ("law" : Str), .free ("abs" : Str), .free ("all" : Str), .free ("any" : Str), .free ("bool" : Str), .free ("int" : Str), .free ("isinstance" : Str), .free ("len" : Str), .free ("list" : Str), .free ("range" : Str), .free ("set" : Str), .free ("str" : Str), .free ("tuple" : Str), .int ("MOST_NAMES" : Str) 40]
def names : List PySem.Str := [("is_siglum" : Str), ("is_names" : Str), ("is_claim" : Str), ("are_claims" : Str), ("in_order" : Str), ("ties" : Str), ("parts" : Str), ("meets" : Str), ("is_lot" : Str), ("cross" : Str), ("are_families" : Str), ("is_tied" : Str), ("accepts_grouping" : Str), ("claims_of" : Str), ("_law_state" : Str), ("_law_take" : Str), ("_law_pick" : Str), ("_law_parts" : Str), ("_law_meets" : Str), ("_law_are_families" : Str), ("_law_is_lot" : Str), ("_law_is_tied" : Str), ("_law_claim" : Str), ("_law_made" : Str), ("_law_due" : Str), ("_law_bent" : Str), ("_law_says" : Str), ("MOST_NAMES" : Str)]
abbrev R : PySem.W.OpenRow := PySem.W.OpenLaw.row PySem.Challenge.rw_elderfolios_k29_claims_judged
abbrev hk : PySem.W.Hook := He.hookD 4 fa fn
def ob (s : PySem.W.SharedT) : He.AlD := He.obsDG 4 fa fn (HandSHeadRun.getT s)
theorem ob_eq (s : PySem.W.SharedT) : ob s = hk.obs s.abs := He.obsDG_eq (HandSHeadRun.getT_eq s)
theorem run (w : World) : HandSHeadRun.RunEq R (PySem.W.view R.prog [31]) hk ob 2000 names w := by
  intro os
  kernel_rfl
theorem facts (plain : ∀ ns : List Int, ns.length ≤ 63 → ∃ T' e', m_law (.no :: .sh .tape :: List.replicate 15 .no) (startT ns) = some (.rt (.bl true), e', T')) {P : Program} {w : World} {K : PySem.W.Frag} {h : Heap} {mg : Str → Option Value} {f : Addr} (X : K.In h) (G : h.Ns mainGlobals mg) (hfa : mg ("law" : Str) = some (.ref f)) (c : He.SaysD fa fn K) :
    ∃ fd : FuncData, (∀ (s : Shared) (v : Value), BindsTo s fd ⟨[v], []⟩ [("script", v)]) ∧ ∀ base : Heap, K.In base → base.Ns mainGlobals mg → FnOk P w K mg base CX0 6 f fd ["script"] (spLaw K) := by
  obtain ⟨fd_is_siglum, D_is_siglum⟩ := c.def_ 0 (d := d_is_siglum) rfl
  have F_is_siglum : Fun K ("is_siglum" : Str) ("is_siglum" : Str) s_is_siglum _ fd_is_siglum := Fun.ofD D_is_siglum
  have b_is_siglum := F_is_siglum.binds (ps := [("value" : Str)]) fun _ _ _ _ _ _ us hl => match us, hl with | [_], _ => rfl
  have m_is_siglum' := He.glo_ok X G (c.fact 0 (f := .glo ("is_siglum" : Str)) rfl)
  obtain ⟨fd_is_names, D_is_names⟩ := c.def_ 1 (d := d_is_names) rfl
  have F_is_names : Fun K ("is_names" : Str) ("is_names" : Str) s_is_names _ fd_is_names := Fun.ofD D_is_names
  have b_is_names := F_is_names.binds (ps := [("value" : Str)]) fun _ _ _ _ _ _ us hl => match us, hl with | [_], _ => rfl
  have m_is_names' := He.glo_ok X G (c.fact 1 (f := .glo ("is_names" : Str)) rfl)
  obtain ⟨fd_is_claim, D_is_claim⟩ := c.def_ 2 (d := d_is_claim) rfl
  have F_is_claim : Fun K ("is_claim" : Str) ("is_claim" : Str) s_is_claim _ fd_is_claim := Fun.ofD D_is_claim
  have b_is_claim := F_is_claim.binds (ps := [("value" : Str), ("names" : Str)]) fun _ _ _ _ _ _ us hl => match us, hl with | [_, _], _ => rfl
  have m_is_claim' := He.glo_ok X G (c.fact 2 (f := .glo ("is_claim" : Str)) rfl)
  obtain ⟨fd_are_claims, D_are_claims⟩ := c.def_ 3 (d := d_are_claims) rfl
  have F_are_claims : Fun K ("are_claims" : Str) ("are_claims" : Str) s_are_claims _ fd_are_claims := Fun.ofD D_are_claims
  have b_are_claims := F_are_claims.binds (ps := [("value" : Str), ("names" : Str)]) fun _ _ _ _ _ _ us hl => match us, hl with | [_, _], _ => rfl
  have m_are_claims' := He.glo_ok X G (c.fact 3 (f := .glo ("are_claims" : Str)) rfl)
  obtain ⟨fd_in_order, D_in_order⟩ := c.def_ 4 (d := d_in_order) rfl
  have F_in_order : Fun K ("in_order" : Str) ("in_order" : Str) s_in_order _ fd_in_order := Fun.ofD D_in_order
  have b_in_order := F_in_order.binds (ps := [("names" : Str), ("some" : Str)]) fun _ _ _ _ _ _ us hl => match us, hl with | [_, _], _ => rfl
  have m_in_order' := He.glo_ok X G (c.fact 4 (f := .glo ("in_order" : Str)) rfl)
  obtain ⟨fd_ties, D_ties⟩ := c.def_ 5 (d := d_ties) rfl
  have F_ties : Fun K ("ties" : Str) ("ties" : Str) s_ties _ fd_ties := Fun.ofD D_ties
  have b_ties := F_ties.binds (ps := [("claims" : Str), ("lot" : Str)]) fun _ _ _ _ _ _ us hl => match us, hl with | [_, _], _ => rfl
  have m_ties' := He.glo_ok X G (c.fact 5 (f := .glo ("ties" : Str)) rfl)
  obtain ⟨fd_parts, D_parts⟩ := c.def_ 6 (d := d_parts) rfl
  have F_parts : Fun K ("parts" : Str) ("parts" : Str) s_parts _ fd_parts := Fun.ofD D_parts
  have b_parts := F_parts.binds (ps := [("claims" : Str), ("lot" : Str)]) fun _ _ _ _ _ _ us hl => match us, hl with | [_, _], _ => rfl
  have m_parts' := He.glo_ok X G (c.fact 6 (f := .glo ("parts" : Str)) rfl)
  obtain ⟨fd_meets, D_meets⟩ := c.def_ 7 (d := d_meets) rfl
  have F_meets : Fun K ("meets" : Str) ("meets" : Str) s_meets _ fd_meets := Fun.ofD D_meets
  have b_meets := F_meets.binds (ps := [("families" : Str), ("claim" : Str)]) fun _ _ _ _ _ _ us hl => match us, hl with | [_, _], _ => rfl
  have m_meets' := He.glo_ok X G (c.fact 7 (f := .glo ("meets" : Str)) rfl)
  obtain ⟨fd_is_lot, D_is_lot⟩ := c.def_ 8 (d := d_is_lot) rfl
  have F_is_lot : Fun K ("is_lot" : Str) ("is_lot" : Str) s_is_lot _ fd_is_lot := Fun.ofD D_is_lot
  have b_is_lot := F_is_lot.binds (ps := [("value" : Str), ("names" : Str)]) fun _ _ _ _ _ _ us hl => match us, hl with | [_, _], _ => rfl
  have m_is_lot' := He.glo_ok X G (c.fact 8 (f := .glo ("is_lot" : Str)) rfl)
  obtain ⟨fd_cross, D_cross⟩ := c.def_ 9 (d := d_cross) rfl
  have F_cross : Fun K ("cross" : Str) ("cross" : Str) s_cross _ fd_cross := Fun.ofD D_cross
  have b_cross := F_cross.binds (ps := [("one" : Str), ("other" : Str)]) fun _ _ _ _ _ _ us hl => match us, hl with | [_, _], _ => rfl
  have m_cross' := He.glo_ok X G (c.fact 9 (f := .glo ("cross" : Str)) rfl)
  obtain ⟨fd_are_families, D_are_families⟩ := c.def_ 10 (d := d_are_families) rfl
  have F_are_families : Fun K ("are_families" : Str) ("are_families" : Str) s_are_families _ fd_are_families := Fun.ofD D_are_families
  have b_are_families := F_are_families.binds (ps := [("value" : Str), ("names" : Str)]) fun _ _ _ _ _ _ us hl => match us, hl with | [_, _], _ => rfl
  have m_are_families' := He.glo_ok X G (c.fact 10 (f := .glo ("are_families" : Str)) rfl)
  obtain ⟨fd_is_tied, D_is_tied⟩ := c.def_ 11 (d := d_is_tied) rfl
  have F_is_tied : Fun K ("is_tied" : Str) ("is_tied" : Str) s_is_tied _ fd_is_tied := Fun.ofD D_is_tied
  have b_is_tied := F_is_tied.binds (ps := [("value" : Str), ("names" : Str), ("claims" : Str)]) fun _ _ _ _ _ _ us hl => match us, hl with | [_, _, _], _ => rfl
  have m_is_tied' := He.glo_ok X G (c.fact 11 (f := .glo ("is_tied" : Str)) rfl)
  obtain ⟨fd_accepts_grouping, D_accepts_grouping⟩ := c.def_ 12 (d := d_accepts_grouping) rfl
  have F_accepts_grouping : Fun K ("accepts_grouping" : Str) ("accepts_grouping" : Str) s_accepts_grouping _ fd_accepts_grouping := Fun.ofD D_accepts_grouping
  have b_accepts_grouping := F_accepts_grouping.binds (ps := [("names" : Str), ("claims" : Str), ("value" : Str)]) fun _ _ _ _ _ _ us hl => match us, hl with | [_, _, _], _ => rfl
  have m_accepts_grouping' := He.glo_ok X G (c.fact 12 (f := .glo ("accepts_grouping" : Str)) rfl)
  obtain ⟨fd_claims_of, D_claims_of⟩ := c.def_ 13 (d := d_claims_of) rfl
  have F_claims_of : Fun K ("claims_of" : Str) ("claims_of" : Str) s_claims_of _ fd_claims_of := Fun.ofD D_claims_of
  have b_claims_of := F_claims_of.binds (ps := [("names" : Str), ("families" : Str)]) fun _ _ _ _ _ _ us hl => match us, hl with | [_, _], _ => rfl
  have m_claims_of' := He.glo_ok X G (c.fact 13 (f := .glo ("claims_of" : Str)) rfl)
  obtain ⟨fd__law_state, D__law_state⟩ := c.def_ 14 (d := d__law_state) rfl
  have F__law_state : Fun K ("_law_state" : Str) ("_law_state" : Str) s__law_state _ fd__law_state := Fun.ofD D__law_state
  have b__law_state := F__law_state.binds (ps := [("script" : Str)]) fun _ _ _ _ _ _ us hl => match us, hl with | [_], _ => rfl
  have m__law_state' := He.glo_ok X G (c.fact 14 (f := .glo ("_law_state" : Str)) rfl)
  obtain ⟨fd__law_take, D__law_take⟩ := c.def_ 15 (d := d__law_take) rfl
  have F__law_take : Fun K ("_law_take" : Str) ("_law_take" : Str) s__law_take _ fd__law_take := Fun.ofD D__law_take
  have b__law_take := F__law_take.binds (ps := [("state" : Str), ("most" : Str)]) fun _ _ _ _ _ _ us hl => match us, hl with | [_, _], _ => rfl
  have m__law_take' := He.glo_ok X G (c.fact 15 (f := .glo ("_law_take" : Str)) rfl)
  obtain ⟨fd__law_pick, D__law_pick⟩ := c.def_ 16 (d := d__law_pick) rfl
  have F__law_pick : Fun K ("_law_pick" : Str) ("_law_pick" : Str) s__law_pick _ fd__law_pick := Fun.ofD D__law_pick
  have b__law_pick := F__law_pick.binds (ps := [("state" : Str), ("row" : Str)]) fun _ _ _ _ _ _ us hl => match us, hl with | [_, _], _ => rfl
  have m__law_pick' := He.glo_ok X G (c.fact 16 (f := .glo ("_law_pick" : Str)) rfl)
  obtain ⟨fd__law_parts, D__law_parts⟩ := c.def_ 17 (d := d__law_parts) rfl
  have F__law_parts : Fun K ("_law_parts" : Str) ("_law_parts" : Str) s__law_parts _ fd__law_parts := Fun.ofD D__law_parts
  have b__law_parts := F__law_parts.binds (ps := [("claims" : Str), ("lot" : Str)]) fun _ _ _ _ _ _ us hl => match us, hl with | [_, _], _ => rfl
  have m__law_parts' := He.glo_ok X G (c.fact 17 (f := .glo ("_law_parts" : Str)) rfl)
  obtain ⟨fd__law_meets, D__law_meets⟩ := c.def_ 18 (d := d__law_meets) rfl
  have F__law_meets : Fun K ("_law_meets" : Str) ("_law_meets" : Str) s__law_meets _ fd__law_meets := Fun.ofD D__law_meets
  have b__law_meets := F__law_meets.binds (ps := [("families" : Str), ("claim" : Str)]) fun _ _ _ _ _ _ us hl => match us, hl with | [_, _], _ => rfl
  have m__law_meets' := He.glo_ok X G (c.fact 18 (f := .glo ("_law_meets" : Str)) rfl)
  obtain ⟨fd__law_are_families, D__law_are_families⟩ := c.def_ 19 (d := d__law_are_families) rfl
  have F__law_are_families : Fun K ("_law_are_families" : Str) ("_law_are_families" : Str) s__law_are_families _ fd__law_are_families := Fun.ofD D__law_are_families
  have b__law_are_families := F__law_are_families.binds (ps := [("value" : Str), ("names" : Str)]) fun _ _ _ _ _ _ us hl => match us, hl with | [_, _], _ => rfl
  have m__law_are_families' := He.glo_ok X G (c.fact 19 (f := .glo ("_law_are_families" : Str)) rfl)
  obtain ⟨fd__law_is_lot, D__law_is_lot⟩ := c.def_ 20 (d := d__law_is_lot) rfl
  have F__law_is_lot : Fun K ("_law_is_lot" : Str) ("_law_is_lot" : Str) s__law_is_lot _ fd__law_is_lot := Fun.ofD D__law_is_lot
  have b__law_is_lot := F__law_is_lot.binds (ps := [("value" : Str), ("names" : Str)]) fun _ _ _ _ _ _ us hl => match us, hl with | [_, _], _ => rfl
  have m__law_is_lot' := He.glo_ok X G (c.fact 20 (f := .glo ("_law_is_lot" : Str)) rfl)
  obtain ⟨fd__law_is_tied, D__law_is_tied⟩ := c.def_ 21 (d := d__law_is_tied) rfl
  have F__law_is_tied : Fun K ("_law_is_tied" : Str) ("_law_is_tied" : Str) s__law_is_tied _ fd__law_is_tied := Fun.ofD D__law_is_tied
  have b__law_is_tied := F__law_is_tied.binds (ps := [("value" : Str), ("names" : Str), ("claims" : Str)]) fun _ _ _ _ _ _ us hl => match us, hl with | [_, _, _], _ => rfl
  have m__law_is_tied' := He.glo_ok X G (c.fact 21 (f := .glo ("_law_is_tied" : Str)) rfl)
  obtain ⟨fd__law_claim, D__law_claim⟩ := c.def_ 22 (d := d__law_claim) rfl
  have F__law_claim : Fun K ("_law_claim" : Str) ("_law_claim" : Str) s__law_claim _ fd__law_claim := Fun.ofD D__law_claim
  have b__law_claim := F__law_claim.binds (ps := [("state" : Str), ("names" : Str)]) fun _ _ _ _ _ _ us hl => match us, hl with | [_, _], _ => rfl
  have m__law_claim' := He.glo_ok X G (c.fact 22 (f := .glo ("_law_claim" : Str)) rfl)
  obtain ⟨fd__law_made, D__law_made⟩ := c.def_ 23 (d := d__law_made) rfl
  have F__law_made : Fun K ("_law_made" : Str) ("_law_made" : Str) s__law_made _ fd__law_made := Fun.ofD D__law_made
  have b__law_made := F__law_made.binds (ps := [("names" : Str), ("claims" : Str)]) fun _ _ _ _ _ _ us hl => match us, hl with | [_, _], _ => rfl
  have m__law_made' := He.glo_ok X G (c.fact 23 (f := .glo ("_law_made" : Str)) rfl)
  obtain ⟨fd__law_due, D__law_due⟩ := c.def_ 24 (d := d__law_due) rfl
  have F__law_due : Fun K ("_law_due" : Str) ("_law_due" : Str) s__law_due _ fd__law_due := Fun.ofD D__law_due
  have b__law_due := F__law_due.binds (ps := [("names" : Str), ("claims" : Str), ("value" : Str)]) fun _ _ _ _ _ _ us hl => match us, hl with | [_, _, _], _ => rfl
  have m__law_due' := He.glo_ok X G (c.fact 24 (f := .glo ("_law_due" : Str)) rfl)
  obtain ⟨fd__law_bent, D__law_bent⟩ := c.def_ 25 (d := d__law_bent) rfl
  have F__law_bent : Fun K ("_law_bent" : Str) ("_law_bent" : Str) s__law_bent _ fd__law_bent := Fun.ofD D__law_bent
  have b__law_bent := F__law_bent.binds (ps := [("state" : Str), ("names" : Str), ("value" : Str)]) fun _ _ _ _ _ _ us hl => match us, hl with | [_, _, _], _ => rfl
  have m__law_bent' := He.glo_ok X G (c.fact 25 (f := .glo ("_law_bent" : Str)) rfl)
  obtain ⟨fd__law_says, D__law_says⟩ := c.def_ 26 (d := d__law_says) rfl
  have F__law_says : Fun K ("_law_says" : Str) ("_law_says" : Str) s__law_says _ fd__law_says := Fun.ofD D__law_says
  have b__law_says := F__law_says.binds (ps := [("told" : Str), ("due" : Str)]) fun _ _ _ _ _ _ us hl => match us, hl with | [_, _], _ => rfl
  have m__law_says' := He.glo_ok X G (c.fact 26 (f := .glo ("_law_says" : Str)) rfl)
  obtain ⟨fd_law, D_law⟩ := c.def_ 27 (d := d_law) rfl
  have F_law : Fun K ("law" : Str) ("law" : Str) s_law _ fd_law := Fun.ofD D_law
  have b_law := F_law.binds (ps := [("script" : Str)]) fun _ _ _ _ _ _ us hl => match us, hl with | [_], _ => rfl
  have m_law' := He.glo_ok X G (c.fact 27 (f := .glo ("law" : Str)) rfl)
  have e := hfa.symm.trans m_law'
  cases e
  have T : Tx K mg := ⟨He.free_ok X G (c.fact 28 (f := .free ("abs" : Str)) rfl), He.free_ok X G (c.fact 29 (f := .free ("all" : Str)) rfl), He.free_ok X G (c.fact 30 (f := .free ("any" : Str)) rfl), He.free_ok X G (c.fact 31 (f := .free ("bool" : Str)) rfl), He.free_ok X G (c.fact 32 (f := .free ("int" : Str)) rfl), He.free_ok X G (c.fact 33 (f := .free ("isinstance" : Str)) rfl), He.free_ok X G (c.fact 34 (f := .free ("len" : Str)) rfl), He.free_ok X G (c.fact 35 (f := .free ("list" : Str)) rfl), He.free_ok X G (c.fact 36 (f := .free ("range" : Str)) rfl), He.free_ok X G (c.fact 37 (f := .free ("set" : Str)) rfl), He.free_ok X G (c.fact 38 (f := .free ("str" : Str)) rfl), He.free_ok X G (c.fact 39 (f := .free ("tuple" : Str)) rfl), He.int_ok X G (c.fact 40 (f := .int ("MOST_NAMES" : Str) 40) rfl)⟩
  have b := FunD.bindsA (ps := ["script"]) D_law fun _ _ _ _ _ _ us hl => match us, hl with | [_], _ => rfl
  refine ⟨fd_law, fun s v => b s [v] rfl, fun base _ _ => ?_⟩
  have g__law_take : FnAt tz P w K mg base 1 ("_law_take" : Str) 2 f__law_take := FnAt.of (ok__law_take F__law_take T ) rfl m__law_take' F__law_take.kp b__law_take
  have g_is_siglum : FnAt tz P w K mg base 1 ("is_siglum" : Str) 1 f_is_siglum := FnAt.of (ok_is_siglum F_is_siglum T ) rfl m_is_siglum' F_is_siglum.kp b_is_siglum
  have g_in_order : FnAt tz P w K mg base 1 ("in_order" : Str) 2 f_in_order := FnAt.of (ok_in_order F_in_order T ) rfl m_in_order' F_in_order.kp b_in_order
  have g_ties : FnAt tz P w K mg base 1 ("ties" : Str) 2 f_ties := FnAt.of (ok_ties F_ties T ) rfl m_ties' F_ties.kp b_ties
  have g_meets : FnAt tz P w K mg base 1 ("meets" : Str) 2 f_meets := FnAt.of (ok_meets F_meets T ) rfl m_meets' F_meets.kp b_meets
  have g_cross : FnAt tz P w K mg base 1 ("cross" : Str) 2 f_cross := FnAt.of (ok_cross F_cross T ) rfl m_cross' F_cross.kp b_cross
  have g__law_parts : FnAt tz P w K mg base 1 ("_law_parts" : Str) 2 f__law_parts := FnAt.of (ok__law_parts F__law_parts T ) rfl m__law_parts' F__law_parts.kp b__law_parts
  have g__law_meets : FnAt tz P w K mg base 1 ("_law_meets" : Str) 2 f__law_meets := FnAt.of (ok__law_meets F__law_meets T ) rfl m__law_meets' F__law_meets.kp b__law_meets
  have g__law_are_families : FnAt tz P w K mg base 1 ("_law_are_families" : Str) 2 f__law_are_families := FnAt.of (ok__law_are_families F__law_are_families T ) rfl m__law_are_families' F__law_are_families.kp b__law_are_families
  have g__law_is_lot : FnAt tz P w K mg base 1 ("_law_is_lot" : Str) 2 f__law_is_lot := FnAt.of (ok__law_is_lot F__law_is_lot T ) rfl m__law_is_lot' F__law_is_lot.kp b__law_is_lot
  have g__law_says : FnAt tz P w K mg base 1 ("_law_says" : Str) 2 f__law_says := FnAt.of (ok__law_says F__law_says T ) rfl m__law_says' F__law_says.kp b__law_says
  have g_is_names : FnAt tz P w K mg base 2 ("is_names" : Str) 1 f_is_names := FnAt.of (ok_is_names F_is_names T g_is_siglum) rfl m_is_names' F_is_names.kp b_is_names
  have g_parts : FnAt tz P w K mg base 2 ("parts" : Str) 2 f_parts := FnAt.of (ok_parts F_parts T g_in_order g_ties) rfl m_parts' F_parts.kp b_parts
  have g_claims_of : FnAt tz P w K mg base 2 ("claims_of" : Str) 2 f_claims_of := FnAt.of (ok_claims_of F_claims_of T g_meets) rfl m_claims_of' F_claims_of.kp b_claims_of
  have g__law_pick : FnAt tz P w K mg base 2 ("_law_pick" : Str) 2 f__law_pick := FnAt.of (ok__law_pick F__law_pick T g__law_take) rfl m__law_pick' F__law_pick.kp b__law_pick
  have g__law_is_tied : FnAt tz P w K mg base 2 ("_law_is_tied" : Str) 3 f__law_is_tied := FnAt.of (ok__law_is_tied F__law_is_tied T g__law_parts g__law_is_lot) rfl m__law_is_tied' F__law_is_tied.kp b__law_is_tied
  have g__law_claim : FnAt tz P w K mg base 2 ("_law_claim" : Str) 2 f__law_claim := FnAt.of (ok__law_claim F__law_claim T g__law_take) rfl m__law_claim' F__law_claim.kp b__law_claim
  have g__law_made : FnAt tz P w K mg base 2 ("_law_made" : Str) 2 f__law_made := FnAt.of (ok__law_made F__law_made T g__law_parts) rfl m__law_made' F__law_made.kp b__law_made
  have g_is_claim : FnAt tz P w K mg base 3 ("is_claim" : Str) 2 f_is_claim := FnAt.of (ok_is_claim F_is_claim T g_is_names) rfl m_is_claim' F_is_claim.kp b_is_claim
  have g_is_lot : FnAt tz P w K mg base 3 ("is_lot" : Str) 2 f_is_lot := FnAt.of (ok_is_lot F_is_lot T g_in_order g_is_names) rfl m_is_lot' F_is_lot.kp b_is_lot
  have g__law_due : FnAt tz P w K mg base 3 ("_law_due" : Str) 3 f__law_due := FnAt.of (ok__law_due F__law_due T g__law_meets g__law_are_families g__law_is_tied) rfl m__law_due' F__law_due.kp b__law_due
  have g__law_bent : FnAt tz P w K mg base 3 ("_law_bent" : Str) 3 f__law_bent := FnAt.of (ok__law_bent F__law_bent T g__law_pick g__law_take) rfl m__law_bent' F__law_bent.kp b__law_bent
  have g_are_claims : FnAt tz P w K mg base 4 ("are_claims" : Str) 2 f_are_claims := FnAt.of (ok_are_claims F_are_claims T g_is_claim) rfl m_are_claims' F_are_claims.kp b_are_claims
  have g_are_families : FnAt tz P w K mg base 4 ("are_families" : Str) 2 f_are_families := FnAt.of (ok_are_families F_are_families T g_cross g_is_lot) rfl m_are_families' F_are_families.kp b_are_families
  have g_is_tied : FnAt tz P w K mg base 4 ("is_tied" : Str) 3 f_is_tied := FnAt.of (ok_is_tied F_is_tied T g_parts g_is_lot) rfl m_is_tied' F_is_tied.kp b_is_tied
  have g_accepts_grouping : FnAt tz P w K mg base 5 ("accepts_grouping" : Str) 3 f_accepts_grouping := FnAt.of (ok_accepts_grouping F_accepts_grouping T g_meets g_are_families g_is_tied g_are_claims g_is_names) rfl m_accepts_grouping' F_accepts_grouping.kp b_accepts_grouping
  exact ok_law F_law T (ok__law_state F__law_state T) m__law_state' F__law_state.kp b__law_state g_accepts_grouping g__law_says g_are_claims g_is_claim g_claims_of g__law_meets g__law_claim g_meets g__law_are_families g_are_families g__law_is_tied g_is_tied g__law_due g__law_bent g__law_made g__law_take plain
end K29

namespace K29
section
variable {α : Type} [DecidableEq α]
/-! ### what hangs together -/
def step (near : List α) (p : α × α) : List α := if p.1 ∈ near then (if p.2 ∈ near then near else near ++ [p.2]) else if p.2 ∈ near then near ++ [p.1] else near
def pass (ps : List (α × α)) (near : List α) : List α := ps.foldl step near
def nearN (ps : List (α × α)) : Nat → List α → List α
  | 0, n => n
  | k + 1, n => nearN ps k (pass ps n)
theorem step_cases (near : List α) (p : α × α) : (step near p = near ∧ (p.1 ∈ near ↔ p.2 ∈ near)) ∨ ∃ y, step near p = near ++ [y] ∧ y ∉ near ∧ ((y = p.2 ∧ p.1 ∈ near) ∨ (y = p.1 ∧ p.2 ∈ near)) := by
  unfold step
  by_cases h1 : p.1 ∈ near
  · by_cases h2 : p.2 ∈ near
    · left; simp [h1, h2]
    · right; exact ⟨p.2, by simp [h1, h2], h2, .inl ⟨rfl, h1⟩⟩
  · by_cases h2 : p.2 ∈ near
    · right; exact ⟨p.1, by simp [h1, h2], h1, .inr ⟨rfl, h2⟩⟩
    · left; simp [h1, h2]
theorem step_len (near : List α) (p : α × α) : near.length ≤ (step near p).length := by
  rcases step_cases near p with ⟨e, _⟩ | ⟨y, e, _⟩ <;> rw [e] <;> simp
theorem step_sub (near : List α) (p : α × α) {x : α} (h : x ∈ near) : x ∈ step near p := by
  rcases step_cases near p with ⟨e, _⟩ | ⟨y, e, _⟩ <;> rw [e] <;> simp [h]
theorem pass_len (ps : List (α × α)) : ∀ near : List α, near.length ≤ (pass ps near).length := by
  induction ps with
  | nil => intro near; exact Nat.le_refl _
  | cons p ps ih => intro near; exact Nat.le_trans (step_len near p) (ih _)
theorem pass_sub (ps : List (α × α)) {x : α} : ∀ near : List α, x ∈ near → x ∈ pass ps near := by
  induction ps with
  | nil => intro near h; exact h
  | cons p ps ih => intro near h; exact ih _ (step_sub near p h)
theorem pass_nodup (ps : List (α × α)) : ∀ near : List α, near.Nodup → (pass ps near).Nodup := by
  induction ps with
  | nil => intro near h; exact h
  | cons p ps ih =>
    intro near h
    refine ih _ ?_
    rcases step_cases near p with ⟨e, _⟩ | ⟨y, e, hy, _⟩
    · rw [e]; exact h
    · rw [e, List.nodup_append]
      refine ⟨h, by simp, fun a ha b hb => ?_⟩
      simp at hb
      subst hb
      rintro rfl
      exact hy ha
/-- a set that pairs do not leave -/
def Closed (ps : List (α × α)) (S : α → Prop) : Prop := ∀ p ∈ ps, S p.1 ↔ S p.2
theorem pass_in {ps : List (α × α)} {S : α → Prop} (c : Closed ps S) : ∀ near : List α, (∀ x ∈ near, S x) → ∀ x ∈ pass ps near, S x := by
  induction ps with
  | nil => intro near h; exact h
  | cons p ps ih =>
    intro near h
    refine ih (fun q hq => c q (List.mem_cons_of_mem _ hq)) _ ?_
    intro x hx
    have cp := c p List.mem_cons_self
    rcases step_cases near p with ⟨e, _⟩ | ⟨y, e, hy, hh⟩
    · rw [e] at hx; exact h x hx
    · rw [e, List.mem_append] at hx
      rcases hx with hx | hx
      · exact h x hx
      · simp at hx
        subst hx
        rcases hh with ⟨rfl, q⟩ | ⟨rfl, q⟩
        · exact cp.mp (h _ q)
        · exact cp.mpr (h _ q)
theorem pass_inlot {ps : List (α × α)} {lot : List α} (hp : ∀ p ∈ ps, p.1 ∈ lot ∧ p.2 ∈ lot) (near : List α) (h : ∀ x ∈ near, x ∈ lot) : ∀ x ∈ pass ps near, x ∈ lot :=
  pass_in (S := fun x => x ∈ lot) (fun p hq => ⟨fun _ => (hp p hq).2, fun _ => (hp p hq).1⟩) near h
theorem pass_eq_of_len {ps : List (α × α)} : ∀ {near : List α}, (pass ps near).length ≤ near.length → pass ps near = near ∧ Closed ps (fun x => x ∈ near) := by
  induction ps with
  | nil => intro near _; exact ⟨rfl, fun p hp => by cases hp⟩
  | cons p ps ih =>
    intro near h
    have h1 : pass (p :: ps) near = pass ps (step near p) := rfl
    rw [h1] at h
    have h2 := pass_len ps (step near p)
    rcases step_cases near p with ⟨e, hi⟩ | ⟨y, e, _⟩
    · rw [e] at h
      obtain ⟨a, b⟩ := ih h
      rw [h1, e]
      refine ⟨a, fun q hq => ?_⟩
      rcases List.mem_cons.mp hq with rfl | hq
      · exact hi
      · exact b q hq
    · rw [e, List.length_append, List.length_singleton] at h2
      rw [e] at h
      omega
theorem closed_of_fix {ps : List (α × α)} {near : List α} (h : pass ps near = near) : Closed ps (fun x => x ∈ near) := (pass_eq_of_len (by rw [h]; exact Nat.le_refl _)).2
theorem nodup_sub_len : ∀ (l D : List α), l.Nodup → (∀ x ∈ l, x ∈ D) → l.length ≤ D.length
  | [], _, _, _ => Nat.zero_le _
  | x :: l, D, hn, hs => by
    obtain ⟨h1, h2⟩ := List.nodup_cons.mp hn
    have hx : x ∈ D := hs x List.mem_cons_self
    have ih := nodup_sub_len l (D.erase x) h2 fun y hy => (List.mem_erase_of_ne fun e => h1 (by rw [← e]; exact hy)).2 (hs y (List.mem_cons_of_mem _ hy))
    have e := List.length_erase_of_mem hx
    have hp : 0 < D.length := List.length_pos_of_mem hx
    rw [List.length_cons]
    omega
theorem nearN_const {ps : List (α × α)} {n : List α} (h : pass ps n = n) : ∀ k, nearN ps k n = n
  | 0 => rfl
  | k + 1 => by rw [nearN, h]; exact nearN_const h k
theorem nearN_pass (ps : List (α × α)) : ∀ k n, nearN ps k (pass ps n) = pass ps (nearN ps k n)
  | 0, n => rfl
  | k + 1, n => by rw [nearN, nearN_pass ps k (pass ps n)]; rfl
theorem nearN_fix {ps : List (α × α)} {lot : List α} (hp : ∀ p ∈ ps, p.1 ∈ lot ∧ p.2 ∈ lot) : ∀ (k : Nat) (n : List α), n.Nodup → (∀ x ∈ n, x ∈ lot) → lot.length ≤ n.length + k → pass ps (nearN ps k n) = nearN ps k n
  | 0, n, hn, hl, hk => by
    have := nodup_sub_len _ lot (pass_nodup ps n hn) (pass_inlot hp n hl)
    exact (pass_eq_of_len (show (pass ps n).length ≤ n.length by omega)).1
  | k + 1, n, hn, hl, hk => by
    by_cases e : (pass ps n).length ≤ n.length
    · have f := (pass_eq_of_len e).1
      rw [nearN_const f]; exact f
    · exact nearN_fix hp k (pass ps n) (pass_nodup ps n hn) (pass_inlot hp n hl) (by omega)
/-- what hangs together with x -/
def near (ps : List (α × α)) (lot : List α) (x : α) : List α := nearN ps lot.length [x]
theorem nearN_in {ps : List (α × α)} {S : α → Prop} (c : Closed ps S) : ∀ (k : Nat) (n : List α), (∀ x ∈ n, S x) → ∀ x ∈ nearN ps k n, S x
  | 0, n, h => h
  | k + 1, n, h => nearN_in c k _ (pass_in c n h)
theorem nearN_sub (ps : List (α × α)) {x : α} : ∀ (k : Nat) (n : List α), x ∈ n → x ∈ nearN ps k n
  | 0, n, h => h
  | k + 1, n, h => nearN_sub ps k _ (pass_sub ps n h)
theorem near_self (ps : List (α × α)) (lot : List α) (x : α) : x ∈ near ps lot x := nearN_sub ps _ _ (by simp)
theorem near_fix {ps : List (α × α)} {lot : List α} (hp : ∀ p ∈ ps, p.1 ∈ lot ∧ p.2 ∈ lot) {x : α} (hx : x ∈ lot) : pass ps (near ps lot x) = near ps lot x :=
  nearN_fix hp _ _ (by simp) (by simpa using hx) (by simp)
theorem near_closed {ps : List (α × α)} {lot : List α} (hp : ∀ p ∈ ps, p.1 ∈ lot ∧ p.2 ∈ lot) {x : α} (hx : x ∈ lot) : Closed ps (fun y => y ∈ near ps lot x) := closed_of_fix (near_fix hp hx)
theorem near_in {ps : List (α × α)} {lot : List α} {S : α → Prop} (c : Closed ps S) {x : α} (hx : S x) : ∀ y ∈ near ps lot x, S y := nearN_in c _ _ (by simpa using hx)
/-- the parts of a lot -/
def partsL (ps : List (α × α)) (lot : List α) : Nat → List α → List (List α)
  | 0, _ => []
  | _ + 1, [] => []
  | n + 1, x :: r => lot.filter (· ∈ near ps lot x) :: partsL ps lot n ((x :: r).filter (· ∉ near ps lot x))
def partsOf (ps : List (α × α)) (lot : List α) : List (List α) := partsL ps lot lot.length lot
structure PartsOk (ps : List (α × α)) (lot left : List α) (P : List (List α)) : Prop where
  part : ∀ p ∈ P, p ≠ [] ∧ (∃ q : α → Bool, p = lot.filter q) ∧ ∀ x ∈ p, x ∈ left
  disj : P.Pairwise fun p q => ∀ x ∈ p, x ∉ q
  all : ∀ x ∈ left, ∃ p ∈ P, x ∈ p
  pair : ∀ r ∈ ps, ∀ p ∈ P, r.1 ∈ p ↔ r.2 ∈ p
  sum : (P.map List.length).sum = left.length
omit [DecidableEq α] in
theorem filter_not_len (l : List α) (p : α → Bool) : (l.filter p).length + (l.filter fun x => !p x).length = l.length := by
  induction l with
  | nil => rfl
  | cons a l ih =>
    by_cases h : p a = true
    · rw [List.filter_cons_of_pos h, List.filter_cons_of_neg (by simp [h])]; simp only [List.length_cons]; omega
    · rw [List.filter_cons_of_neg h, List.filter_cons_of_pos (by simp [h])]; simp only [List.length_cons]; omega
theorem partsL_ok {ps : List (α × α)} {lot : List α} (hp : ∀ p ∈ ps, p.1 ∈ lot ∧ p.2 ∈ lot) : ∀ (n : Nat) (left : List α), left.length ≤ n → (∃ q : α → Bool, left = lot.filter q) → Closed ps (fun x => x ∈ left) → PartsOk ps lot left (partsL ps lot n left)
  | 0, left, hn, hq, c => by
    have : left = [] := List.eq_nil_of_length_eq_zero (by omega)
    subst this
    exact ⟨by simp [partsL], by simp [partsL], by simp, by simp [partsL], by simp [partsL]⟩
  | n + 1, [], hn, hq, c => ⟨by simp [partsL], by simp [partsL], by simp, by simp [partsL], by simp [partsL]⟩
  | n + 1, x :: r, hn, hq, c => by
    obtain ⟨q, hq⟩ := hq
    have sub : ∀ y ∈ x :: r, y ∈ lot := fun y hy => by rw [hq] at hy; exact (List.mem_filter.mp hy).1
    have hx : x ∈ lot := sub x List.mem_cons_self
    have nc := near_closed hp hx
    have ns : ∀ y ∈ near ps lot x, y ∈ x :: r := near_in (S := fun y => y ∈ x :: r) c List.mem_cons_self
    have e1 : lot.filter (· ∈ near ps lot x) = (x :: r).filter (· ∈ near ps lot x) := by
      rw [hq, List.filter_filter]
      apply List.filter_congr
      intro y hy
      by_cases m : y ∈ near ps lot x
      · have := ns y m
        rw [hq] at this
        simp [m, (List.mem_filter.mp this).2]
      · simp [m]
    have e2 : (x :: r).filter (· ∉ near ps lot x) = lot.filter fun y => !decide (y ∈ near ps lot x) && q y := by
      rw [hq, List.filter_filter]
      apply List.filter_congr
      intro y hy
      simp
    have ih := partsL_ok hp n ((x :: r).filter (· ∉ near ps lot x)) (by
        have := filter_not_len (x :: r) (fun y => decide (y ∈ near ps lot x))
        have h1 : 0 < ((x :: r).filter (fun y => decide (y ∈ near ps lot x))).length := List.length_pos_of_mem (a := x) (List.mem_filter.mpr ⟨List.mem_cons_self, by simpa using near_self ps lot x⟩)
        simp only [decide_not] at *
        omega) ⟨_, e2⟩ fun p hpp => by
          have a := c p hpp
          have b := nc p hpp
          simp only [List.mem_filter, decide_not, Bool.not_eq_true', decide_eq_false_iff_not]
          exact ⟨fun z => ⟨a.mp z.1, fun w => z.2 (b.mpr w)⟩, fun z => ⟨a.mpr z.1, fun w => z.2 (b.mp w)⟩⟩
    rw [partsL]
    refine ⟨?_, ?_, ?_, ?_, ?_⟩
    · intro p hm
      rcases List.mem_cons.mp hm with rfl | hm
      · refine ⟨fun z => ?_, ⟨_, rfl⟩, fun y hy => ?_⟩
        · have : x ∈ lot.filter (· ∈ near ps lot x) := List.mem_filter.mpr ⟨hx, by simpa using near_self ps lot x⟩
          rw [z] at this; cases this
        · exact ns y (by simpa using (List.mem_filter.mp hy).2)
      · obtain ⟨a, b, d⟩ := ih.part p hm
        exact ⟨a, b, fun y hy => (List.mem_filter.mp (d y hy)).1⟩
    · refine List.pairwise_cons.mpr ⟨fun p hm y hy hy2 => ?_, ih.disj⟩
      have h1 := (ih.part p hm).2.2 y hy2
      have h2 := (List.mem_filter.mp h1).2
      have h3 := (List.mem_filter.mp hy).2
      simp at h2 h3
      exact h2 h3
    · intro y hy
      by_cases m : y ∈ near ps lot x
      · exact ⟨_, List.mem_cons_self, List.mem_filter.mpr ⟨sub y hy, by simpa using m⟩⟩
      · obtain ⟨p, h1, h2⟩ := ih.all y (List.mem_filter.mpr ⟨hy, by simpa using m⟩)
        exact ⟨p, List.mem_cons_of_mem _ h1, h2⟩
    · intro s hs p hm
      rcases List.mem_cons.mp hm with rfl | hm
      · have b := nc s hs
        have l := hp s hs
        simp only [List.mem_filter, decide_eq_true_eq, l.1, l.2, true_and]
        exact b
      · exact ih.pair s hs p hm
    · rw [List.map_cons, List.sum_cons, ih.sum, e1]
      have := filter_not_len (x :: r) (fun y => decide (y ∈ near ps lot x))
      simpa using this
theorem partsOf_ok {ps : List (α × α)} {lot : List α} (hp : ∀ p ∈ ps, p.1 ∈ lot ∧ p.2 ∈ lot) : PartsOk ps lot lot (partsOf ps lot) :=
  partsL_ok hp _ _ (Nat.le_refl _) ⟨fun _ => true, (List.filter_eq_self.mpr fun _ _ => rfl).symm⟩ fun p h => ⟨fun _ => (hp p h).2, fun _ => (hp p h).1⟩
end
end K29
namespace K29
section
variable {α : Type} [DecidableEq α]
def prs (cs : List (α × α × α)) (W : List α) : List (α × α) := (cs.filter fun c => decide (c.1 ∈ W) && (decide (c.2.1 ∈ W) && decide (c.2.2 ∈ W))).map fun c => (c.1, c.2.1)
theorem prs_mem {cs : List (α × α × α)} {W : List α} {p : α × α} : p ∈ prs cs W ↔ ∃ c ∈ cs, p = (c.1, c.2.1) ∧ c.1 ∈ W ∧ c.2.1 ∈ W ∧ c.2.2 ∈ W := by
  unfold prs
  simp only [List.mem_map, List.mem_filter, Bool.and_eq_true, decide_eq_true_eq]
  constructor
  · rintro ⟨c, ⟨h1, h2⟩, rfl⟩; exact ⟨c, h1, rfl, h2⟩
  · rintro ⟨c, h1, rfl, h2⟩; exact ⟨c, ⟨h1, h2⟩, rfl⟩
theorem prs_in {cs : List (α × α × α)} {W : List α} : ∀ p ∈ prs cs W, p.1 ∈ W ∧ p.2 ∈ W := by
  intro p hp
  obtain ⟨c, _, rfl, h1, h2, _⟩ := prs_mem.mp hp
  exact ⟨h1, h2⟩
def Disj (F G : List α) : Prop := ∀ x ∈ F, x ∉ G
def Sub (F G : List α) : Prop := ∀ x ∈ F, x ∈ G
def Lot (N F : List α) : Prop := F ≠ [] ∧ ∃ q : α → Bool, F = N.filter q
theorem Lot.eq {N F : List α} (h : Lot N F) : F = N.filter (· ∈ F) := by
  obtain ⟨_, q, e⟩ := h
  have : N.filter (· ∈ F) = N.filter q := by
    apply List.filter_congr
    intro x hx
    rw [e]
    simp [hx]
  rw [this]; exact e
theorem Lot.sub {N F : List α} (h : Lot N F) : Sub F N := by
  obtain ⟨_, q, e⟩ := h
  intro x hx
  rw [e] at hx
  exact (List.mem_filter.mp hx).1
theorem Lot.nodup {N F : List α} (h : Lot N F) (hN : N.Nodup) : F.Nodup := by
  obtain ⟨_, q, e⟩ := h
  rw [e]; exact hN.filter _
theorem Lot.len {N F : List α} (h : Lot N F) : F.length ≤ N.length := by
  obtain ⟨_, q, e⟩ := h
  rw [e]; exact List.length_filter_le _ _
def Lam (F G : List α) : Prop := Disj F G ∨ Sub F G ∨ Sub G F
def Cross (F G : List α) : Prop := 0 < (F.filter (· ∈ G)).length ∧ (F.filter (· ∈ G)).length < F.length ∧ (F.filter (· ∈ G)).length < G.length
theorem Lam.nocross {F G : List α} (h : Lam F G) (hG : G.Nodup) : ¬ Cross F G := by
  rintro ⟨h1, h2, h3⟩
  rcases h with h | h | h
  · have : F.filter (· ∈ G) = [] := List.filter_eq_nil_iff.mpr fun x hx => by simpa using h x hx
    rw [this] at h1; simp at h1
  · have : F.filter (· ∈ G) = F := List.filter_eq_self.mpr fun x hx => by simpa using h x hx
    rw [this] at h2; omega
  · have := nodup_sub_len G (F.filter (· ∈ G)) hG fun x hx => List.mem_filter.mpr ⟨h x hx, by simpa using hx⟩
    omega
def Met (F : List (List α)) (c : α × α × α) : Prop := ∃ f ∈ F, c.1 ∈ f ∧ c.2.1 ∈ f ∧ c.2.2 ∉ f
/-- what is left to be parted -/
def pot (ws : List (List α)) : Nat := (ws.map fun w => w.length - 1).sum
structure MInv (N : List α) (cs : List (α × α × α)) (i : Nat) (fams ws : List (List α)) : Prop where
  lf : ∀ F ∈ fams, Lot N F ∧ 1 < F.length
  lw : ∀ F ∈ ws, Lot N F ∧ 1 < F.length
  lam : ∀ F ∈ fams, ∀ G ∈ fams, Lam F G
  fw : ∀ F ∈ fams, ∀ W ∈ ws, Disj F W ∨ Sub W F
  wd : ws.Pairwise Disj
  met : ∀ c ∈ cs, Met fams c ∨ ∃ W ∈ ws, c.1 ∈ W ∧ c.2.1 ∈ W ∧ c.2.2 ∈ W
  sum : pot ws + i ≤ N.length - 1
  cnt : fams.length + 2 * pot ws ≤ 2 * (N.length - 1)
omit [DecidableEq α] in
theorem pot_app (a b : List (List α)) : pot (a ++ b) = pot a + pot b := by simp [pot]
omit [DecidableEq α] in
theorem pot_filter (P : List (List α)) : pot (P.filter fun p => decide (1 < p.length)) = pot P := by
  induction P with
  | nil => rfl
  | cons p P ih =>
    by_cases h : 1 < p.length
    · rw [List.filter_cons_of_pos (by simpa using h)]; simp only [pot, List.map_cons, List.sum_cons] at ih ⊢; rw [ih]
    · rw [List.filter_cons_of_neg (by simpa using h), ih]; simp only [pot, List.map_cons, List.sum_cons]; omega
omit [DecidableEq α] in
theorem pot_parts {P : List (List α)} (h : ∀ p ∈ P, p ≠ []) : pot P + P.length = (P.map List.length).sum := by
  induction P with
  | nil => rfl
  | cons p P ih =>
    have h1 := ih fun q hq => h q (List.mem_cons_of_mem _ hq)
    have h2 : 0 < p.length := List.length_pos_iff.mpr (h p List.mem_cons_self)
    simp only [pot, List.map_cons, List.sum_cons, List.length_cons] at h1 ⊢
    omega
theorem disj_symm {F G : List α} (h : Disj F G) : Disj G F := fun x hx hy => h x hy hx
theorem made_start {N : List α} {cs : List (α × α × α)} (h1 : 1 < N.length) (hc : ∀ c ∈ cs, c.1 ∈ N ∧ c.2.1 ∈ N ∧ c.2.2 ∈ N) : MInv N cs 0 [] [N] :=
  ⟨by simp, fun F hF => by
    simp at hF
    subst hF
    exact ⟨⟨fun z => by rw [z] at h1; simp at h1, fun _ => true, (List.filter_eq_self.mpr fun _ _ => rfl).symm⟩, h1⟩, by simp, by simp, by simp, fun c h => .inr ⟨N, by simp, hc c h⟩, by simp [pot], by simp [pot]⟩
theorem made_step {N : List α} {cs : List (α × α × α)} {i : Nat} {fams ws : List (List α)} {W : List α} (h : MInv N cs i fams (ws ++ [W])) (hd : ∀ c ∈ cs, c.1 ≠ c.2.1)
    (hP : (partsOf (prs cs W) W).length ≠ 1) :
    MInv N cs (i + 1) (fams ++ (partsOf (prs cs W) W).filter fun p => decide (1 < p.length)) (ws ++ (partsOf (prs cs W) W).filter fun p => decide (1 < p.length)) := by
  have ok := partsOf_ok (ps := prs cs W) (lot := W) prs_in
  have hW := h.lw W (by simp)
  generalize partsOf (prs cs W) W = P at ok hP ⊢
  have wf : ∀ F ∈ fams, Disj F W ∨ Sub W F := fun F hF => h.fw F hF W (by simp)
  have ww : ∀ V ∈ ws, Disj V W := fun V hV => (List.pairwise_append.mp h.wd).2.2 V hV W (by simp)
  have psub : ∀ p ∈ P, Sub p W := fun p hp => (ok.part p hp).2.2
  have dp : ∀ {F p : List α}, p ∈ P → (Disj F W ∨ Sub W F) → Disj F p ∨ Sub p F := fun hp hh => hh.elim (fun d => .inl fun x hx hy => d x hx (psub _ hp x hy)) fun s => .inr fun x hx => s x (psub _ hp x hx)
  have pd : ∀ p ∈ P, ∀ q ∈ P, p = q ∨ Disj p q := by
    intro p hp q hq
    obtain ⟨a, ha, rfl⟩ := List.mem_iff_getElem.mp hp
    obtain ⟨b, hb, rfl⟩ := List.mem_iff_getElem.mp hq
    rcases Nat.lt_trichotomy a b with c | c | c
    · exact .inr (List.pairwise_iff_getElem.mp ok.disj a b ha hb c)
    · subst c; exact .inl rfl
    · exact .inr (disj_symm (List.pairwise_iff_getElem.mp ok.disj b a hb ha c))
  have f1 : ∀ {p}, p ∈ P.filter (fun p => decide (1 < p.length)) → p ∈ P ∧ 1 < p.length := fun hp => ⟨(List.mem_filter.mp hp).1, by simpa using (List.mem_filter.mp hp).2⟩
  have plot : ∀ p ∈ P, Lot N p := fun p hp => by
    obtain ⟨a, ⟨q, e⟩, _⟩ := ok.part p hp
    obtain ⟨_, q2, e2⟩ := hW.1
    exact ⟨a, fun x => q x && q2 x, by rw [e, e2, List.filter_filter]⟩
  have n2 : 2 ≤ P.length := by
    rcases Nat.lt_or_ge P.length 2 with c | c
    · have : P.length = 0 := by omega
      have e := List.eq_nil_of_length_eq_zero this
      have := ok.sum
      rw [e] at this
      simp at this
      have := hW.2
      omega
    · exact c
  have su := pot_parts fun p hp => (ok.part p hp).1
  rw [ok.sum] at su
  have hs := h.sum
  have hc := h.cnt
  rw [pot_app] at hs hc
  have e1 : pot [W] = W.length - 1 := by simp [pot]
  rw [e1] at hs hc
  refine ⟨?_, ?_, ?_, ?_, ?_, ?_, ?_, ?_⟩
  · intro F hF
    rcases List.mem_append.mp hF with hF | hF
    · exact h.lf F hF
    · exact ⟨plot F (f1 hF).1, (f1 hF).2⟩
  · intro F hF
    rcases List.mem_append.mp hF with hF | hF
    · exact h.lw F (by simp [hF])
    · exact ⟨plot F (f1 hF).1, (f1 hF).2⟩
  · intro F hF G hG
    rcases List.mem_append.mp hF with hF | hF
    · rcases List.mem_append.mp hG with hG | hG
      · exact h.lam F hF G hG
      · rcases dp (f1 hG).1 (wf F hF) with d | d
        · exact .inl d
        · exact .inr (.inr d)
    · rcases List.mem_append.mp hG with hG | hG
      · rcases dp (f1 hF).1 (wf G hG) with d | d
        · exact .inl (disj_symm d)
        · exact .inr (.inl d)
      · rcases pd F (f1 hF).1 G (f1 hG).1 with e | d
        · subst e; exact .inr (.inl fun x hx => hx)
        · exact .inl d
  · intro F hF V hV
    rcases List.mem_append.mp hF with hF | hF
    · rcases List.mem_append.mp hV with hV | hV
      · exact h.fw F hF V (by simp [hV])
      · exact dp (f1 hV).1 (wf F hF)
    · rcases List.mem_append.mp hV with hV | hV
      · exact .inl fun x hx hy => ww V hV x hy (psub F (f1 hF).1 x hx)
      · rcases pd F (f1 hF).1 V (f1 hV).1 with e | d
        · subst e; exact .inr fun x hx => hx
        · exact .inl d
  · refine List.pairwise_append.mpr ⟨(List.pairwise_append.mp h.wd).1, ok.disj.filter _, fun V hV p hp x hx hy => ww V hV x hx (psub p (f1 hp).1 x hy)⟩
  · intro c hcs
    rcases h.met c hcs with ⟨f, h1, h2⟩ | ⟨V, hV, h1, h2, h3⟩
    · exact .inl ⟨f, List.mem_append_left _ h1, h2⟩
    · rcases List.mem_append.mp hV with hV | hV
      · exact .inr ⟨V, List.mem_append_left _ hV, h1, h2, h3⟩
      · simp at hV
        subst hV
        obtain ⟨p, hp, hx⟩ := ok.all c.1 h1
        have hy : c.2.1 ∈ p := (ok.pair (c.1, c.2.1) (prs_mem.mpr ⟨c, hcs, rfl, h1, h2, h3⟩) p hp).mp hx
        have big : 1 < p.length := by
          rcases Nat.lt_or_ge 1 p.length with z | z
          · exact z
          · exfalso
            match p, z, hx, hy with
            | [], _, hx, _ => cases hx
            | [a], _, hx, hy => simp at hx hy; exact hd c hcs (by rw [hx, hy])
            | _ :: _ :: _, z, _, _ => simp at z
        have hp' : p ∈ P.filter (fun p => decide (1 < p.length)) := List.mem_filter.mpr ⟨hp, by simpa using big⟩
        by_cases hz : c.2.2 ∈ p
        · exact .inr ⟨p, List.mem_append_right _ hp', hx, hy, hz⟩
        · exact .inl ⟨p, List.mem_append_right _ hp', hx, hy, hz⟩
  · rw [pot_app, pot_filter]; omega
  · rw [pot_app, pot_filter, List.length_append]
    have := List.length_filter_le (fun p => decide (1 < List.length p)) P
    omega
end
end K29

namespace K29
open PySem L2 DL

/-! ### names -/
abbrev nD (i : Nat) : D := .int (i : Int)
def nsD (xs : List Str) : D := .tup (xs.map .str)
def names7 : List Str := ["A", "B2", "C", "Dx", "E", "F7", "G"]
theorem n7_ok : ∀ x ∈ names7, PyData.strOk x = true ∧ x.length ≤ 20 := by decide +kernel
theorem n7_nodup : names7.Nodup := by decide +kernel
structure Nms (N : List Str) : Prop where
  nd : N.Nodup
  ok : ∀ x ∈ N, x ∈ names7
  len : N.length ≤ 7
def univ : List Str := ["A", "B2", "C", "Dx", "E", "F7", "G", "Q9", "tied", "families", "open", "ABC"]
def sigB (x : Str) : Bool := decide (x ∈ (["A", "B2", "C", "Dx", "E", "F7", "G", "Q9"] : List Str))
theorem un_ok : ∀ x ∈ univ, PyData.strOk x = true ∧ x.length ≤ 20 := by decide +kernel
theorem n7_un : ∀ x ∈ names7, x ∈ univ ∧ sigB x = true := by decide +kernel
theorem sig_un (t : Tp) : ∀ x ∈ univ, f_is_siglum [.str x] t = some (.bl (sigB x), t) := by
  intro x hx
  simp only [univ, List.mem_cons, List.not_mem_nil, or_false] at hx
  rcases hx with rfl | rfl | rfl | rfl | rfl | rfl | rfl | rfl | rfl | rfl | rfl | rfl <;> rfl
/-- good data: plain, small -/
def gd : Nat → D → Bool
  | _, .non => true
  | _, .bl _ => true
  | _, .int _ => true
  | _, .str x => decide (x ∈ univ)
  | n + 1, .tup xs => decide (xs.length ≤ 1000) && xs.all (gd n)
  | n + 1, .lst xs => decide (xs.length ≤ 1000) && xs.all (gd n)
  | _, _ => false
theorem gd_okD : ∀ (n : Nat) (d : D), n ≤ 30 → gd n d = true → okD 30 d = true := by
  have h : ∀ (n m : Nat) (d : D), n ≤ m → gd n d = true → okD m d = true := by
    intro n
    induction n with
    | zero => intro m d _ h; cases d <;> first | (cases m <;> rfl) | (simp [gd] at h; done) | (simp [gd] at h; cases m <;> exact (un_ok _ h).1)
    | succ n ih =>
      intro m d hm h
      obtain ⟨m, rfl⟩ : ∃ k, m = k + 1 := ⟨m - 1, by omega⟩
      cases d with
      | tup xs =>
        simp only [gd, Bool.and_eq_true, List.all_eq_true] at h
        simp only [okD, List.all_eq_true]
        exact fun x hx => ih m x (by omega) (h.2 x hx)
      | lst xs =>
        simp only [gd, Bool.and_eq_true, List.all_eq_true] at h
        simp only [okD, List.all_eq_true]
        exact fun x hx => ih m x (by omega) (h.2 x hx)
      | str x => simp [gd] at h; exact (un_ok _ h).1
      | non => rfl
      | bl b => rfl
      | int i => rfl
      | _ => simp [gd] at h
  intro n d hn
  exact h n 30 d hn
theorem eqvL_map_str (ds : List D) : ∀ xs : List Str, eqvL ds (xs.map .str) = true ↔ ds = xs.map .str := by
  induction ds with
  | nil => intro xs; cases xs <;> simp [eqvL]
  | cons d ds ih =>
    intro xs
    cases xs with
    | nil => simp [eqvL]
    | cons x xs =>
      simp only [List.map_cons, eqvL, Bool.and_eq_true, ih, List.cons.injEq]
      constructor
      · rintro ⟨a, b⟩
        refine ⟨?_, b⟩
        cases d <;> simp_all [eqvD]
      · rintro ⟨rfl, b⟩
        exact ⟨by simp [eqvD], b⟩
theorem eqv_nsD (d : D) (xs : List Str) : eqvD d (nsD xs) = true ↔ d = nsD xs := by
  unfold nsD
  cases d <;> simp [eqvD, eqvL_map_str]
theorem str_inj : ∀ {a b : List Str}, a.map D.str = b.map D.str ↔ a = b
  | [], [] => by simp
  | [], _ :: _ => by simp
  | _ :: _, [] => by simp
  | a :: as, b :: bs => by simp [str_inj]
theorem nsD_inj {a b : List Str} : nsD a = nsD b ↔ a = b := by
  unfold nsD
  rw [D.tup.injEq, str_inj]
theorem eqv_str_str (x y : Str) : eqvD (.str x) (.str y) = decide (x = y) := by
  simp only [eqvD]
  by_cases h : x = y
  · subst h; simp
  · simp [h]
theorem mem_str (x : Str) (xs : List Str) : memD (.str x) (xs.map .str) = decide (x ∈ xs) := by
  induction xs with
  | nil => rfl
  | cons y ys ih =>
    have : memD (.str x) ((y :: ys).map .str) = (eqvD (.str y) (.str x) || memD (.str x) (ys.map .str)) := rfl
    rw [this, ih, eqv_str_str]
    by_cases h : y = x
    · subst h; simp
    · have h' : ¬ x = y := fun z => h z.symm
      simp [h, h']
def OkS (xs : List Str) : Prop := ∀ x ∈ xs, PyData.strOk x = true ∧ x.length ≤ 20
theorem OkS.all {xs : List Str} (h : OkS xs) : (xs.map D.str).all (okD 30) = true := by
  rw [List.all_eq_true]
  intro d hd
  obtain ⟨x, hx, rfl⟩ := List.mem_map.mp hd
  simp [okD, (h x hx).1]
theorem OkS.nsD {xs : List Str} (h : OkS xs) : okD 30 (nsD xs) = true := by
  unfold K29.nsD
  simp only [okD, List.all_eq_true]
  intro d hd
  obtain ⟨x, hx, rfl⟩ := List.mem_map.mp hd
  simp [okD, (h x hx).1]
theorem Nms.okS {N : List Str} (h : Nms N) : OkS N := fun x hx => n7_ok x (h.ok x hx)
theorem OkS.sub {xs ys : List Str} (h : OkS xs) (s : ∀ x ∈ ys, x ∈ xs) : OkS ys := fun x hx => h x (s x hx)
theorem in_any {x : Str} {ds : List D} (h1 : PyData.strOk x = true) (h2 : ds.all (okD 30) = true) : inD (.str x) (.tup ds) = some (.bl (memD (.str x) ds)) ∧ notinD (.str x) (.tup ds) = some (.bl (!memD (.str x) ds)) ∧
    inD (.str x) (.lst ds) = some (.bl (memD (.str x) ds)) ∧ notinD (.str x) (.lst ds) = some (.bl (!memD (.str x) ds)) := by
  simp [inD, notinD, seqD, okD, h1, h2]
theorem in_strs {x : Str} {xs : List Str} (h1 : PyData.strOk x = true) (h2 : OkS xs) : inD (.str x) (nsD xs) = some (.bl (decide (x ∈ xs))) ∧ notinD (.str x) (nsD xs) = some (.bl (!decide (x ∈ xs))) ∧
    inD (.str x) (.lst (xs.map .str)) = some (.bl (decide (x ∈ xs))) ∧ notinD (.str x) (.lst (xs.map .str)) = some (.bl (!decide (x ∈ xs))) := by
  have := in_any h1 h2.all
  rw [mem_str] at this
  exact this
/-- a loop that may break -/
theorem forL_brk {Z : TSys} {g : G} {b : SM Z} {ds : List D} {e : List Sl} {t : Z.T} (Inv : Nat → List Sl → Z.T → Prop) (End : List Sl → Z.T → Prop) (Ret : D → Z.T → Prop) (h0 : Inv 0 e t)
    (hs : ∀ i d e t, ds[i]? = some d → Inv i e t → ∃ e1, g d e = some e1 ∧ ∃ fl e2 t2, b e1 t = some (fl, e2, t2) ∧ (((fl = .nx ∨ fl = .ct) ∧ Inv (i + 1) e2 t2) ∨ (fl = .bk ∧ End e2 t2) ∨ ∃ r, fl = .rt r ∧ Ret r t2)) :
    ∃ fl e' t', forL g b ds e t = some (fl, e', t') ∧ ((fl = .nx ∧ (Inv ds.length e' t' ∨ End e' t')) ∨ ∃ r, fl = .rt r ∧ Ret r t') := by
  induction ds generalizing e t Inv with
  | nil => exact ⟨.nx, e, t, rfl, .inl ⟨rfl, .inl h0⟩⟩
  | cons d ds ih =>
    obtain ⟨e1, h1, fl, e2, t2, h2, hf⟩ := hs 0 d e t rfl h0
    rcases hf with ⟨hf, h3⟩ | ⟨rfl, h3⟩ | ⟨r, rfl, h3⟩
    · obtain ⟨fl', e', t', q1, q2⟩ := ih (e := e2) (t := t2) (fun i => Inv (i + 1)) h3 fun i d' e t hd hi => hs (i + 1) d' e t (by simpa using hd) hi
      refine ⟨fl', e', t', ?_, q2⟩
      simp only [forL, h1, h2]
      rcases hf with rfl | rfl
      · exact q1
      · exact q1
    · refine ⟨.nx, e2, t2, ?_, .inl ⟨rfl, .inr h3⟩⟩
      simp only [forL, h1, h2]
    · refine ⟨.rt r, e2, t2, ?_, .inr ⟨r, rfl, h3⟩⟩
      simp only [forL, h1, h2]
/-! ### is_siglum -/
theorem sig_no (d : D) (t : Tp) (h : ∀ x, d ≠ .str x) (h2 : noTape d = true) : f_is_siglum [d] t = some (.bl false, t) := by
  have k : isinstD "str" d = some false := by
    unfold isinstD
    rw [if_pos h2]
    cases d <;> first | rfl | exact absurd rfl (h _)
  refine runFn_at (Z := tz) (e1 := [.sh d, .no]) [.sh d, .no] rfl (scons_rt (Z := tz) ?_)
  simp [mop, ev2, ev1, evA, getA, look, slotOk, mcst, mvar, asB, mlst, mtup, mcons, mnil, mfn, mfnL, evN, evAs, getAs, mite, band, bor, bnot, mand, mor, mnot, mcall, iseq, irange1, irange2, sset, ssetO, sret, sdrop, snil, sif, gset, mmut, isL1, ssub, spar, evOs, setSls, slOf, sasg, gtup, gcons, gnil, mslice, osome, onone, mopL, mlensetA, misinst, mmt, kindD, saug, byes, k]
end K29

namespace K29
open PySem L2 DL

def sigD : D → Bool
  | .str x => sigB x
  | _ => false
theorem gd_mono : ∀ (n m : Nat) (d : D), n ≤ m → gd n d = true → gd m d = true := by
  intro n
  induction n with
  | zero => intro m d _ h; cases d <;> cases m <;> first | rfl | (simp [gd] at h; done) | (simpa [gd] using h)
  | succ n ih =>
    intro m d hm h
    obtain ⟨m, rfl⟩ : ∃ k, m = k + 1 := ⟨m - 1, by omega⟩
    cases d with
    | tup xs =>
      simp only [gd, Bool.and_eq_true, List.all_eq_true] at h ⊢
      exact ⟨h.1, fun x hx => ih m x (by omega) (h.2 x hx)⟩
    | lst xs =>
      simp only [gd, Bool.and_eq_true, List.all_eq_true] at h ⊢
      exact ⟨h.1, fun x hx => ih m x (by omega) (h.2 x hx)⟩
    | _ => simpa [gd] using h
/-- good, or an empty dict -/
def Gd (d : D) : Prop := gd 20 d = true ∨ d = .dic [] []
theorem Gd.gd {ds : List D} (h : Gd (.tup ds)) : gd (19 + 1) (.tup ds) = true := h.resolve_right (by simp)
theorem Gd.okD {ds : List D} (h : Gd (.tup ds)) : okD 30 (.tup ds) = true := gd_okD 20 _ (by omega) h.gd
theorem Gd.tup {ds : List D} (h : Gd (.tup ds)) : ds.length ≤ 1000 ∧ ∀ d ∈ ds, Gd d := by
  have h := h.gd
  simp only [K29.gd, Bool.and_eq_true, List.all_eq_true, decide_eq_true_eq] at h
  exact ⟨h.1, fun d hd => .inl (gd_mono 19 20 d (by omega) (h.2 d hd))⟩
theorem Gd.all {ds : List D} (h : Gd (.tup ds)) : ds.all (DL.okD 30) = true := by
  have h := h.gd
  simp only [K29.gd, Bool.and_eq_true, List.all_eq_true, decide_eq_true_eq] at h
  rw [List.all_eq_true]
  exact fun d hd => gd_okD 19 d (by omega) (h.2 d hd)
theorem Gd.noTape {d : D} (h : Gd d) : noTape d = true := by
  rcases h with h | rfl
  · have h : K29.gd (19 + 1) d = true := h
    cases d <;> first | rfl | (simp [K29.gd] at h)
  · rfl
theorem Gd.str {x : Str} (h : Gd (.str x)) : x ∈ univ := by
  have h : K29.gd (19 + 1) (.str x) = true := h.resolve_right (by simp)
  simpa [K29.gd] using h
theorem sigD_run {d : D} (h : Gd d) (t : Tp) : f_is_siglum [d] t = some (.bl (sigD d), t) := by
  cases d with
  | str x =>
    exact sig_un t x h.str
  | _ => exact sig_no _ t (by intro x; simp) h.noTape
def namesB : D → Bool
  | .tup ds => decide (1 ≤ ds.length) && (decide (ds.length ≤ 40) && (ds.all sigD && match strsD ds with
    | some xs => decide ((dedS xs).length = xs.length)
    | none => false))
  | _ => false
theorem sig_strs : ∀ ds : List D, ds.all sigD = true → ∃ xs, strsD ds = some xs ∧ ds = xs.map .str ∧ xs.all sigB = true
  | [], _ => ⟨[], rfl, rfl, rfl⟩
  | d :: ds, h => by
    simp only [List.all_cons, Bool.and_eq_true] at h
    obtain ⟨xs, e1, e2, e3⟩ := sig_strs ds h.2
    cases d with
    | str x => exact ⟨x :: xs, by simp only [strsD, e1], by rw [e2]; rfl, by simp only [List.all_cons, e3, Bool.and_true]; exact h.1⟩
    | _ => exact absurd h.1 (by simp [sigD])
theorem isT_tup (ds : List D) : isinstD "tuple" (.tup ds) = some true := rfl
theorem isT_no {d : D} (h : noTape d = true) (h2 : ∀ ds, d ≠ .tup ds) : isinstD "tuple" d = some false := by
  unfold isinstD
  rw [if_pos h]
  cases d <;> first | rfl | exact absurd rfl (h2 _)
theorem names_run {v : D} (h : Gd v) (t : Tp) : f_is_names [v] t = some (.bl (namesB v), t) := by
  by_cases ht : ∃ ds, v = .tup ds
  · obtain ⟨ds, rfl⟩ := ht
    have hl := h.tup.1
    have i : isinstD "tuple" (.tup ds) = some true := rfl
    by_cases r : 1 ≤ ds.length ∧ ds.length ≤ 40
    · have c : c_is_names_1 [.sh (.tup ds), .no] t = some (.lst (ds.map fun d => .bl (sigD d)), [.sh (.tup ds), .no], t) := by
        unfold c_is_names_1
        refine mlc_all (Z := tz) (e1 := [.sh (.tup ds), .no]) (t1 := t) id (fun d => .bl (sigD d)) ds ?_ rfl (by omega) fun d hd => ⟨[.sh (.tup ds), .sh d], rfl, rfl, [.sh (.tup ds), .sh d], ?_, rfl⟩
        · simp [mop, ev2, ev1, evA, getA, look, slotOk, mcst, mvar, asB, mlst, mtup, mcons, mnil, mfn, mfnL, evN, evAs, getAs, mite, band, bor, bnot, mand, mor, mnot, mcall, iseq, irange1, irange2, sset, ssetO, sret, sdrop, snil, sif, gset, mmut, isL1, ssub, spar, evOs, setSls, slOf, sasg, gtup, gcons, gnil, mslice, osome, onone, mopL, mlensetA, misinst, mmt, kindD, saug, byes]
        · unfold ce_is_names_1
          have s := sigD_run (h.tup.2 d hd) t
          obtain ⟨F, hF⟩ : ∃ z, z = f_is_siglum := ⟨_, rfl⟩
          rw [← hF] at s ⊢
          clear hF
          simp [mop, ev2, ev1, evA, getA, look, slotOk, mcst, mvar, asB, mlst, mtup, mcons, mnil, mfn, mfnL, evN, evAs, getAs, mite, band, bor, bnot, mand, mor, mnot, mcall, iseq, irange1, irange2, sset, ssetO, sret, sdrop, snil, sif, gset, mmut, isL1, ssub, spar, evOs, setSls, slOf, sasg, gtup, gcons, gnil, mslice, osome, onone, mopL, mlensetA, misinst, mmt, kindD, saug, byes, s]
      have a : all1 [.lst (ds.map fun d => .bl (sigD d))] = some (.bl (ds.all sigD)) := by
        have e : (ds.map fun d => D.bl (sigD d)) = (ds.map sigD).map .bl := by rw [List.map_map]; rfl
        simp only [all1, e, blsD_map, Option.map_some]
        rw [List.all_map]; rfl
      have l1 : len1 [.tup ds] = some (nD ds.length) := rfl
      have k1 : leD (.int 1) (nD ds.length) = some (.bl true) := by simp [leD, cmpD]; omega
      have k2 : leD (nD ds.length) (.int 40) = some (.bl true) := by simp [leD, cmpD]; omega
      refine runFn_at (Z := tz) (e1 := [.sh (.tup ds), .no]) [.sh (.tup ds), .no] rfl (scons_nx (Z := tz) (e1 := [.sh (.tup ds), .no]) (t1 := t) ?_ (sret_ev (Z := tz) ?_))
      · generalize ds.length = n at l1 k1 k2
        generalize D.tup ds = T at i l1 ⊢
        simp [mop, ev2, ev1, evA, getA, look, slotOk, mcst, mvar, asB, mlst, mtup, mcons, mnil, mfn, mfnL, evN, evAs, getAs, mite, band, bor, bnot, mand, mor, mnot, mcall, iseq, irange1, irange2, sset, ssetO, sret, sdrop, snil, sif, gset, mmut, isL1, ssub, spar, evOs, setSls, slOf, sasg, gtup, gcons, gnil, mslice, osome, onone, mopL, mlensetA, misinst, mmt, kindD, saug, byes, i, l1, mchain, k1, k2]
      · have nb : namesB (.tup ds) = (ds.all sigD && match strsD ds with
          | some xs => decide ((dedS xs).length = xs.length)
          | none => false) := by simp [namesB, r.1, r.2]
        rw [nb]
        generalize (ds.map fun d => D.bl (sigD d)) = W at c a
        by_cases q : ds.all sigD = true
        · obtain ⟨xs, e1, e2, e3⟩ := sig_strs ds q
          rw [q] at a ⊢
          have n1 : xs.length = ds.length := by rw [e2, List.length_map]
          have n2 : xs.length ≤ 4000 := by omega
          rw [e1]
          obtain ⟨C, hC⟩ : ∃ z, z = c_is_names_1 := ⟨_, rfl⟩
          rw [← hC] at c ⊢
          clear hC
          simp only [mand, asB, mfn, evN, evAs, slotOk, evA, c, getAs, getA, a, if_true]
          have m : mop (Z := tz) eqD (.e (mlensetS (.v 0))) (.e (mfn len1 [(.v 0)])) [.sh (.tup ds), .no] t = some (.bl (decide ((dedS xs).length = xs.length)), [.sh (.tup ds), .no], t) := by
            have e4 : eqD (nD (dedS xs).length) (nD ds.length) = some (.bl (decide ((dedS xs).length = xs.length))) := by
              rw [n1]
              simp only [eqD, scalD, Bool.true_or, if_true, eqvD]
              congr 2
              by_cases z : (dedS xs).length = ds.length
              · simp [z]
              · have : ¬ (((dedS xs).length : Int) = (ds.length : Int)) := by omega
                simp [z, this]
            have ml : mlensetS (Z := tz) (.v 0) [.sh (.tup ds), .no] t = some (nD (dedS xs).length, [.sh (.tup ds), .no], t) := by
              unfold mlensetS
              simp [mop, ev2, ev1, evA, getA, look, slotOk, mcst, mvar, asB, mlst, mtup, mcons, mnil, mfn, mfnL, evN, evAs, getAs, mite, band, bor, bnot, mand, mor, mnot, mcall, iseq, irange1, irange2, sset, ssetO, sret, sdrop, snil, sif, gset, mmut, isL1, ssub, spar, evOs, setSls, slOf, sasg, gtup, gcons, gnil, mslice, osome, onone, mopL, mlensetA, misinst, mmt, kindD, saug, byes, e1, n2]
            generalize (dedS xs).length = A at e4 ml ⊢
            generalize ds.length = B at l1 e4
            generalize D.tup ds = T at l1 ml ⊢
            generalize mlensetS (Z := tz) (.v 0) = ML at ml ⊢
            simp [mop, ev2, ev1, evA, getA, look, slotOk, mcst, mvar, asB, mlst, mtup, mcons, mnil, mfn, mfnL, evN, evAs, getAs, mite, band, bor, bnot, mand, mor, mnot, mcall, iseq, irange1, irange2, sset, ssetO, sret, sdrop, snil, sif, gset, mmut, isL1, ssub, spar, evOs, setSls, slOf, sasg, gtup, gcons, gnil, mslice, osome, onone, mopL, mlensetA, misinst, mmt, kindD, saug, byes, ml, l1, e4]
          exact m
        · have q' : ds.all sigD = false := by simpa using q
          rw [q'] at a ⊢
          obtain ⟨C, hC⟩ : ∃ z, z = c_is_names_1 := ⟨_, rfl⟩
          rw [← hC] at c ⊢
          clear hC
          simp [mop, ev2, ev1, evA, getA, look, slotOk, mcst, mvar, asB, mlst, mtup, mcons, mnil, mfn, mfnL, evN, evAs, getAs, mite, band, bor, bnot, mand, mor, mnot, mcall, iseq, irange1, irange2, sset, ssetO, sret, sdrop, snil, sif, gset, mmut, isL1, ssub, spar, evOs, setSls, slOf, sasg, gtup, gcons, gnil, mslice, osome, onone, mopL, mlensetA, misinst, mmt, kindD, saug, byes, c, a]
    · have nb : namesB (.tup ds) = false := by
        simp only [namesB]
        by_cases r1 : 1 ≤ ds.length
        · have : ¬ ds.length ≤ 40 := fun z => r ⟨r1, z⟩
          simp [this]
        · simp [r1]
      rw [nb]
      have l1 : len1 [.tup ds] = some (nD ds.length) := rfl
      have k1 : leD (.int 1) (nD ds.length) = some (.bl (decide (1 ≤ ds.length))) := by
        simp [leD, cmpD]; omega
      have k2 : leD (nD ds.length) (.int 40) = some (.bl (decide (ds.length ≤ 40))) := by
        simp [leD, cmpD]; omega
      refine runFn_at (Z := tz) (e1 := [.sh (.tup ds), .no]) [.sh (.tup ds), .no] rfl (scons_rt (Z := tz) (e1 := [.sh (.tup ds), .no]) (t1 := t) ?_)
      generalize ds.length = n at l1 k1 k2 r
      generalize D.tup ds = T at i l1 ⊢
      by_cases r1 : 1 ≤ n
      · have : ¬ n ≤ 40 := fun z => r ⟨r1, z⟩
        rw [decide_eq_true r1] at k1
        rw [decide_eq_false this] at k2
        simp [mop, ev2, ev1, evA, getA, look, slotOk, mcst, mvar, asB, mlst, mtup, mcons, mnil, mfn, mfnL, evN, evAs, getAs, mite, band, bor, bnot, mand, mor, mnot, mcall, iseq, irange1, irange2, sset, ssetO, sret, sdrop, snil, sif, gset, mmut, isL1, ssub, spar, evOs, setSls, slOf, sasg, gtup, gcons, gnil, mslice, osome, onone, mopL, mlensetA, misinst, mmt, kindD, saug, byes, i, l1, mchain, k1, k2]
      · rw [decide_eq_false r1] at k1
        simp [mop, ev2, ev1, evA, getA, look, slotOk, mcst, mvar, asB, mlst, mtup, mcons, mnil, mfn, mfnL, evN, evAs, getAs, mite, band, bor, bnot, mand, mor, mnot, mcall, iseq, irange1, irange2, sset, ssetO, sret, sdrop, snil, sif, gset, mmut, isL1, ssub, spar, evOs, setSls, slOf, sasg, gtup, gcons, gnil, mslice, osome, onone, mopL, mlensetA, misinst, mmt, kindD, saug, byes, i, l1, mchain, k1, k2]
  · have i : isinstD "tuple" v = some false := isT_no h.noTape fun ds e => ht ⟨ds, e⟩
    have nb : namesB v = false := by
      cases v <;> first | rfl | exact absurd ⟨_, rfl⟩ ht
    rw [nb]
    refine runFn_at (Z := tz) (e1 := [.sh v, .no]) [.sh v, .no] rfl (scons_rt (Z := tz) ?_)
    simp [mop, ev2, ev1, evA, getA, look, slotOk, mcst, mvar, asB, mlst, mtup, mcons, mnil, mfn, mfnL, evN, evAs, getAs, mite, band, bor, bnot, mand, mor, mnot, mcall, iseq, irange1, irange2, sset, ssetO, sret, sdrop, snil, sif, gset, mmut, isL1, ssub, spar, evOs, setSls, slOf, sasg, gtup, gcons, gnil, mslice, osome, onone, mopL, mlensetA, misinst, mmt, kindD, saug, byes, i]
end K29

namespace K29
open PySem L2 DL

theorem order_run {N : List Str} (hN : OkS N) (hl : N.length ≤ 1000) {ds : List D} (h : ds.all (okD 30) = true) (v : D) (hv : v = .tup ds ∨ v = .lst ds) (t : Tp) :
    f_in_order [nsD N, v] t = some (nsD (N.filter fun x => memD (.str x) ds), t) := by
  have c : c_in_order_1 [.sh (nsD N), .sh v, .no] t = some (.lst ((N.filter fun x => memD (.str x) ds).map .str), [.sh (nsD N), .sh v, .no], t) := by
    unfold c_in_order_1
    refine mlc_map (Z := tz) (e1 := [.sh (nsD N), .sh v, .no]) (t1 := t) D.str (fun x => memD (.str x) ds) D.str N ?_ rfl (by omega) fun x hx => ⟨[.sh (nsD N), .sh v, .sh (.str x)], rfl, rfl, ?_, fun _ => ⟨[.sh (nsD N), .sh v, .sh (.str x)], ?_, rfl⟩⟩
    · unfold nsD
      simp [mop, ev2, ev1, evA, getA, look, slotOk, mcst, mvar, asB, mlst, mtup, mcons, mnil, mfn, mfnL, evN, evAs, getAs, mite, band, bor, bnot, mand, mor, mnot, mcall, iseq, irange1, irange2, sset, ssetO, sret, sdrop, snil, sif, gset, mmut, isL1, ssub, spar, evOs, setSls, slOf, sasg, gtup, gcons, gnil, mslice, osome, onone, mopL, mlensetA, misinst, mmt, kindD, saug, byes]
    · have a := in_any (hN x hx).1 h
      have b : inD (.str x) v = some (.bl (memD (.str x) ds)) := hv.elim (fun z => by rw [z]; exact a.1) fun z => by rw [z]; exact a.2.2.1
      generalize nsD N = NN at ⊢
      unfold ct_in_order_1
      simp [mop, ev2, ev1, evA, getA, look, slotOk, mcst, mvar, asB, mlst, mtup, mcons, mnil, mfn, mfnL, evN, evAs, getAs, mite, band, bor, bnot, mand, mor, mnot, mcall, iseq, irange1, irange2, sset, ssetO, sret, sdrop, snil, sif, gset, mmut, isL1, ssub, spar, evOs, setSls, slOf, sasg, gtup, gcons, gnil, mslice, osome, onone, mopL, mlensetA, misinst, mmt, kindD, saug, byes, b]
    · unfold ce_in_order_1
      simp [mop, ev2, ev1, evA, getA, look, slotOk, mcst, mvar, asB, mlst, mtup, mcons, mnil, mfn, mfnL, evN, evAs, getAs, mite, band, bor, bnot, mand, mor, mnot, mcall, iseq, irange1, irange2, sset, ssetO, sret, sdrop, snil, sif, gset, mmut, isL1, ssub, spar, evOs, setSls, slOf, sasg, gtup, gcons, gnil, mslice, osome, onone, mopL, mlensetA, misinst, mmt, kindD, saug, byes]
  generalize hN' : nsD N = NN at c ⊢
  refine runFn_at (Z := tz) (e1 := [.sh NN, .sh v, .no]) [.sh NN, .sh v, .no] rfl (sret_ev (Z := tz) ?_)
  obtain ⟨C, hC⟩ : ∃ z, z = c_in_order_1 := ⟨_, rfl⟩
  rw [← hC] at c ⊢
  clear hC
  unfold nsD
  simp [mop, ev2, ev1, evA, getA, look, slotOk, mcst, mvar, asB, mlst, mtup, mcons, mnil, mfn, mfnL, evN, evAs, getAs, mite, band, bor, bnot, mand, mor, mnot, mcall, iseq, irange1, irange2, sset, ssetO, sret, sdrop, snil, sif, gset, mmut, isL1, ssub, spar, evOs, setSls, slOf, sasg, gtup, gcons, gnil, mslice, osome, onone, mopL, mlensetA, misinst, mmt, kindD, saug, byes, c, tuple1]
def lotB (N : List Str) : D → Bool
  | .tup ds => !ds.isEmpty && eqvL ds ((N.filter fun x => memD (.str x) ds).map .str)
  | _ => false
theorem memD_F {N F : List Str} (h : Lot N F) : (N.filter fun x => memD (.str x) (F.map .str)) = F := by
  have : (N.filter fun x => memD (.str x) (F.map .str)) = N.filter (· ∈ F) := by
    apply List.filter_congr
    intro x _
    rw [mem_str]
  rw [this]; exact h.eq.symm
theorem lotB_iff {N : List Str} {v : D} : lotB N v = true ↔ ∃ F, v = nsD F ∧ Lot N F := by
  constructor
  · intro h
    cases v with
    | tup ds =>
      simp only [lotB, Bool.and_eq_true, eqvL_map_str] at h
      refine ⟨_, congrArg D.tup h.2, ?_, ⟨_, rfl⟩⟩
      intro z
      rw [z] at h
      rw [h.2] at h
      simp at h
    | _ => simp [lotB] at h
  · rintro ⟨F, rfl, h⟩
    simp only [nsD, lotB, Bool.and_eq_true, eqvL_map_str, memD_F h, and_true]
    have := h.1
    cases F <;> simp_all
theorem dedS_nodup {xs : List Str} (h : xs.Nodup) : dedS xs = xs := by
  have : ∀ (xs acc : List Str), (acc ++ xs).Nodup → xs.foldl (fun acc x => if acc.any (· == x) then acc else acc ++ [x]) acc = acc ++ xs := by
    intro xs
    induction xs with
    | nil => intro acc _; simp
    | cons x xs ih =>
      intro acc h
      rw [List.foldl_cons]
      have n : ¬ (acc.any (· == x) = true) := by
        intro z
        obtain ⟨y, hy, e⟩ := List.any_eq_true.mp z
        have e : y = x := by simpa using e
        subst e
        exact (List.nodup_append.mp h).2.2 y hy y List.mem_cons_self rfl
      rw [if_neg n, ih (acc ++ [x]) (by simpa using h)]
      simp
  simpa [dedS] using this xs [] (by simpa using h)
theorem namesB_lot {N F : List Str} (hN : Nms N) (h : Lot N F) : namesB (nsD F) = true := by
  have l := h.len
  have l7 := hN.len
  have p : 0 < F.length := List.length_pos_iff.mpr h.1
  have s : (F.map D.str).all sigD = true := by
    rw [List.all_eq_true]
    intro d hd
    obtain ⟨x, hx, rfl⟩ := List.mem_map.mp hd
    exact (n7_un x (hN.ok x (h.sub x hx))).2
  simp only [nsD, namesB, s, strsD_map, List.length_map, dedS_nodup (h.nodup hN.nd), decide_true, Bool.and_true, Bool.and_eq_true, decide_eq_true_eq]
  omega
theorem namesB_tup {v : D} (h : namesB v = true) : ∃ ds, v = .tup ds ∧ 1 ≤ ds.length := by
  cases v with
  | tup ds => simp [namesB] at h; exact ⟨ds, rfl, h.1⟩
  | _ => simp [namesB] at h
theorem eq_lot {N : List Str} (hN : Nms N) {ds : List D} (h : Gd (.tup ds)) : eqD (.tup ds) (nsD (N.filter fun x => memD (.str x) ds)) = some (.bl (eqvL ds ((N.filter fun x => memD (.str x) ds).map .str))) := by
  have a := h.okD
  have b : okD 30 (nsD (N.filter fun x => memD (.str x) ds)) = true := (hN.okS.sub fun x hx => (List.mem_filter.mp hx).1).nsD
  simp only [eqD, a, b, Bool.and_self, Bool.or_true, if_true]
  unfold nsD
  simp only [eqvD]
theorem is_lot_run {N : List Str} (hN : Nms N) {v : D} (h : Gd v) (t : Tp) : f_is_lot [v, nsD N] t = some (.bl (lotB N v), t) := by
  have n := names_run h t
  refine runFn_at (Z := tz) (e1 := [.sh v, .sh (nsD N)]) [.sh v, .sh (nsD N)] rfl (sret_ev (Z := tz) ?_)
  by_cases q : namesB v = true
  · obtain ⟨ds, rfl, h1⟩ := namesB_tup q
    have o := order_run hN.okS (by have := hN.len; omega) h.all (.tup ds) (.inl rfl) t
    have e := eq_lot hN h
    rw [q] at n
    have l : lotB N (.tup ds) = eqvL ds ((N.filter fun x => memD (.str x) ds).map .str) := by
      have : ds.isEmpty = false := by cases ds <;> simp_all
      simp [lotB, this]
    rw [l]
    generalize nsD (N.filter fun x => memD (.str x) ds) = W at o e
    generalize eqvL ds _ = B at e ⊢
    generalize nsD N = NN at o ⊢
    generalize D.tup ds = T at o e n ⊢
    obtain ⟨F, hF⟩ : ∃ z, z = f_is_names := ⟨_, rfl⟩
    rw [← hF] at n ⊢
    clear hF
    obtain ⟨G, hG⟩ : ∃ z, z = f_in_order := ⟨_, rfl⟩
    rw [← hG] at o ⊢
    clear hG
    simp [mop, ev2, ev1, evA, getA, look, slotOk, mcst, mvar, asB, mlst, mtup, mcons, mnil, mfn, mfnL, evN, evAs, getAs, mite, band, bor, bnot, mand, mor, mnot, mcall, iseq, irange1, irange2, sset, ssetO, sret, sdrop, snil, sif, gset, mmut, isL1, ssub, spar, evOs, setSls, slOf, sasg, gtup, gcons, gnil, mslice, osome, onone, mopL, mlensetA, misinst, mmt, kindD, saug, byes, n, o, e]
  · have q' : namesB v = false := by simpa using q
    have l : lotB N v = false := by
      cases z : lotB N v with
      | false => rfl
      | true =>
        obtain ⟨F, rfl, hF⟩ := lotB_iff.mp z
        exact absurd (namesB_lot hN hF) q
    rw [q'] at n
    rw [l]
    generalize nsD N = NN at ⊢
    obtain ⟨F, hF⟩ : ∃ z, z = f_is_names := ⟨_, rfl⟩
    rw [← hF] at n ⊢
    clear hF
    simp [mop, ev2, ev1, evA, getA, look, slotOk, mcst, mvar, asB, mlst, mtup, mcons, mnil, mfn, mfnL, evN, evAs, getAs, mite, band, bor, bnot, mand, mor, mnot, mcall, iseq, irange1, irange2, sset, ssetO, sret, sdrop, snil, sif, gset, mmut, isL1, ssub, spar, evOs, setSls, slOf, sasg, gtup, gcons, gnil, mslice, osome, onone, mopL, mlensetA, misinst, mmt, kindD, saug, byes, n]
theorem law_lot_run {N : List Str} (hN : Nms N) {v : D} (h : Gd v) (t : Tp) : f__law_is_lot [v, nsD N] t = some (.bl (lotB N v), t) := by
  refine runFn_at (Z := tz) (e1 := [.sh v, .sh (nsD N), .no]) [.sh v, .sh (nsD N), .no] rfl (sret_ev (Z := tz) ?_)
  by_cases ht : ∃ ds, v = .tup ds
  · obtain ⟨ds, rfl⟩ := ht
    have i : isinstD "tuple" (.tup ds) = some true := rfl
    have c : c__law_is_lot_1 [.sh (.tup ds), .sh (nsD N), .no] t = some (.lst ((N.filter fun x => memD (.str x) ds).map .str), [.sh (.tup ds), .sh (nsD N), .no], t) := by
      unfold c__law_is_lot_1
      refine mlc_map (Z := tz) (e1 := [.sh (.tup ds), .sh (nsD N), .no]) (t1 := t) D.str (fun x => memD (.str x) ds) D.str N ?_ rfl (by have := hN.len; omega) fun x hx => ⟨[.sh (.tup ds), .sh (nsD N), .sh (.str x)], rfl, rfl, ?_, fun _ => ⟨[.sh (.tup ds), .sh (nsD N), .sh (.str x)], ?_, rfl⟩⟩
      · unfold nsD
        simp [mop, ev2, ev1, evA, getA, look, slotOk, mcst, mvar, asB, mlst, mtup, mcons, mnil, mfn, mfnL, evN, evAs, getAs, mite, band, bor, bnot, mand, mor, mnot, mcall, iseq, irange1, irange2, sset, ssetO, sret, sdrop, snil, sif, gset, mmut, isL1, ssub, spar, evOs, setSls, slOf, sasg, gtup, gcons, gnil, mslice, osome, onone, mopL, mlensetA, misinst, mmt, kindD, saug, byes]
      · have b := (in_any (hN.okS x hx).1 h.all).1
        generalize nsD N = NN at ⊢
        generalize D.tup ds = T at b ⊢
        unfold ct__law_is_lot_1
        simp [mop, ev2, ev1, evA, getA, look, slotOk, mcst, mvar, asB, mlst, mtup, mcons, mnil, mfn, mfnL, evN, evAs, getAs, mite, band, bor, bnot, mand, mor, mnot, mcall, iseq, irange1, irange2, sset, ssetO, sret, sdrop, snil, sif, gset, mmut, isL1, ssub, spar, evOs, setSls, slOf, sasg, gtup, gcons, gnil, mslice, osome, onone, mopL, mlensetA, misinst, mmt, kindD, saug, byes, b]
      · unfold ce__law_is_lot_1
        simp [mop, ev2, ev1, evA, getA, look, slotOk, mcst, mvar, asB, mlst, mtup, mcons, mnil, mfn, mfnL, evN, evAs, getAs, mite, band, bor, bnot, mand, mor, mnot, mcall, iseq, irange1, irange2, sset, ssetO, sret, sdrop, snil, sif, gset, mmut, isL1, ssub, spar, evOs, setSls, slOf, sasg, gtup, gcons, gnil, mslice, osome, onone, mopL, mlensetA, misinst, mmt, kindD, saug, byes]
    have e := eq_lot hN h
    have l1 : len1 [.tup ds] = some (nD ds.length) := rfl
    have k1 : gtD (nD ds.length) (.int 0) = some (.bl (!ds.isEmpty)) := by
      cases ds with
      | nil => rfl
      | cons a r => simp [gtD, cmpD]
    have tu : tuple1 [.lst ((N.filter fun x => memD (.str x) ds).map .str)] = some (nsD (N.filter fun x => memD (.str x) ds)) := rfl
    simp only [lotB]
    generalize nsD (N.filter fun x => memD (.str x) ds) = W at tu e
    generalize D.lst ((N.filter fun x => memD (.str x) ds).map .str) = W2 at c tu
    generalize eqvL ds _ = B at e ⊢
    generalize nsD N = NN at c ⊢
    generalize (!ds.isEmpty) = E at k1 ⊢
    generalize ds.length = n at l1 k1
    generalize D.tup ds = T at i c l1 e ⊢
    obtain ⟨C, hC⟩ : ∃ z, z = c__law_is_lot_1 := ⟨_, rfl⟩
    rw [← hC] at c ⊢
    clear hC
    cases E <;> simp [mop, ev2, ev1, evA, getA, look, slotOk, mcst, mvar, asB, mlst, mtup, mcons, mnil, mfn, mfnL, evN, evAs, getAs, mite, band, bor, bnot, mand, mor, mnot, mcall, iseq, irange1, irange2, sset, ssetO, sret, sdrop, snil, sif, gset, mmut, isL1, ssub, spar, evOs, setSls, slOf, sasg, gtup, gcons, gnil, mslice, osome, onone, mopL, mlensetA, misinst, mmt, kindD, saug, byes, i, l1, k1, c, tu, e]
  · have i : isinstD "tuple" v = some false := isT_no h.noTape fun ds e => ht ⟨ds, e⟩
    have nb : lotB N v = false := by
      cases v <;> first | rfl | exact absurd ⟨_, rfl⟩ ht
    rw [nb]
    generalize nsD N = NN at ⊢
    simp [mop, ev2, ev1, evA, getA, look, slotOk, mcst, mvar, asB, mlst, mtup, mcons, mnil, mfn, mfnL, evN, evAs, getAs, mite, band, bor, bnot, mand, mor, mnot, mcall, iseq, irange1, irange2, sset, ssetO, sret, sdrop, snil, sif, gset, mmut, isL1, ssub, spar, evOs, setSls, slOf, sasg, gtup, gcons, gnil, mslice, osome, onone, mopL, mlensetA, misinst, mmt, kindD, saug, byes, i]
end K29

namespace K29
open PySem L2 DL

abbrev Cl := Str × Str × Str
def clD (c : Cl) : D := .tup [.str c.1, .str c.2.1, .str c.2.2]
def csD (cs : List Cl) : D := .tup (cs.map clD)
def prD (p : Str × Str) : D := .tup [.str p.1, .str p.2]
def lsD (xs : List Str) : D := .lst (xs.map .str)
def ClIn (N : List Str) (c : Cl) : Prop := c.1 ∈ N ∧ c.2.1 ∈ N ∧ c.2.2 ∈ N
theorem ix0 (a : D) (r : List D) : idxD (.tup (a :: r)) (.int 0) = some a := idx_tup _ 0
theorem ix1 (a b : D) (r : List D) : idxD (.tup (a :: b :: r)) (.int 1) = some b := idx_tup _ 1
theorem ix2 (a b c : D) (r : List D) : idxD (.tup (a :: b :: c :: r)) (.int 2) = some c := idx_tup _ 2
theorem ixl0 (a : D) (r : List D) : idxD (.lst (a :: r)) (.int 0) = some a := idx_lst _ 0
def inlot (F : List Str) (c : Cl) : Bool := decide (c.1 ∈ F) && (decide (c.2.1 ∈ F) && decide (c.2.2 ∈ F))
theorem prs_eq (cs : List Cl) (F : List Str) : prs cs F = (cs.filter (inlot F)).map fun c => (c.1, c.2.1) := rfl
theorem ties_run {N F : List Str} {cs : List Cl} (hN : OkS N) (hF : OkS F) (hc : ∀ c ∈ cs, ClIn N c) (hl : cs.length ≤ 1000) (t : Tp) : f_ties [csD cs, nsD F] t = some (.lst ((prs cs F).map prD), t) := by
  have c : c_ties_1 [.sh (csD cs), .sh (nsD F), .no, .no, .no] t = some (.lst ((cs.filter (inlot F)).map fun c => prD (c.1, c.2.1)), [.sh (csD cs), .sh (nsD F), .no, .no, .no], t) := by
    unfold c_ties_1
    refine mlc_map (Z := tz) (e1 := [.sh (csD cs), .sh (nsD F), .no, .no, .no]) (t1 := t) clD (inlot F) (fun c => prD (c.1, c.2.1)) cs ?_ rfl (by omega) fun x hx => ⟨[.sh (csD cs), .sh (nsD F), .sh (.str x.1), .sh (.str x.2.1), .sh (.str x.2.2)], rfl, rfl, ?_, fun _ => ⟨[.sh (csD cs), .sh (nsD F), .sh (.str x.1), .sh (.str x.2.1), .sh (.str x.2.2)], ?_, rfl⟩⟩
    · generalize nsD F = FF
      unfold csD
      simp [mop, ev2, ev1, evA, getA, look, slotOk, mcst, mvar, asB, mlst, mtup, mcons, mnil, mfn, mfnL, evN, evAs, getAs, mite, band, bor, bnot, mand, mor, mnot, mcall, iseq, irange1, irange2, sset, ssetO, sret, sdrop, snil, sif, gset, mmut, isL1, ssub, spar, evOs, setSls, slOf, sasg, gtup, gcons, gnil, mslice, osome, onone, mopL, mlensetA, misinst, mmt, kindD, saug, byes]
    · have a1 := (in_strs (hN _ (hc x hx).1).1 hF).1
      have a2 := (in_strs (hN _ (hc x hx).2.1).1 hF).1
      have a3 := (in_strs (hN _ (hc x hx).2.2).1 hF).1
      unfold ct_ties_1 inlot
      generalize decide (x.1 ∈ F) = b1 at a1 ⊢
      generalize decide (x.2.1 ∈ F) = b2 at a2 ⊢
      generalize decide (x.2.2 ∈ F) = b3 at a3 ⊢
      generalize csD cs = CC
      generalize nsD F = FF at a1 a2 a3 ⊢
      cases b1 <;> cases b2 <;> simp [mop, ev2, ev1, evA, getA, look, slotOk, mcst, mvar, asB, mlst, mtup, mcons, mnil, mfn, mfnL, evN, evAs, getAs, mite, band, bor, bnot, mand, mor, mnot, mcall, iseq, irange1, irange2, sset, ssetO, sret, sdrop, snil, sif, gset, mmut, isL1, ssub, spar, evOs, setSls, slOf, sasg, gtup, gcons, gnil, mslice, osome, onone, mopL, mlensetA, misinst, mmt, kindD, saug, byes, a1, a2, a3]
    · unfold ce_ties_1 prD
      simp [mop, ev2, ev1, evA, getA, look, slotOk, mcst, mvar, asB, mlst, mtup, mcons, mnil, mfn, mfnL, evN, evAs, getAs, mite, band, bor, bnot, mand, mor, mnot, mcall, iseq, irange1, irange2, sset, ssetO, sret, sdrop, snil, sif, gset, mmut, isL1, ssub, spar, evOs, setSls, slOf, sasg, gtup, gcons, gnil, mslice, osome, onone, mopL, mlensetA, misinst, mmt, kindD, saug, byes]
  have e : (.lst ((prs cs F).map prD) : D) = .lst ((cs.filter (inlot F)).map fun c => prD (c.1, c.2.1)) := by rw [prs_eq, List.map_map]; rfl
  rw [e]
  generalize csD cs = CC at c ⊢
  generalize nsD F = FF at c ⊢
  refine runFn_at (Z := tz) (e1 := [.sh CC, .sh FF, .no, .no, .no]) [.sh CC, .sh FF, .no, .no, .no] rfl (sret_ev (Z := tz) c)
/-! ### parts -/
def pE (C lot P left : D) (found near : List D) (ch : Bool) (a b c : Sl) : List Sl := [.sh C, .sh lot, .sh P, .sh left, .ow 1 (.lst found), .ow 1 (.lst near), .sh (.bl ch), a, b, c]
theorem ap_str (xs : List Str) (x : Str) (h : xs.length ≤ 1000) : uAppend [.str x] (xs.map .str) = some (.non, (xs ++ [x]).map .str) := by
  have sl : (xs.map D.str).length < sizeLine := by
    rw [List.length_map]
    exact Nat.lt_of_le_of_lt h (by decide)
  simp only [uAppend, sl, if_true]
  rw [List.map_append]; rfl
theorem pass_snoc {α : Type} [DecidableEq α] (ps : List (α × α)) (p : α × α) (n : List α) : pass (ps ++ [p]) n = step (pass ps n) p := by simp [pass, List.foldl_append]
theorem take_one {α : Type} {l : List α} {i : Nat} {x : α} (h : l[i]? = some x) : l.take (i + 1) = l.take i ++ [x] := by
  rw [List.take_succ, h]; rfl
theorem pairs_loop {lot : List Str} (hl : OkS lot) (h7 : lot.length ≤ 1000) {ps : List (Str × Str)} (hp : ∀ p ∈ ps, p.1 ∈ lot ∧ p.2 ∈ lot) (C L left : D) (found : List D) (near : List Str) (hn : near.Nodup) (hs : ∀ x ∈ near, x ∈ lot) (a b c : Sl) (t : Tp) :
    ∃ a' b', l_parts_1 (pE C L (.lst (ps.map prD)) left found (near.map .str) false a b c) t = some (.nx, pE C L (.lst (ps.map prD)) left found ((pass ps near).map .str) (decide ((pass ps near).length ≠ near.length)) a' b' c, t) := by
  obtain ⟨e', t', l1, hinv⟩ := forL_nx (Z := tz) (g := gtup 2 (gcons (gset 7) (gcons (gset 8) gnil))) (b := lb_parts_1) (ds := ps.map prD) (e := pE C L (.lst (ps.map prD)) left found (near.map .str) false a b c) (t := t)
    (fun i e t1 => t1 = t ∧ ∃ a' b', e = pE C L (.lst (ps.map prD)) left found ((pass (ps.take i) near).map .str) (decide ((pass (ps.take i) near).length ≠ near.length)) a' b' c) ⟨rfl, a, b, by simp [pass]⟩ fun i d e t1 hd hi => by
      obtain ⟨rfl, a', b', rfl⟩ := hi
      rw [List.getElem?_map] at hd
      cases q : ps[i]? with
      | none => rw [q] at hd; simp at hd
      | some p =>
        rw [q] at hd
        simp at hd
        subst hd
        have hpm : p ∈ ps := List.mem_of_getElem? q
        have hp1 := hp p hpm
        refine ⟨pE C L (.lst (ps.map prD)) left found ((pass (ps.take i) near).map .str) (decide ((pass (ps.take i) near).length ≠ near.length)) (.sh (.str p.1)) (.sh (.str p.2)) c, rfl, ?_⟩
        rw [take_one q, pass_snoc]
        have n0 := pass_len (ps.take i) near
        have n1 := pass_nodup (ps.take i) near hn
        have n2 := pass_inlot (lot := lot) (ps := ps.take i) (fun r hr => hp r (List.mem_of_mem_take hr)) near hs
        generalize pass (ps.take i) near = n at n0 n1 n2 ⊢
        have n3 := nodup_sub_len n lot n1 n2
        have on : OkS n := hl.sub n2
        have i1 := (in_strs (hl _ hp1.1).1 on).2.2.1
        have i2 := (in_strs (hl _ hp1.2).1 on).2.2.1
        have ap1 := ap_str n p.1 (by omega)
        have ap2 := ap_str n p.2 (by omega)
        have neb : ∀ x y : Bool, neD (.bl x) (.bl y) = some (.bl (x != y)) := fun x y => by cases x <;> cases y <;> rfl
        generalize ps.map prD = PP
        unfold pE
        by_cases m1 : p.1 ∈ n
        · by_cases m2 : p.2 ∈ n
          · refine ⟨.nx, [.sh C, .sh L, .sh (.lst PP), .sh left, .ow 1 (.lst found), .ow 1 (.lst (n.map .str)), .sh (.bl (decide (n.length ≠ near.length))), .sh (.str p.1), .sh (.str p.2), c], t1, ?_, .inl rfl, rfl, .sh (.str p.1), .sh (.str p.2), ?_⟩
            rotate_left
            · rw [show step n p = n by simp [step, m1, m2]]
            · rw [decide_eq_true m1] at i1
              rw [decide_eq_true m2] at i2
              generalize n.map D.str = W at *
              unfold lb_parts_1
              simp [mop, ev2, ev1, evA, getA, look, slotOk, mcst, mvar, asB, mlst, mtup, mcons, mnil, mfn, mfnL, evN, evAs, getAs, mite, band, bor, bnot, mand, mor, mnot, mcall, iseq, irange1, irange2, sset, ssetO, sret, sdrop, snil, sif, gset, mmut, isL1, ssub, spar, evOs, setSls, slOf, sasg, gtup, gcons, gnil, mslice, osome, onone, mopL, mlensetA, misinst, mmt, kindD, saug, byes, i1, i2, neb]
          · have e : step n p = n ++ [p.2] := by simp [step, m1, m2]
            refine ⟨.nx, [.sh C, .sh L, .sh (.lst PP), .sh left, .ow 1 (.lst found), .ow 1 (.lst ((n ++ [p.2]).map .str)), .sh (.bl true), .sh (.str p.1), .sh (.str p.2), c], t1, ?_, .inl rfl, rfl, .sh (.str p.1), .sh (.str p.2), ?_⟩
            rotate_left
            · rw [e, decide_eq_true (by rw [List.length_append, List.length_singleton]; omega)]
            · rw [decide_eq_true m1] at i1
              rw [decide_eq_false m2] at i2
              generalize (n ++ [p.2]).map D.str = W2 at *
              generalize n.map D.str = W at *
              unfold lb_parts_1
              simp [mop, ev2, ev1, evA, getA, look, slotOk, mcst, mvar, asB, mlst, mtup, mcons, mnil, mfn, mfnL, evN, evAs, getAs, mite, band, bor, bnot, mand, mor, mnot, mcall, iseq, irange1, irange2, sset, ssetO, sret, sdrop, snil, sif, gset, mmut, isL1, ssub, spar, evOs, setSls, slOf, sasg, gtup, gcons, gnil, mslice, osome, onone, mopL, mlensetA, misinst, mmt, kindD, saug, byes, scons, i1, i2, neb, ap2]
        · by_cases m2 : p.2 ∈ n
          · have e : step n p = n ++ [p.1] := by simp [step, m1, m2]
            refine ⟨.nx, [.sh C, .sh L, .sh (.lst PP), .sh left, .ow 1 (.lst found), .ow 1 (.lst ((n ++ [p.1]).map .str)), .sh (.bl true), .sh (.str p.1), .sh (.str p.2), c], t1, ?_, .inl rfl, rfl, .sh (.str p.1), .sh (.str p.2), ?_⟩
            rotate_left
            · rw [e, decide_eq_true (by rw [List.length_append, List.length_singleton]; omega)]
            · rw [decide_eq_false m1] at i1
              rw [decide_eq_true m2] at i2
              generalize (n ++ [p.1]).map D.str = W2 at *
              generalize n.map D.str = W at *
              unfold lb_parts_1
              simp [mop, ev2, ev1, evA, getA, look, slotOk, mcst, mvar, asB, mlst, mtup, mcons, mnil, mfn, mfnL, evN, evAs, getAs, mite, band, bor, bnot, mand, mor, mnot, mcall, iseq, irange1, irange2, sset, ssetO, sret, sdrop, snil, sif, gset, mmut, isL1, ssub, spar, evOs, setSls, slOf, sasg, gtup, gcons, gnil, mslice, osome, onone, mopL, mlensetA, misinst, mmt, kindD, saug, byes, scons, i1, i2, neb, ap1]
          · refine ⟨.nx, [.sh C, .sh L, .sh (.lst PP), .sh left, .ow 1 (.lst found), .ow 1 (.lst (n.map .str)), .sh (.bl (decide (n.length ≠ near.length))), .sh (.str p.1), .sh (.str p.2), c], t1, ?_, .inl rfl, rfl, .sh (.str p.1), .sh (.str p.2), ?_⟩
            rotate_left
            · rw [show step n p = n by simp [step, m1, m2]]
            · rw [decide_eq_false m1] at i1
              rw [decide_eq_false m2] at i2
              generalize n.map D.str = W at *
              unfold lb_parts_1
              simp [mop, ev2, ev1, evA, getA, look, slotOk, mcst, mvar, asB, mlst, mtup, mcons, mnil, mfn, mfnL, evN, evAs, getAs, mite, band, bor, bnot, mand, mor, mnot, mcall, iseq, irange1, irange2, sset, ssetO, sret, sdrop, snil, sif, gset, mmut, isL1, ssub, spar, evOs, setSls, slOf, sasg, gtup, gcons, gnil, mslice, osome, onone, mopL, mlensetA, misinst, mmt, kindD, saug, byes, i1, i2, neb]
  obtain ⟨rfl, a', b', rfl⟩ := hinv
  rw [List.length_map, List.take_length] at l1
  refine ⟨a', b', ?_⟩
  unfold l_parts_1
  refine sfor_nx (Z := tz) (e1 := pE C L (.lst (ps.map prD)) left found (near.map .str) false a b c) (t1 := t') (ds := ps.map prD) ?_ l1
  generalize ps.map prD = PP
  generalize near.map D.str = W
  unfold pE
  simp [mop, ev2, ev1, evA, getA, look, slotOk, mcst, mvar, asB, mlst, mtup, mcons, mnil, mfn, mfnL, evN, evAs, getAs, mite, band, bor, bnot, mand, mor, mnot, mcall, iseq, irange1, irange2, sset, ssetO, sret, sdrop, snil, sif, gset, mmut, isL1, ssub, spar, evOs, setSls, slOf, sasg, gtup, gcons, gnil, mslice, osome, onone, mopL, mlensetA, misinst, mmt, kindD, saug, byes]
end K29

namespace K29
open PySem L2 DL

theorem fin_pass {lot : List Str} {ps : List (Str × Str)} (hp : ∀ p ∈ ps, p.1 ∈ lot ∧ p.2 ∈ lot) {n : List Str} (h1 : n.Nodup) (h2 : ∀ x ∈ n, x ∈ lot) : nearN ps lot.length (pass ps n) = nearN ps lot.length n := by
  rw [nearN_pass]
  exact nearN_fix hp _ n h1 h2 (by omega)
theorem inner_run {lot : List Str} (hl : OkS lot) (h7 : lot.length ≤ 1000) {ps : List (Str × Str)} (hp : ∀ p ∈ ps, p.1 ∈ lot ∧ p.2 ∈ lot) (C L left : D) (found : List D) (c : Sl) (t : Tp) :
    ∀ (k : Nat) (near : List Str) (a b : Sl), near.Nodup → (∀ x ∈ near, x ∈ lot) → lot.length + 1 < k + near.length → ∃ a' b',
    whileL wc_parts_1 wb_parts_1 k (pE C L (.lst (ps.map prD)) left found (near.map .str) true a b c) t = some (.nx, pE C L (.lst (ps.map prD)) left found ((nearN ps lot.length near).map .str) false a' b' c, t) := by
  intro k
  induction k with
  | zero =>
    intro near a b h1 h2 h3
    have := nodup_sub_len near lot h1 h2
    omega
  | succ k ih =>
    intro near a b h1 h2 h3
    obtain ⟨a', b', l⟩ := pairs_loop hl h7 hp C L left found near h1 h2 a b c t
    have n0 := pass_len ps near
    have n1 := pass_nodup ps near h1
    have n2 := pass_inlot (lot := lot) hp near h2
    have fp := fin_pass hp h1 h2
    have ec : wc_parts_1 (pE C L (.lst (ps.map prD)) left found (near.map .str) true a b c) t = some (true, pE C L (.lst (ps.map prD)) left found (near.map .str) true a b c, t) := by
      generalize ps.map prD = PP
      generalize near.map D.str = W
      unfold wc_parts_1 pE
      simp [mop, ev2, ev1, evA, getA, look, slotOk, mcst, mvar, asB, mlst, mtup, mcons, mnil, mfn, mfnL, evN, evAs, getAs, mite, band, bor, bnot, mand, mor, mnot, mcall, iseq, irange1, irange2, sset, ssetO, sret, sdrop, snil, sif, gset, mmut, isL1, ssub, spar, evOs, setSls, slOf, sasg, gtup, gcons, gnil, mslice, osome, onone, mopL, mlensetA, misinst, mmt, kindD, saug, byes]
    have eb : wb_parts_1 (pE C L (.lst (ps.map prD)) left found (near.map .str) true a b c) t = some (.nx, pE C L (.lst (ps.map prD)) left found ((pass ps near).map .str) (decide ((pass ps near).length ≠ near.length)) a' b' c, t) := by
      unfold wb_parts_1
      refine scons_nx (Z := tz) (e1 := pE C L (.lst (ps.map prD)) left found (near.map .str) false a b c) (t1 := t) ?_ l
      generalize ps.map prD = PP
      generalize near.map D.str = W
      unfold pE
      simp [mop, ev2, ev1, evA, getA, look, slotOk, mcst, mvar, asB, mlst, mtup, mcons, mnil, mfn, mfnL, evN, evAs, getAs, mite, band, bor, bnot, mand, mor, mnot, mcall, iseq, irange1, irange2, sset, ssetO, sret, sdrop, snil, sif, gset, mmut, isL1, ssub, spar, evOs, setSls, slOf, sasg, gtup, gcons, gnil, mslice, osome, onone, mopL, mlensetA, misinst, mmt, kindD, saug, byes]
    unfold whileL
    simp only [ec, eb]
    by_cases q : (pass ps near).length = near.length
    · have f := (pass_eq_of_len (by omega : (pass ps near).length ≤ near.length)).1
      rw [nearN_const f, f]
      refine ⟨a', b', ?_⟩
      have : decide (near.length ≠ near.length) = false := by simp
      rw [this]
      obtain ⟨k, rfl⟩ : ∃ j, k = j + 1 := ⟨k - 1, by have := nodup_sub_len near lot h1 h2; omega⟩
      have ec2 : wc_parts_1 (pE C L (.lst (ps.map prD)) left found (near.map .str) false a' b' c) t = some (false, pE C L (.lst (ps.map prD)) left found (near.map .str) false a' b' c, t) := by
        generalize ps.map prD = PP
        generalize near.map D.str = W
        unfold wc_parts_1 pE
        simp [mop, ev2, ev1, evA, getA, look, slotOk, mcst, mvar, asB, mlst, mtup, mcons, mnil, mfn, mfnL, evN, evAs, getAs, mite, band, bor, bnot, mand, mor, mnot, mcall, iseq, irange1, irange2, sset, ssetO, sret, sdrop, snil, sif, gset, mmut, isL1, ssub, spar, evOs, setSls, slOf, sasg, gtup, gcons, gnil, mslice, osome, onone, mopL, mlensetA, misinst, mmt, kindD, saug, byes]
      unfold whileL
      simp only [ec2]
    · have : decide ((pass ps near).length ≠ near.length) = true := by simpa using q
      rw [this]
      have := ih (pass ps near) a' b' n1 n2 (by omega)
      rw [fp] at this
      exact this
theorem gt0 (n : Nat) : gtD (nD n) (.int 0) = some (.bl (decide (0 < n))) := by
  simp [gtD, cmpD]
theorem outer_run {lot : List Str} (hl : OkS lot) (h7 : lot.length ≤ 100) {ps : List (Str × Str)} (hp : ∀ p ∈ ps, p.1 ∈ lot ∧ p.2 ∈ lot) (C : D) (t : Tp) :
    ∀ (n : Nat) (left : List Str) (k : Nat) (found : List D) (s5 s6 s7 s8 s9 : Sl), (∀ x ∈ left, x ∈ lot) → left.length ≤ n → n < k → found.length + left.length ≤ 1000 → (s9 = .no ∨ ∃ d, s9 = .sh d) → ∃ r5 r6 r7 r8 r9,
    whileL wc_parts_2 wb_parts_2 k [.sh C, .sh (nsD lot), .sh (.lst (ps.map prD)), .sh (lsD left), .ow 1 (.lst found), s5, s6, s7, s8, s9] t = some (.nx, [.sh C, .sh (nsD lot), .sh (.lst (ps.map prD)), .sh (lsD []), .ow 1 (.lst (found ++ (partsL ps lot n left).map nsD)), r5, r6, r7, r8, r9], t) := by
  have stop : ∀ (k : Nat) (found : List D) (s5 s6 s7 s8 s9 : Sl), 0 < k → whileL wc_parts_2 wb_parts_2 k [.sh C, .sh (nsD lot), .sh (.lst (ps.map prD)), .sh (lsD []), .ow 1 (.lst found), s5, s6, s7, s8, s9] t = some (.nx, [.sh C, .sh (nsD lot), .sh (.lst (ps.map prD)), .sh (lsD []), .ow 1 (.lst found), s5, s6, s7, s8, s9], t) := by
    intro k found s5 s6 s7 s8 s9 hk
    obtain ⟨k, rfl⟩ : ∃ j, k = j + 1 := ⟨k - 1, by omega⟩
    have g0 := gt0 0
    have ec : wc_parts_2 [.sh C, .sh (nsD lot), .sh (.lst (ps.map prD)), .sh (lsD []), .ow 1 (.lst found), s5, s6, s7, s8, s9] t = some (false, [.sh C, .sh (nsD lot), .sh (.lst (ps.map prD)), .sh (lsD []), .ow 1 (.lst found), s5, s6, s7, s8, s9], t) := by
      have l : len1 [lsD []] = some (nD 0) := rfl
      generalize lsD [] = LL at l ⊢
      generalize nsD lot = NN
      generalize ps.map prD = PP
      unfold wc_parts_2
      generalize nD 0 = z at l g0
      simp [mop, ev2, ev1, evA, getA, look, slotOk, mcst, mvar, asB, mlst, mtup, mcons, mnil, mfn, mfnL, evN, evAs, getAs, mite, band, bor, bnot, mand, mor, mnot, mcall, iseq, irange1, irange2, sset, ssetO, sret, sdrop, snil, sif, gset, mmut, isL1, ssub, spar, evOs, setSls, slOf, sasg, gtup, gcons, gnil, mslice, osome, onone, mopL, mlensetA, misinst, mmt, kindD, saug, byes, l, g0]
    unfold whileL
    simp only [ec]
  intro n
  induction n with
  | zero =>
    intro left k found s5 s6 s7 s8 s9 h1 h2 h3 h4 h9
    have : left = [] := List.eq_nil_of_length_eq_zero (by omega)
    subst this
    refine ⟨s5, s6, s7, s8, s9, ?_⟩
    rw [stop k found _ _ _ _ _ (by omega)]
    simp [partsL]
  | succ n ih =>
    intro left k found s5 s6 s7 s8 s9 h1 h2 h3 h4 h9
    cases left with
    | nil =>
      refine ⟨s5, s6, s7, s8, s9, ?_⟩
      rw [stop k found _ _ _ _ _ (by omega)]
      simp [partsL]
    | cons x r =>
      obtain ⟨k, rfl⟩ : ∃ j, k = j + 1 := ⟨k - 1, by omega⟩
      have hx := h1 x List.mem_cons_self
      obtain ⟨a', b', hi⟩ := inner_run hl (by omega) hp C (nsD lot) (lsD (x :: r)) found s9 t 200 [x] s7 s8 (by simp) (by simpa using hx) (by simp; omega)
      have nin : ∀ y ∈ near ps lot x, y ∈ lot := near_in (S := fun y => y ∈ lot) (fun p q => ⟨fun _ => (hp p q).2, fun _ => (hp p q).1⟩) hx
      have ns := near_self ps lot x
      rw [show nearN ps lot.length [x] = near ps lot x from rfl] at hi
      rw [partsL]
      generalize near ps lot x = nr at hi nin ns ⊢
      have on : OkS nr := hl.sub nin
      have or' := order_run hl (by omega) on.all (.lst (nr.map .str)) (.inr rfl) t
      have me : (lot.filter fun y => memD (.str y) (nr.map .str)) = lot.filter (· ∈ nr) := List.filter_congr fun y _ => mem_str y nr
      rw [me] at or'
      have c : c_parts_1 [.sh C, .sh (nsD lot), .sh (.lst (ps.map prD)), .sh (lsD (x :: r)), .ow 1 (.lst (found ++ [nsD (lot.filter (· ∈ nr))])), .sh (.lst (nr.map .str)), .sh (.bl false), a', b', s9] t = some (lsD ((x :: r).filter (· ∉ nr)), [.sh C, .sh (nsD lot), .sh (.lst (ps.map prD)), .sh (lsD (x :: r)), .ow 1 (.lst (found ++ [nsD (lot.filter (· ∈ nr))])), .sh (.lst (nr.map .str)), .sh (.bl false), a', b', s9], t) := by
        generalize nsD lot = NN
        generalize found ++ [nsD (lot.filter (· ∈ nr))] = FF
        generalize ps.map prD = PP
        unfold c_parts_1
        refine mlc_map (Z := tz) (e1 := [.sh C, .sh NN, .sh (.lst PP), .sh (lsD (x :: r)), .ow 1 (.lst FF), .sh (.lst (nr.map .str)), .sh (.bl false), a', b', s9]) (t1 := t) D.str (fun y => decide (y ∉ nr)) D.str (x :: r) ?_ (by rcases h9 with rfl | ⟨d, rfl⟩ <;> rfl) (by simp only [List.length_cons] at h4 ⊢; omega) fun y hy => ⟨[.sh C, .sh NN, .sh (.lst PP), .sh (lsD (x :: r)), .ow 1 (.lst FF), .sh (.lst (nr.map .str)), .sh (.bl false), a', b', .sh (.str y)], rfl, rfl, ?_, fun _ => ⟨[.sh C, .sh NN, .sh (.lst PP), .sh (lsD (x :: r)), .ow 1 (.lst FF), .sh (.lst (nr.map .str)), .sh (.bl false), a', b', .sh (.str y)], ?_, rfl⟩⟩
        · unfold lsD
          generalize nr.map D.str = W
          simp [mop, ev2, ev1, evA, getA, look, slotOk, mcst, mvar, asB, mlst, mtup, mcons, mnil, mfn, mfnL, evN, evAs, getAs, mite, band, bor, bnot, mand, mor, mnot, mcall, iseq, irange1, irange2, sset, ssetO, sret, sdrop, snil, sif, gset, mmut, isL1, ssub, spar, evOs, setSls, slOf, sasg, gtup, gcons, gnil, mslice, osome, onone, mopL, mlensetA, misinst, mmt, kindD, saug, byes]
        · have i := (in_strs (hl _ (h1 y hy)).1 on).2.2.2
          generalize lsD (x :: r) = LL
          generalize nr.map D.str = W at i ⊢
          unfold ct_parts_1
          have e : (!decide (y ∈ nr)) = decide (y ∉ nr) := by simp
          rw [e] at i
          generalize decide (y ∉ nr) = b at i ⊢
          simp [mop, ev2, ev1, evA, getA, look, slotOk, mcst, mvar, asB, mlst, mtup, mcons, mnil, mfn, mfnL, evN, evAs, getAs, mite, band, bor, bnot, mand, mor, mnot, mcall, iseq, irange1, irange2, sset, ssetO, sret, sdrop, snil, sif, gset, mmut, isL1, ssub, spar, evOs, setSls, slOf, sasg, gtup, gcons, gnil, mslice, osome, onone, mopL, mlensetA, misinst, mmt, kindD, saug, byes, i]
        · unfold ce_parts_1
          generalize lsD (x :: r) = LL
          generalize nr.map D.str = W
          simp [mop, ev2, ev1, evA, getA, look, slotOk, mcst, mvar, asB, mlst, mtup, mcons, mnil, mfn, mfnL, evN, evAs, getAs, mite, band, bor, bnot, mand, mor, mnot, mcall, iseq, irange1, irange2, sset, ssetO, sret, sdrop, snil, sif, gset, mmut, isL1, ssub, spar, evOs, setSls, slOf, sasg, gtup, gcons, gnil, mslice, osome, onone, mopL, mlensetA, misinst, mmt, kindD, saug, byes]
      have ec : wc_parts_2 [.sh C, .sh (nsD lot), .sh (.lst (ps.map prD)), .sh (lsD (x :: r)), .ow 1 (.lst found), s5, s6, s7, s8, s9] t = some (true, [.sh C, .sh (nsD lot), .sh (.lst (ps.map prD)), .sh (lsD (x :: r)), .ow 1 (.lst found), s5, s6, s7, s8, s9], t) := by
        have l : len1 [lsD (x :: r)] = some (nD (r.length + 1)) := by simp [lsD, len1]
        have g0 := gt0 (r.length + 1)
        rw [decide_eq_true (by omega)] at g0
        generalize lsD (x :: r) = LL at l ⊢
        generalize nsD lot = NN
        generalize ps.map prD = PP
        unfold wc_parts_2
        generalize nD (r.length + 1) = z at l g0
        simp [mop, ev2, ev1, evA, getA, look, slotOk, mcst, mvar, asB, mlst, mtup, mcons, mnil, mfn, mfnL, evN, evAs, getAs, mite, band, bor, bnot, mand, mor, mnot, mcall, iseq, irange1, irange2, sset, ssetO, sret, sdrop, snil, sif, gset, mmut, isL1, ssub, spar, evOs, setSls, slOf, sasg, gtup, gcons, gnil, mslice, osome, onone, mopL, mlensetA, misinst, mmt, kindD, saug, byes, l, g0]
      have eb : wb_parts_2 [.sh C, .sh (nsD lot), .sh (.lst (ps.map prD)), .sh (lsD (x :: r)), .ow 1 (.lst found), s5, s6, s7, s8, s9] t = some (.nx, [.sh C, .sh (nsD lot), .sh (.lst (ps.map prD)), .sh (lsD ((x :: r).filter (· ∉ nr))), .ow 1 (.lst (found ++ [nsD (lot.filter (· ∈ nr))])), .sh (.lst (nr.map .str)), .sh (.bl false), a', b', s9], t) := by
        unfold wb_parts_2
        refine scons_nx (Z := tz) (e1 := [.sh C, .sh (nsD lot), .sh (.lst (ps.map prD)), .sh (lsD (x :: r)), .ow 1 (.lst found), .ow 1 (.lst [.str x]), s6, s7, s8, s9]) (t1 := t) ?_
          (scons_nx (Z := tz) (e1 := pE C (nsD lot) (.lst (ps.map prD)) (lsD (x :: r)) found [.str x] true s7 s8 s9) (t1 := t) ?_
          (scons_nx (Z := tz) (e1 := pE C (nsD lot) (.lst (ps.map prD)) (lsD (x :: r)) found (nr.map .str) false a' b' s9) (t1 := t) hi
          (scons_nx (Z := tz) (e1 := [.sh C, .sh (nsD lot), .sh (.lst (ps.map prD)), .sh (lsD (x :: r)), .ow 1 (.lst (found ++ [nsD (lot.filter (· ∈ nr))])), .sh (.lst (nr.map .str)), .sh (.bl false), a', b', s9]) (t1 := t) ?_ (sset_ev (Z := tz) c))))
        · have i : idxD (lsD (x :: r)) (.int 0) = some (.str x) := ixl0 _ _
          generalize lsD (x :: r) = LL at i ⊢
          generalize nsD lot = NN
          generalize ps.map prD = PP
          simp [mop, ev2, ev1, evA, getA, look, slotOk, mcst, mvar, asB, mlst, mtup, mcons, mnil, mfn, mfnL, evN, evAs, getAs, mite, band, bor, bnot, mand, mor, mnot, mcall, iseq, irange1, irange2, sset, ssetO, sret, sdrop, snil, sif, gset, mmut, isL1, ssub, spar, evOs, setSls, slOf, sasg, gtup, gcons, gnil, mslice, osome, onone, mopL, mlensetA, misinst, mmt, kindD, saug, byes, i]
        · generalize lsD (x :: r) = LL
          generalize nsD lot = NN
          generalize ps.map prD = PP
          unfold pE
          simp [mop, ev2, ev1, evA, getA, look, slotOk, mcst, mvar, asB, mlst, mtup, mcons, mnil, mfn, mfnL, evN, evAs, getAs, mite, band, bor, bnot, mand, mor, mnot, mcall, iseq, irange1, irange2, sset, ssetO, sret, sdrop, snil, sif, gset, mmut, isL1, ssub, spar, evOs, setSls, slOf, sasg, gtup, gcons, gnil, mslice, osome, onone, mopL, mlensetA, misinst, mmt, kindD, saug, byes]
        · have ap : uAppend [nsD (lot.filter (· ∈ nr))] found = some (.non, found ++ [nsD (lot.filter (· ∈ nr))]) := by
            have : found.length < sizeLine := Nat.lt_of_le_of_lt (by omega : found.length ≤ 1000) (by decide)
            simp only [uAppend, this, if_true]
          generalize nsD (lot.filter (· ∈ nr)) = P at ap or' ⊢
          generalize found ++ [P] = FF at ap ⊢
          generalize lsD (x :: r) = LL
          generalize nsD lot = NN at or' ⊢
          generalize ps.map prD = PP
          generalize nr.map D.str = W at or' ⊢
          obtain ⟨F, hF⟩ : ∃ z, z = f_in_order := ⟨_, rfl⟩
          rw [← hF] at or' ⊢
          clear hF
          unfold pE
          simp [mop, ev2, ev1, evA, getA, look, slotOk, mcst, mvar, asB, mlst, mtup, mcons, mnil, mfn, mfnL, evN, evAs, getAs, mite, band, bor, bnot, mand, mor, mnot, mcall, iseq, irange1, irange2, sset, ssetO, sret, sdrop, snil, sif, gset, mmut, isL1, ssub, spar, evOs, setSls, slOf, sasg, gtup, gcons, gnil, mslice, osome, onone, mopL, mlensetA, misinst, mmt, kindD, saug, byes, or', ap]
      have lt : ((x :: r).filter (· ∉ nr)).length ≤ n := by
        have := filter_not_len (x :: r) (fun y => decide (y ∈ nr))
        have h1 : 0 < ((x :: r).filter (fun y => decide (y ∈ nr))).length := List.length_pos_of_mem (a := x) (List.mem_filter.mpr ⟨List.mem_cons_self, by simpa using ns⟩)
        simp only [decide_not] at *
        omega
      obtain ⟨r5, r6, r7, r8, r9, q⟩ := ih ((x :: r).filter (· ∉ nr)) k (found ++ [nsD (lot.filter (· ∈ nr))]) (.sh (.lst (nr.map .str))) (.sh (.bl false)) a' b' s9 (fun y hy => h1 y (List.mem_filter.mp hy).1) lt (by omega) (by
        rw [List.length_append, List.length_singleton]
        have := List.length_filter_le (fun y => decide (y ∉ nr)) (x :: r)
        have h1 : ((x :: r).filter (fun y => decide (y ∉ nr))).length < (x :: r).length := by
          have := filter_not_len (x :: r) (fun y => decide (y ∈ nr))
          have h1 : 0 < ((x :: r).filter (fun y => decide (y ∈ nr))).length := List.length_pos_of_mem (a := x) (List.mem_filter.mpr ⟨List.mem_cons_self, by simpa using ns⟩)
          simp only [decide_not] at *
          omega
        omega) h9
      refine ⟨r5, r6, r7, r8, r9, ?_⟩
      unfold whileL
      simp only [ec, eb, q, List.map_cons, List.append_assoc, List.singleton_append]
theorem parts_run {N lot : List Str} {cs : List Cl} (hN : OkS N) (hl : OkS lot) (h7 : lot.length ≤ 100) (hc : ∀ c ∈ cs, ClIn N c) (hz : cs.length ≤ 1000) (t : Tp) :
    f_parts [csD cs, nsD lot] t = some (.lst ((partsOf (prs cs lot) lot).map nsD), t) := by
  have ti := ties_run hN hl hc hz t
  obtain ⟨r5, r6, r7, r8, r9, q⟩ := outer_run hl h7 (ps := prs cs lot) prs_in (csD cs) t lot.length lot 200 [] .no .no .no .no .no (fun _ h => h) (Nat.le_refl _) (by omega) (by simp; omega) (.inl rfl)
  rw [List.nil_append] at q
  unfold partsOf
  generalize (partsL (prs cs lot) lot lot.length lot).map nsD = R at q ⊢
  have l1 : list1 [nsD lot] = some (lot.map .str) := rfl
  rw [show lsD lot = .lst (lot.map .str) from rfl] at q
  generalize (prs cs lot).map prD = PP at q ti
  generalize lot.map D.str = LL at q l1
  generalize csD cs = C at ti q ⊢
  generalize nsD lot = NN at ti q l1 ⊢
  refine runFn_at (Z := tz) (e1 := [.sh C, .sh NN, .sh (.lst PP), .sh (lsD []), .sh (.lst R), r5, r6, r7, r8, r9]) [.sh C, .sh NN, .no, .no, .no, .no, .no, .no, .no, .no] rfl ?_
  refine scons_nx (Z := tz) (e1 := [.sh C, .sh NN, .sh (.lst PP), .no, .no, .no, .no, .no, .no, .no]) (t1 := t) ?_ (scons_nx (Z := tz) (e1 := [.sh C, .sh NN, .sh (.lst PP), .sh (.lst LL), .ow 1 (.lst []), .no, .no, .no, .no, .no]) (t1 := t) ?_ (scons_nx (Z := tz) q ?_))
  · obtain ⟨F, hF⟩ : ∃ z, z = f_ties := ⟨_, rfl⟩
    rw [← hF] at ti ⊢
    clear hF
    simp [mop, ev2, ev1, evA, getA, look, slotOk, mcst, mvar, asB, mlst, mtup, mcons, mnil, mfn, mfnL, evN, evAs, getAs, mite, band, bor, bnot, mand, mor, mnot, mcall, iseq, irange1, irange2, sset, ssetO, sret, sdrop, snil, sif, gset, mmut, isL1, ssub, spar, evOs, setSls, slOf, sasg, gtup, gcons, gnil, mslice, osome, onone, mopL, mlensetA, misinst, mmt, kindD, saug, byes, ti]
  · simp [mop, ev2, ev1, evA, getA, look, slotOk, mcst, mvar, asB, mlst, mtup, mcons, mnil, mfn, mfnL, evN, evAs, getAs, mite, band, bor, bnot, mand, mor, mnot, mcall, iseq, irange1, irange2, sset, ssetO, sret, sdrop, snil, sif, gset, mmut, isL1, ssub, spar, evOs, setSls, slOf, sasg, gtup, gcons, gnil, mslice, osome, onone, mopL, mlensetA, misinst, mmt, kindD, saug, byes, l1]
  · generalize lsD [] = E
    simp [mop, ev2, ev1, evA, getA, look, slotOk, mcst, mvar, asB, mlst, mtup, mcons, mnil, mfn, mfnL, evN, evAs, getAs, mite, band, bor, bnot, mand, mor, mnot, mcall, iseq, irange1, irange2, sset, ssetO, sret, sdrop, snil, sif, gset, mmut, isL1, ssub, spar, evOs, setSls, slOf, sasg, gtup, gcons, gnil, mslice, osome, onone, mopL, mlensetA, misinst, mmt, kindD, saug, byes]
end K29

namespace K29
open PySem L2 DL

def qE (C L : D) (P : List D) (left : D) (found near : List D) (tu st a b c x y : Sl) : List Sl := [.sh C, .sh L, .sh (.lst P), .sh left, .ow 1 (.lst found), tu, .ow 1 (.lst near), st, a, b, c, x, y]
def fst2 (c : Cl) : Str × Str := (c.1, c.2.1)
theorem law_pairs {lot : List Str} (hl : OkS lot) (h7 : lot.length ≤ 1000) {cs : List Cl} (hp : ∀ c ∈ cs, c.1 ∈ lot ∧ c.2.1 ∈ lot) (C L left : D) (found : List D) (near : List Str) (hn : near.Nodup) (hs : ∀ x ∈ near, x ∈ lot) (tu st a b c x y : Sl) (t : Tp) :
    ∃ a' b' c', l__law_parts_1 (qE C L (cs.map clD) left found (near.map .str) tu st a b c x y) t = some (.nx, qE C L (cs.map clD) left found ((pass (cs.map fst2) near).map .str) tu st a' b' c' x y, t) := by
  obtain ⟨e', t', l1, hinv⟩ := forL_nx (Z := tz) (g := gtup 3 (gcons (gset 8) (gcons (gset 9) (gcons (gset 10) gnil)))) (b := lb__law_parts_1) (ds := cs.map clD) (e := qE C L (cs.map clD) left found (near.map .str) tu st a b c x y) (t := t)
    (fun i e t1 => t1 = t ∧ ∃ a' b' c', e = qE C L (cs.map clD) left found ((pass ((cs.take i).map fst2) near).map .str) tu st a' b' c' x y) ⟨rfl, a, b, c, by simp [pass]⟩ fun i d e t1 hd hi => by
      obtain ⟨rfl, a', b', c', rfl⟩ := hi
      rw [List.getElem?_map] at hd
      cases q : cs[i]? with
      | none => rw [q] at hd; simp at hd
      | some p =>
        rw [q] at hd
        simp at hd
        subst hd
        have hpm : p ∈ cs := List.mem_of_getElem? q
        have hp1 := hp p hpm
        refine ⟨qE C L (cs.map clD) left found ((pass ((cs.take i).map fst2) near).map .str) tu st (.sh (.str p.1)) (.sh (.str p.2.1)) (.sh (.str p.2.2)) x y, rfl, ?_⟩
        rw [take_one q, List.map_append, List.map_cons, List.map_nil, pass_snoc]
        have n1 := pass_nodup ((cs.take i).map fst2) near hn
        have n2 := pass_inlot (lot := lot) (ps := (cs.take i).map fst2) (fun r hr => by
          obtain ⟨c, hc, rfl⟩ := List.mem_map.mp hr
          exact hp c (List.mem_of_mem_take hc)) near hs
        generalize pass ((cs.take i).map fst2) near = n at n1 n2 ⊢
        have n3 := nodup_sub_len n lot n1 n2
        have on : OkS n := hl.sub n2
        have i1 := (in_strs (hl _ hp1.1).1 on).2.2
        have i2 := (in_strs (hl _ hp1.2).1 on).2.2
        have ap1 := ap_str n p.1 (by omega)
        have ap2 := ap_str n p.2.1 (by omega)
        generalize cs.map clD = PP
        unfold qE
        refine ⟨.nx, [.sh C, .sh L, .sh (.lst PP), .sh left, .ow 1 (.lst found), tu, .ow 1 (.lst ((step n (fst2 p)).map .str)), st, .sh (.str p.1), .sh (.str p.2.1), .sh (.str p.2.2), x, y], t1, ?_, .inl rfl, rfl, _, _, _, rfl⟩
        unfold lb__law_parts_1
        by_cases m1 : p.1 ∈ n
        · by_cases m2 : p.2.1 ∈ n
          · rw [show step n (fst2 p) = n by simp [step, fst2, m1, m2]]
            rw [decide_eq_true m1] at i1
            rw [decide_eq_true m2] at i2
            generalize n.map D.str = W at *
            simp [mop, ev2, ev1, evA, getA, look, slotOk, mcst, mvar, asB, mlst, mtup, mcons, mnil, mfn, mfnL, evN, evAs, getAs, mite, band, bor, bnot, mand, mor, mnot, mcall, iseq, irange1, irange2, sset, ssetO, sret, sdrop, snil, sif, gset, mmut, isL1, ssub, spar, evOs, setSls, slOf, sasg, gtup, gcons, gnil, mslice, osome, onone, mopL, mlensetA, misinst, mmt, kindD, saug, byes, scons, i1, i2]
          · have e : step n (fst2 p) = n ++ [p.2.1] := by simp [step, fst2, m1, m2]
            rw [e]
            have j1 := (in_strs (hl _ hp1.1).1 (hl.sub (ys := n ++ [p.2.1]) (by intro z hz; rcases List.mem_append.mp hz with hz | hz; exact n2 z hz; simp at hz; rw [hz]; exact hp1.2))).2.2
            have j2 := (in_strs (hl _ hp1.2).1 (hl.sub (ys := n ++ [p.2.1]) (by intro z hz; rcases List.mem_append.mp hz with hz | hz; exact n2 z hz; simp at hz; rw [hz]; exact hp1.2))).2.2
            rw [decide_eq_true (by simp [m1])] at j1
            rw [decide_eq_true (by simp)] at j2
            rw [decide_eq_true m1] at i1
            rw [decide_eq_false m2] at i2
            generalize (n ++ [p.2.1]).map D.str = W2 at *
            generalize n.map D.str = W at *
            simp [mop, ev2, ev1, evA, getA, look, slotOk, mcst, mvar, asB, mlst, mtup, mcons, mnil, mfn, mfnL, evN, evAs, getAs, mite, band, bor, bnot, mand, mor, mnot, mcall, iseq, irange1, irange2, sset, ssetO, sret, sdrop, snil, sif, gset, mmut, isL1, ssub, spar, evOs, setSls, slOf, sasg, gtup, gcons, gnil, mslice, osome, onone, mopL, mlensetA, misinst, mmt, kindD, saug, byes, scons, i1, i2, ap2, j1, j2]
        · by_cases m2 : p.2.1 ∈ n
          · have e : step n (fst2 p) = n ++ [p.1] := by simp [step, fst2, m1, m2]
            rw [e]
            rw [decide_eq_false m1] at i1
            rw [decide_eq_true m2] at i2
            generalize (n ++ [p.1]).map D.str = W2 at *
            generalize n.map D.str = W at *
            simp [mop, ev2, ev1, evA, getA, look, slotOk, mcst, mvar, asB, mlst, mtup, mcons, mnil, mfn, mfnL, evN, evAs, getAs, mite, band, bor, bnot, mand, mor, mnot, mcall, iseq, irange1, irange2, sset, ssetO, sret, sdrop, snil, sif, gset, mmut, isL1, ssub, spar, evOs, setSls, slOf, sasg, gtup, gcons, gnil, mslice, osome, onone, mopL, mlensetA, misinst, mmt, kindD, saug, byes, scons, i1, i2, ap1]
          · rw [show step n (fst2 p) = n by simp [step, fst2, m1, m2]]
            rw [decide_eq_false m1] at i1
            rw [decide_eq_false m2] at i2
            generalize n.map D.str = W at *
            simp [mop, ev2, ev1, evA, getA, look, slotOk, mcst, mvar, asB, mlst, mtup, mcons, mnil, mfn, mfnL, evN, evAs, getAs, mite, band, bor, bnot, mand, mor, mnot, mcall, iseq, irange1, irange2, sset, ssetO, sret, sdrop, snil, sif, gset, mmut, isL1, ssub, spar, evOs, setSls, slOf, sasg, gtup, gcons, gnil, mslice, osome, onone, mopL, mlensetA, misinst, mmt, kindD, saug, byes, scons, i1, i2]
  obtain ⟨rfl, a', b', c', rfl⟩ := hinv
  rw [List.length_map, List.take_length] at l1
  refine ⟨a', b', c', ?_⟩
  unfold l__law_parts_1
  refine sfor_nx (Z := tz) (e1 := qE C L (cs.map clD) left found (near.map .str) tu st a b c x y) (t1 := t') (ds := cs.map clD) ?_ l1
  generalize cs.map clD = PP
  generalize near.map D.str = W
  unfold qE
  simp [mop, ev2, ev1, evA, getA, look, slotOk, mcst, mvar, asB, mlst, mtup, mcons, mnil, mfn, mfnL, evN, evAs, getAs, mite, band, bor, bnot, mand, mor, mnot, mcall, iseq, irange1, irange2, sset, ssetO, sret, sdrop, snil, sif, gset, mmut, isL1, ssub, spar, evOs, setSls, slOf, sasg, gtup, gcons, gnil, mslice, osome, onone, mopL, mlensetA, misinst, mmt, kindD, saug, byes]
theorem range0 (n : Nat) : rangeD 0 n = (List.range n).map nD := by
  unfold rangeD
  apply List.map_congr_left
  intro i _
  show D.int _ = D.int _
  congr 1
  omega
theorem range_get {n i : Nat} {d : D} (h : ((List.range n).map nD)[i]? = some d) : i < n ∧ d = nD i := by
  have hk : i < n := by
    have := (List.getElem?_eq_some_iff.mp h).1
    simpa using this
  rw [List.getElem?_map, List.getElem?_range hk] at h
  exact ⟨hk, by simpa using h.symm⟩
theorem law_near {lot : List Str} (hl : OkS lot) (h7 : lot.length ≤ 1000) {cs : List Cl} (hp : ∀ c ∈ cs, c.1 ∈ lot ∧ c.2.1 ∈ lot) (C left : D) (found : List D) (z : Str) (hz : z ∈ lot) (tu st a b c x y : Sl) (t : Tp) :
    ∃ st' a' b' c', l__law_parts_2 (qE C (nsD lot) (cs.map clD) left found [.str z] tu st a b c x y) t = some (.nx, qE C (nsD lot) (cs.map clD) left found ((near (cs.map fst2) lot z).map .str) tu st' a' b' c' x y, t) := by
  have hq : ∀ p ∈ cs.map fst2, p.1 ∈ lot ∧ p.2 ∈ lot := fun r hr => by
    obtain ⟨c, hc, rfl⟩ := List.mem_map.mp hr
    exact hp c hc
  have grow : ∀ i, nearN (cs.map fst2) (i + 1) [z] = pass (cs.map fst2) (nearN (cs.map fst2) i [z]) := fun i => nearN_pass _ i _
  have nd : ∀ i, (nearN (cs.map fst2) i [z]).Nodup ∧ ∀ y ∈ nearN (cs.map fst2) i [z], y ∈ lot := by
    intro i
    induction i with
    | zero => exact ⟨by simp [nearN], by simpa [nearN] using hz⟩
    | succ i ih => rw [grow]; exact ⟨pass_nodup _ _ ih.1, pass_inlot hq _ ih.2⟩
  obtain ⟨e', t', l1, hinv⟩ := forL_nx (Z := tz) (g := gset 7) (b := lb__law_parts_2) (ds := (List.range lot.length).map nD) (e := qE C (nsD lot) (cs.map clD) left found [.str z] tu st a b c x y) (t := t)
    (fun i e t1 => t1 = t ∧ ∃ st' a' b' c', e = qE C (nsD lot) (cs.map clD) left found ((nearN (cs.map fst2) i [z]).map .str) tu st' a' b' c' x y) ⟨rfl, st, a, b, c, by simp [nearN]⟩ fun i d e t1 hd hi => by
      obtain ⟨rfl, st', a', b', c', rfl⟩ := hi
      obtain ⟨_, rfl⟩ := range_get hd
      obtain ⟨a2, b2, c2, q⟩ := law_pairs hl h7 hp C (nsD lot) left found _ (nd i).1 (nd i).2 tu (.sh (nD i)) a' b' c' x y t1
      exact ⟨_, rfl, .nx, _, t1, q, .inl rfl, rfl, _, _, _, _, by rw [grow]⟩
  obtain ⟨rfl, st', a', b', c', rfl⟩ := hinv
  rw [List.length_map, List.length_range] at l1
  refine ⟨st', a', b', c', ?_⟩
  unfold l__law_parts_2
  unfold near
  refine sfor_nx (Z := tz) (e1 := qE C (nsD lot) (cs.map clD) left found [.str z] tu st a b c x y) (t1 := t') (ds := (List.range lot.length).map nD) ?_ l1
  have l : len1 [nsD lot] = some (nD lot.length) := by simp [nsD, len1]
  have b1 : ((lot.length : Nat) : Int) < 4611686018427387904 := by omega
  generalize lot.length = n at l b1
  generalize cs.map clD = PP
  generalize nsD lot = NN at l ⊢
  unfold qE
  simp [mop, ev2, ev1, evA, getA, look, slotOk, mcst, mvar, asB, mlst, mtup, mcons, mnil, mfn, mfnL, evN, evAs, getAs, mite, band, bor, bnot, mand, mor, mnot, mcall, iseq, irange1, irange2, sset, ssetO, sret, sdrop, snil, sif, gset, mmut, isL1, ssub, spar, evOs, setSls, slOf, sasg, gtup, gcons, gnil, mslice, osome, onone, mopL, mlensetA, misinst, mmt, kindD, saug, byes, l, b1, range0]
theorem law_parts_run {N lot : List Str} {cs : List Cl} (hN : OkS N) (hl : OkS lot) (h7 : lot.length ≤ 100) (hc : ∀ c ∈ cs, ClIn N c) (hz : cs.length ≤ 1000) (t : Tp) :
    f__law_parts [csD cs, nsD lot] t = some (.lst ((partsOf (prs cs lot) lot).map lsD), t) := by
  have c0 : c__law_parts_3 [.sh (csD cs), .sh (nsD lot), .no, .no, .no, .no, .no, .no, .no, .no, .no, .no, .no] t = some (.lst ((cs.filter (inlot lot)).map clD), [.sh (csD cs), .sh (nsD lot), .no, .no, .no, .no, .no, .no, .no, .no, .no, .no, .no], t) := by
    unfold c__law_parts_3
    refine mlc_map (Z := tz) (e1 := [.sh (csD cs), .sh (nsD lot), .no, .no, .no, .no, .no, .no, .no, .no, .no, .no, .no]) (t1 := t) clD (inlot lot) clD cs ?_ rfl (by omega) fun x hx => ⟨[.sh (csD cs), .sh (nsD lot), .no, .no, .no, .no, .no, .no, .no, .no, .no, .sh (clD x), .no], rfl, rfl, ?_, fun _ => ⟨[.sh (csD cs), .sh (nsD lot), .no, .no, .no, .no, .no, .no, .no, .no, .no, .sh (clD x), .no], ?_, rfl⟩⟩
    · generalize nsD lot = FF
      unfold csD
      simp [mop, ev2, ev1, evA, getA, look, slotOk, mcst, mvar, asB, mlst, mtup, mcons, mnil, mfn, mfnL, evN, evAs, getAs, mite, band, bor, bnot, mand, mor, mnot, mcall, iseq, irange1, irange2, sset, ssetO, sret, sdrop, snil, sif, gset, mmut, isL1, ssub, spar, evOs, setSls, slOf, sasg, gtup, gcons, gnil, mslice, osome, onone, mopL, mlensetA, misinst, mmt, kindD, saug, byes]
    · have a1 := (in_strs (hN _ (hc x hx).1).1 hl).1
      have a2 := (in_strs (hN _ (hc x hx).2.1).1 hl).1
      have a3 := (in_strs (hN _ (hc x hx).2.2).1 hl).1
      have i0 : idxD (clD x) (.int 0) = some (.str x.1) := ix0 _ _
      have i1 : idxD (clD x) (.int 1) = some (.str x.2.1) := ix1 _ _ _
      have i2 : idxD (clD x) (.int 2) = some (.str x.2.2) := ix2 _ _ _ _
      unfold ct__law_parts_3 inlot
      generalize decide (x.1 ∈ lot) = b1 at a1 ⊢
      generalize decide (x.2.1 ∈ lot) = b2 at a2 ⊢
      generalize decide (x.2.2 ∈ lot) = b3 at a3 ⊢
      generalize csD cs = CC
      generalize clD x = XX at i0 i1 i2 ⊢
      generalize nsD lot = FF at a1 a2 a3 ⊢
      cases b1 <;> cases b2 <;> simp [mop, ev2, ev1, evA, getA, look, slotOk, mcst, mvar, asB, mlst, mtup, mcons, mnil, mfn, mfnL, evN, evAs, getAs, mite, band, bor, bnot, mand, mor, mnot, mcall, iseq, irange1, irange2, sset, ssetO, sret, sdrop, snil, sif, gset, mmut, isL1, ssub, spar, evOs, setSls, slOf, sasg, gtup, gcons, gnil, mslice, osome, onone, mopL, mlensetA, misinst, mmt, kindD, saug, byes, a1, a2, a3, i0, i1, i2]
    · unfold ce__law_parts_3
      simp [mop, ev2, ev1, evA, getA, look, slotOk, mcst, mvar, asB, mlst, mtup, mcons, mnil, mfn, mfnL, evN, evAs, getAs, mite, band, bor, bnot, mand, mor, mnot, mcall, iseq, irange1, irange2, sset, ssetO, sret, sdrop, snil, sif, gset, mmut, isL1, ssub, spar, evOs, setSls, slOf, sasg, gtup, gcons, gnil, mslice, osome, onone, mopL, mlensetA, misinst, mmt, kindD, saug, byes]
  have hq : ∀ p ∈ prs cs lot, p.1 ∈ lot ∧ p.2 ∈ lot := prs_in
  have e2 : prs cs lot = (cs.filter (inlot lot)).map fst2 := rfl
  have hc' : ∀ c ∈ cs.filter (inlot lot), c.1 ∈ lot ∧ c.2.1 ∈ lot := fun c hc => by
    have := (List.mem_filter.mp hc).2
    simp only [inlot, Bool.and_eq_true, decide_eq_true_eq] at this
    exact ⟨this.1, this.2.1⟩
  unfold partsOf
  rw [e2] at hq ⊢
  generalize cs.filter (inlot lot) = cs' at c0 hq hc' ⊢
  obtain ⟨fl, e', t', l1, h⟩ := forL_brk (Z := tz) (g := gset 5) (b := lb__law_parts_3) (ds := (List.range lot.length).map nD) (e := [.sh (csD cs), .sh (nsD lot), .sh (.lst (cs'.map clD)), .sh (lsD lot), .ow 1 (.lst []), .no, .no, .no, .no, .no, .no, .no, .no]) (t := t)
    (fun i e t1 => t1 = t ∧ ∃ left found s5 s6 s7 s8 s9 s10, e = [.sh (csD cs), .sh (nsD lot), .sh (.lst (cs'.map clD)), .sh (lsD left), .ow 1 (.lst found), s5, s6, s7, s8, s9, s10, .no, .no] ∧
      found ++ (partsL (cs'.map fst2) lot (lot.length - i) left).map lsD = (partsL (cs'.map fst2) lot lot.length lot).map lsD ∧ left.length ≤ lot.length - i ∧ (∀ x ∈ left, x ∈ lot) ∧ found.length ≤ i)
    (fun e t1 => t1 = t ∧ ∃ s3 s5 s6 s7 s8 s9 s10, e = [.sh (csD cs), .sh (nsD lot), .sh (.lst (cs'.map clD)), s3, .ow 1 (.lst ((partsL (cs'.map fst2) lot lot.length lot).map lsD)), s5, s6, s7, s8, s9, s10, .no, .no])
    (fun _ _ => False) ⟨rfl, lot, [], .no, .no, .no, .no, .no, .no, rfl, by simp, by omega, fun _ h => h, by simp⟩ fun i d e t1 hd hi => by
      obtain ⟨rfl, left, found, s5, s6, s7, s8, s9, s10, rfl, i1, i2, i3, i4⟩ := hi
      obtain ⟨hk, rfl⟩ := range_get hd
      refine ⟨[.sh (csD cs), .sh (nsD lot), .sh (.lst (cs'.map clD)), .sh (lsD left), .ow 1 (.lst found), .sh (nD i), s6, s7, s8, s9, s10, .no, .no], rfl, ?_⟩
      obtain ⟨m, hm⟩ : ∃ m, lot.length - i = m + 1 := ⟨lot.length - i - 1, by omega⟩
      rw [hm] at i1
      have l : len1 [lsD left] = some (nD left.length) := by simp [lsD, len1]
      cases left with
      | nil =>
        refine ⟨.bk, [.sh (csD cs), .sh (nsD lot), .sh (.lst (cs'.map clD)), .sh (lsD []), .ow 1 (.lst found), .sh (nD i), s6, s7, s8, s9, s10, .no, .no], t1, ?_, .inr (.inl ⟨rfl, rfl, .sh (lsD []), .sh (nD i), s6, s7, s8, s9, s10, ?_⟩)⟩
        · have e0 : eqD (nD 0) (.int 0) = some (.bl true) := rfl
          have l' : len1 [lsD []] = some (nD 0) := l
          generalize nD 0 = z at l' e0
          generalize lsD [] = LL at l' ⊢
          generalize cs'.map clD = PP
          generalize csD cs = CC
          generalize nsD lot = NN
          unfold lb__law_parts_3
          simp [mop, ev2, ev1, evA, getA, look, slotOk, mcst, mvar, asB, mlst, mtup, mcons, mnil, mfn, mfnL, evN, evAs, getAs, mite, band, bor, bnot, mand, mor, mnot, mcall, iseq, irange1, irange2, sset, ssetO, sret, sdrop, snil, sif, gset, mmut, isL1, ssub, spar, evOs, setSls, slOf, sasg, gtup, gcons, gnil, mslice, osome, onone, mopL, mlensetA, misinst, mmt, kindD, saug, byes, scons, l', e0, sfl]
        · rw [← i1]; simp [partsL]
      | cons x r =>
        have hx := i3 x List.mem_cons_self
        have nin : ∀ y ∈ near (cs'.map fst2) lot x, y ∈ lot := near_in (S := fun y => y ∈ lot) (fun p q => ⟨fun _ => (hq p q).2, fun _ => (hq p q).1⟩) hx
        have ns := near_self (cs'.map fst2) lot x
        obtain ⟨st', a', b', c', ln⟩ := law_near hl (by omega) hc' (csD cs) (lsD (x :: r)) found x hx (.sh (nD i)) s7 s8 s9 s10 .no .no t1
        rw [partsL] at i1
        generalize near (cs'.map fst2) lot x = nr at nin ns ln i1
        have on : OkS nr := hl.sub nin
        have c2 : c__law_parts_2 (qE (csD cs) (nsD lot) (cs'.map clD) (lsD (x :: r)) found (nr.map .str) (.sh (nD i)) st' a' b' c' .no .no) t1 = some (lsD (lot.filter (· ∈ nr)), qE (csD cs) (nsD lot) (cs'.map clD) (lsD (x :: r)) found (nr.map .str) (.sh (nD i)) st' a' b' c' .no .no, t1) := by
          generalize cs'.map clD = PP
          generalize lsD (x :: r) = LL
          generalize csD cs = CC
          unfold c__law_parts_2 qE
          refine mlc_map (Z := tz) (e1 := [.sh CC, .sh (nsD lot), .sh (.lst PP), .sh LL, .ow 1 (.lst found), .sh (nD i), .ow 1 (.lst (nr.map .str)), st', a', b', c', .no, .no]) (t1 := t1) D.str (fun y => decide (y ∈ nr)) D.str lot ?_ rfl (by omega) fun y hy => ⟨[.sh CC, .sh (nsD lot), .sh (.lst PP), .sh LL, .ow 1 (.lst found), .sh (nD i), .ow 1 (.lst (nr.map .str)), st', a', b', c', .no, .sh (.str y)], rfl, rfl, ?_, fun _ => ⟨[.sh CC, .sh (nsD lot), .sh (.lst PP), .sh LL, .ow 1 (.lst found), .sh (nD i), .ow 1 (.lst (nr.map .str)), st', a', b', c', .no, .sh (.str y)], ?_, rfl⟩⟩
          · unfold nsD
            generalize nr.map D.str = W
            simp [mop, ev2, ev1, evA, getA, look, slotOk, mcst, mvar, asB, mlst, mtup, mcons, mnil, mfn, mfnL, evN, evAs, getAs, mite, band, bor, bnot, mand, mor, mnot, mcall, iseq, irange1, irange2, sset, ssetO, sret, sdrop, snil, sif, gset, mmut, isL1, ssub, spar, evOs, setSls, slOf, sasg, gtup, gcons, gnil, mslice, osome, onone, mopL, mlensetA, misinst, mmt, kindD, saug, byes]
          · have i := (in_strs (hl _ hy).1 on).2.2.1
            generalize nsD lot = NN
            generalize nr.map D.str = W at i ⊢
            unfold ct__law_parts_2
            generalize decide (y ∈ nr) = b at i ⊢
            simp [mop, ev2, ev1, evA, getA, look, slotOk, mcst, mvar, asB, mlst, mtup, mcons, mnil, mfn, mfnL, evN, evAs, getAs, mite, band, bor, bnot, mand, mor, mnot, mcall, iseq, irange1, irange2, sset, ssetO, sret, sdrop, snil, sif, gset, mmut, isL1, ssub, spar, evOs, setSls, slOf, sasg, gtup, gcons, gnil, mslice, osome, onone, mopL, mlensetA, misinst, mmt, kindD, saug, byes, i]
          · unfold ce__law_parts_2
            generalize nr.map D.str = W
            simp [mop, ev2, ev1, evA, getA, look, slotOk, mcst, mvar, asB, mlst, mtup, mcons, mnil, mfn, mfnL, evN, evAs, getAs, mite, band, bor, bnot, mand, mor, mnot, mcall, iseq, irange1, irange2, sset, ssetO, sret, sdrop, snil, sif, gset, mmut, isL1, ssub, spar, evOs, setSls, slOf, sasg, gtup, gcons, gnil, mslice, osome, onone, mopL, mlensetA, misinst, mmt, kindD, saug, byes]
        have ap : uAppend [lsD (lot.filter (· ∈ nr))] found = some (.non, found ++ [lsD (lot.filter (· ∈ nr))]) := by
          have : found.length < sizeLine := Nat.lt_of_le_of_lt (by omega : found.length ≤ 1000) (by decide)
          simp only [uAppend, this, if_true]
        have c1 : c__law_parts_1 (qE (csD cs) (nsD lot) (cs'.map clD) (lsD (x :: r)) (found ++ [lsD (lot.filter (· ∈ nr))]) (nr.map .str) (.sh (nD i)) st' a' b' c' .no .no) t1 = some (lsD ((x :: r).filter (· ∉ nr)), qE (csD cs) (nsD lot) (cs'.map clD) (lsD (x :: r)) (found ++ [lsD (lot.filter (· ∈ nr))]) (nr.map .str) (.sh (nD i)) st' a' b' c' .no .no, t1) := by
          generalize cs'.map clD = PP
          generalize found ++ [lsD (lot.filter (· ∈ nr))] = FF
          generalize csD cs = CC
          unfold c__law_parts_1 qE
          refine mlc_map (Z := tz) (e1 := [.sh CC, .sh (nsD lot), .sh (.lst PP), .sh (lsD (x :: r)), .ow 1 (.lst FF), .sh (nD i), .ow 1 (.lst (nr.map .str)), st', a', b', c', .no, .no]) (t1 := t1) D.str (fun y => decide (y ∉ nr)) D.str (x :: r) ?_ rfl (by simp only [List.length_cons] at i2 ⊢; omega) fun y hy => ⟨[.sh CC, .sh (nsD lot), .sh (.lst PP), .sh (lsD (x :: r)), .ow 1 (.lst FF), .sh (nD i), .ow 1 (.lst (nr.map .str)), st', a', b', c', .no, .sh (.str y)], rfl, rfl, ?_, fun _ => ⟨[.sh CC, .sh (nsD lot), .sh (.lst PP), .sh (lsD (x :: r)), .ow 1 (.lst FF), .sh (nD i), .ow 1 (.lst (nr.map .str)), st', a', b', c', .no, .sh (.str y)], ?_, rfl⟩⟩
          · unfold lsD
            generalize nsD lot = NN
            generalize nr.map D.str = W
            simp [mop, ev2, ev1, evA, getA, look, slotOk, mcst, mvar, asB, mlst, mtup, mcons, mnil, mfn, mfnL, evN, evAs, getAs, mite, band, bor, bnot, mand, mor, mnot, mcall, iseq, irange1, irange2, sset, ssetO, sret, sdrop, snil, sif, gset, mmut, isL1, ssub, spar, evOs, setSls, slOf, sasg, gtup, gcons, gnil, mslice, osome, onone, mopL, mlensetA, misinst, mmt, kindD, saug, byes]
          · have i := (in_strs (hl _ (i3 y hy)).1 on).2.2.2
            generalize nsD lot = NN
            generalize lsD (x :: r) = LL
            generalize nr.map D.str = W at i ⊢
            unfold ct__law_parts_1
            have e : (!decide (y ∈ nr)) = decide (y ∉ nr) := by simp
            rw [e] at i
            generalize decide (y ∉ nr) = b at i ⊢
            simp [mop, ev2, ev1, evA, getA, look, slotOk, mcst, mvar, asB, mlst, mtup, mcons, mnil, mfn, mfnL, evN, evAs, getAs, mite, band, bor, bnot, mand, mor, mnot, mcall, iseq, irange1, irange2, sset, ssetO, sret, sdrop, snil, sif, gset, mmut, isL1, ssub, spar, evOs, setSls, slOf, sasg, gtup, gcons, gnil, mslice, osome, onone, mopL, mlensetA, misinst, mmt, kindD, saug, byes, i]
          · unfold ce__law_parts_1
            generalize nr.map D.str = W
            generalize lsD (x :: r) = LL
            generalize nsD lot = NN
            simp [mop, ev2, ev1, evA, getA, look, slotOk, mcst, mvar, asB, mlst, mtup, mcons, mnil, mfn, mfnL, evN, evAs, getAs, mite, band, bor, bnot, mand, mor, mnot, mcall, iseq, irange1, irange2, sset, ssetO, sret, sdrop, snil, sif, gset, mmut, isL1, ssub, spar, evOs, setSls, slOf, sasg, gtup, gcons, gnil, mslice, osome, onone, mopL, mlensetA, misinst, mmt, kindD, saug, byes]
        have lt : ((x :: r).filter (· ∉ nr)).length ≤ m := by
          have := filter_not_len (x :: r) (fun y => decide (y ∈ nr))
          have h1 : 0 < ((x :: r).filter (fun y => decide (y ∈ nr))).length := List.length_pos_of_mem (a := x) (List.mem_filter.mpr ⟨List.mem_cons_self, by simpa using ns⟩)
          simp only [decide_not] at *
          omega
        refine ⟨.nx, [.sh (csD cs), .sh (nsD lot), .sh (.lst (cs'.map clD)), .sh (lsD ((x :: r).filter (· ∉ nr))), .ow 1 (.lst (found ++ [lsD (lot.filter (· ∈ nr))])), .sh (nD i), .ow 1 (.lst (nr.map .str)), st', a', b', c', .no, .no], t1, ?_, .inl ⟨.inl rfl, rfl, (x :: r).filter (· ∉ nr), found ++ [lsD (lot.filter (· ∈ nr))], _, _, _, _, _, _, rfl, ?_, by omega, fun y hy => i3 y (List.mem_filter.mp hy).1, by simp; omega⟩⟩
        · unfold lb__law_parts_3
          refine scons_nx (Z := tz) (e1 := [.sh (csD cs), .sh (nsD lot), .sh (.lst (cs'.map clD)), .sh (lsD (x :: r)), .ow 1 (.lst found), .sh (nD i), s6, s7, s8, s9, s10, .no, .no]) (t1 := t1) ?_
            (scons_nx (Z := tz) (e1 := qE (csD cs) (nsD lot) (cs'.map clD) (lsD (x :: r)) found [.str x] (.sh (nD i)) s7 s8 s9 s10 .no .no) (t1 := t1) ?_
            (scons_nx (Z := tz) ln
            (scons_nx (Z := tz) (e1 := qE (csD cs) (nsD lot) (cs'.map clD) (lsD (x :: r)) (found ++ [lsD (lot.filter (· ∈ nr))]) (nr.map .str) (.sh (nD i)) st' a' b' c' .no .no) (t1 := t1) ?_ (sset_ev (Z := tz) c1))))
          · have e0 : eqD (nD (x :: r).length) (.int 0) = some (.bl false) := by
              simp [eqD, scalD, eqvD]
              omega
            generalize nD (x :: r).length = z at l e0
            generalize lsD (x :: r) = LL at l ⊢
            generalize cs'.map clD = PP
            generalize csD cs = CC
            generalize nsD lot = NN
            simp [mop, ev2, ev1, evA, getA, look, slotOk, mcst, mvar, asB, mlst, mtup, mcons, mnil, mfn, mfnL, evN, evAs, getAs, mite, band, bor, bnot, mand, mor, mnot, mcall, iseq, irange1, irange2, sset, ssetO, sret, sdrop, snil, sif, gset, mmut, isL1, ssub, spar, evOs, setSls, slOf, sasg, gtup, gcons, gnil, mslice, osome, onone, mopL, mlensetA, misinst, mmt, kindD, saug, byes, l, e0]
          · have i : idxD (lsD (x :: r)) (.int 0) = some (.str x) := ixl0 _ _
            generalize lsD (x :: r) = LL at i ⊢
            generalize cs'.map clD = PP
            generalize csD cs = CC
            generalize nsD lot = NN
            unfold qE
            simp [mop, ev2, ev1, evA, getA, look, slotOk, mcst, mvar, asB, mlst, mtup, mcons, mnil, mfn, mfnL, evN, evAs, getAs, mite, band, bor, bnot, mand, mor, mnot, mcall, iseq, irange1, irange2, sset, ssetO, sret, sdrop, snil, sif, gset, mmut, isL1, ssub, spar, evOs, setSls, slOf, sasg, gtup, gcons, gnil, mslice, osome, onone, mopL, mlensetA, misinst, mmt, kindD, saug, byes, i]
          · generalize lsD (lot.filter (· ∈ nr)) = Q at c2 ap ⊢
            generalize found ++ [Q] = FF at ap ⊢
            generalize lsD (x :: r) = LL at c2 ⊢
            generalize cs'.map clD = PP at c2 ⊢
            generalize csD cs = CC at c2 ⊢
            generalize nsD lot = NN at c2 ⊢
            generalize nr.map D.str = W at c2 ⊢
            obtain ⟨F, hF⟩ : ∃ z, z = c__law_parts_2 := ⟨_, rfl⟩
            rw [← hF] at c2 ⊢
            clear hF
            unfold qE at c2 ⊢
            simp [mop, ev2, ev1, evA, getA, look, slotOk, mcst, mvar, asB, mlst, mtup, mcons, mnil, mfn, mfnL, evN, evAs, getAs, mite, band, bor, bnot, mand, mor, mnot, mcall, iseq, irange1, irange2, sset, ssetO, sret, sdrop, snil, sif, gset, mmut, isL1, ssub, spar, evOs, setSls, slOf, sasg, gtup, gcons, gnil, mslice, osome, onone, mopL, mlensetA, misinst, mmt, kindD, saug, byes, c2, ap]
        · rw [show lot.length - (i + 1) = m by omega, ← i1]
          simp
  have fin : ∃ s3 s5 s6 s7 s8 s9 s10, fl = .nx ∧ t' = t ∧ e' = [.sh (csD cs), .sh (nsD lot), .sh (.lst (cs'.map clD)), s3, .ow 1 (.lst ((partsL (cs'.map fst2) lot lot.length lot).map lsD)), s5, s6, s7, s8, s9, s10, .no, .no] := by
    rcases h with ⟨rfl, h | h⟩ | ⟨r, _, h⟩
    · obtain ⟨rfl, left, found, s5, s6, s7, s8, s9, s10, rfl, i1, i2, i3⟩ := h
      rw [List.length_map, List.length_range, Nat.sub_self] at i1
      simp only [partsL, List.map_nil, List.append_nil] at i1
      rw [i1]
      exact ⟨_, _, _, _, _, _, _, rfl, rfl, rfl⟩
    · obtain ⟨rfl, s3, s5, s6, s7, s8, s9, s10, rfl⟩ := h
      exact ⟨_, _, _, _, _, _, _, rfl, rfl, rfl⟩
    · exact h.elim
  obtain ⟨s3, s5, s6, s7, s8, s9, s10, rfl, rfl, rfl⟩ := fin
  have src : l__law_parts_3 [.sh (csD cs), .sh (nsD lot), .sh (.lst (cs'.map clD)), .sh (lsD lot), .ow 1 (.lst []), .no, .no, .no, .no, .no, .no, .no, .no] t' = some (.nx, [.sh (csD cs), .sh (nsD lot), .sh (.lst (cs'.map clD)), s3, .ow 1 (.lst ((partsL (cs'.map fst2) lot lot.length lot).map lsD)), s5, s6, s7, s8, s9, s10, .no, .no], t') := by
    unfold l__law_parts_3
    refine sfor_nx (Z := tz) (e1 := [.sh (csD cs), .sh (nsD lot), .sh (.lst (cs'.map clD)), .sh (lsD lot), .ow 1 (.lst []), .no, .no, .no, .no, .no, .no, .no, .no]) (t1 := t') (ds := (List.range lot.length).map nD) ?_ l1
    have l : len1 [nsD lot] = some (nD lot.length) := by simp [nsD, len1]
    have b1 : ((lot.length : Nat) : Int) < 4611686018427387904 := by omega
    generalize lot.length = n at l b1
    generalize cs'.map clD = PP
    generalize lsD lot = LL
    generalize csD cs = CC
    generalize nsD lot = NN at l ⊢
    simp [mop, ev2, ev1, evA, getA, look, slotOk, mcst, mvar, asB, mlst, mtup, mcons, mnil, mfn, mfnL, evN, evAs, getAs, mite, band, bor, bnot, mand, mor, mnot, mcall, iseq, irange1, irange2, sset, ssetO, sret, sdrop, snil, sif, gset, mmut, isL1, ssub, spar, evOs, setSls, slOf, sasg, gtup, gcons, gnil, mslice, osome, onone, mopL, mlensetA, misinst, mmt, kindD, saug, byes, l, b1, range0]
  have li : list1 [nsD lot] = some (lot.map .str) := rfl
  rw [show lsD lot = .lst (lot.map .str) from rfl] at src
  generalize (partsL (cs'.map fst2) lot lot.length lot).map lsD = R at src ⊢
  generalize cs'.map clD = PP at src c0
  generalize lot.map D.str = LL at src li
  generalize csD cs = C at c0 src ⊢
  generalize nsD lot = NN at c0 src li ⊢
  refine runFn_at (Z := tz) (e1 := [.sh C, .sh NN, .sh (.lst PP), s3, .sh (.lst R), s5, s6, s7, s8, s9, s10, .no, .no]) [.sh C, .sh NN, .no, .no, .no, .no, .no, .no, .no, .no, .no, .no, .no] rfl ?_
  refine scons_nx (Z := tz) (sset_ev (Z := tz) c0) (scons_nx (Z := tz) (e1 := [.sh C, .sh NN, .sh (.lst PP), .sh (.lst LL), .ow 1 (.lst []), .no, .no, .no, .no, .no, .no, .no, .no]) (t1 := t') ?_ (scons_nx (Z := tz) src ?_))
  · simp [mop, ev2, ev1, evA, getA, look, slotOk, mcst, mvar, asB, mlst, mtup, mcons, mnil, mfn, mfnL, evN, evAs, getAs, mite, band, bor, bnot, mand, mor, mnot, mcall, iseq, irange1, irange2, sset, ssetO, sret, sdrop, snil, sif, gset, mmut, isL1, ssub, spar, evOs, setSls, slOf, sasg, gtup, gcons, gnil, mslice, osome, onone, mopL, mlensetA, misinst, mmt, kindD, saug, byes, li]
  · simp [mop, ev2, ev1, evA, getA, look, slotOk, mcst, mvar, asB, mlst, mtup, mcons, mnil, mfn, mfnL, evN, evAs, getAs, mite, band, bor, bnot, mand, mor, mnot, mcall, iseq, irange1, irange2, sset, ssetO, sret, sdrop, snil, sif, gset, mmut, isL1, ssub, spar, evOs, setSls, slOf, sasg, gtup, gcons, gnil, mslice, osome, onone, mopL, mlensetA, misinst, mmt, kindD, saug, byes]
end K29

namespace K29
open PySem L2 DL

def fsD (Fs : List (List Str)) : D := .tup (Fs.map nsD)
theorem any1_bls (bs : List Bool) : any1 [.lst (bs.map .bl)] = some (.bl (bs.any id)) := by simp only [any1, blsD_map, Option.map_some]
theorem all1_bls (bs : List Bool) : all1 [.lst (bs.map .bl)] = some (.bl (bs.all id)) := by simp only [all1, blsD_map, Option.map_some]
/-! ### claims -/
def clB (N : List Str) : D → Bool
  | .tup ds => namesB (.tup ds) && (decide (ds.length = 3) && ds.all fun d => match d with
    | .str x => decide (x ∈ N)
    | _ => false)
  | _ => false
theorem is_claim_run {N : List Str} (hN : Nms N) {w : D} (h : Gd w) (t : Tp) : f_is_claim [w, nsD N] t = some (.bl (clB N w), t) := by
  have n := names_run h t
  refine runFn_at (Z := tz) (e1 := [.sh w, .sh (nsD N), .no]) [.sh w, .sh (nsD N), .no] rfl (sret_ev (Z := tz) ?_)
  by_cases q : namesB w = true
  · obtain ⟨ds, rfl, h1⟩ := namesB_tup q
    have sg : ds.all sigD = true := by
      have q' := q
      simp only [namesB, Bool.and_eq_true] at q'
      exact q'.2.2.1
    obtain ⟨xs, e1, rfl, e3⟩ := sig_strs ds sg
    have ox : OkS xs := fun x hx => un_ok x (h.tup.2 (.str x) (List.mem_map.mpr ⟨x, hx, rfl⟩)).str
    have c : c_is_claim_1 [.sh (nsD xs), .sh (nsD N), .no] t = some (.lst (xs.map fun x => .bl (decide (x ∈ N))), [.sh (nsD xs), .sh (nsD N), .no], t) := by
      unfold c_is_claim_1
      refine mlc_all (Z := tz) (e1 := [.sh (nsD xs), .sh (nsD N), .no]) (t1 := t) D.str (fun x => .bl (decide (x ∈ N))) xs ?_ rfl (by have := h.tup.1; rw [List.length_map] at this; omega) fun x hx => ⟨[.sh (nsD xs), .sh (nsD N), .sh (.str x)], rfl, rfl, [.sh (nsD xs), .sh (nsD N), .sh (.str x)], ?_, rfl⟩
      · generalize nsD N = NN
        unfold nsD
        simp [mop, ev2, ev1, evA, getA, look, slotOk, mcst, mvar, asB, mlst, mtup, mcons, mnil, mfn, mfnL, evN, evAs, getAs, mite, band, bor, bnot, mand, mor, mnot, mcall, iseq, irange1, irange2, sset, ssetO, sret, sdrop, snil, sif, gset, mmut, isL1, ssub, spar, evOs, setSls, slOf, sasg, gtup, gcons, gnil, mslice, osome, onone, mopL, mlensetA, misinst, mmt, kindD, saug, byes]
      · have i := (in_strs (ox x hx).1 hN.okS).1
        generalize nsD N = NN at i ⊢
        generalize nsD xs = XX
        unfold ce_is_claim_1
        simp [mop, ev2, ev1, evA, getA, look, slotOk, mcst, mvar, asB, mlst, mtup, mcons, mnil, mfn, mfnL, evN, evAs, getAs, mite, band, bor, bnot, mand, mor, mnot, mcall, iseq, irange1, irange2, sset, ssetO, sret, sdrop, snil, sif, gset, mmut, isL1, ssub, spar, evOs, setSls, slOf, sasg, gtup, gcons, gnil, mslice, osome, onone, mopL, mlensetA, misinst, mmt, kindD, saug, byes, i]
    have a : all1 [.lst (xs.map fun x => .bl (decide (x ∈ N)))] = some (.bl (xs.all fun x => decide (x ∈ N))) := by
      have := all1_bls (xs.map fun x => decide (x ∈ N))
      rw [List.map_map, List.all_map] at this
      exact this
    have l1 : len1 [nsD xs] = some (nD xs.length) := by simp [nsD, len1]
    have e4 : eqD (nD xs.length) (.int 3) = some (.bl (decide (xs.length = 3))) := by
      simp only [eqD, scalD, Bool.true_or, if_true, eqvD]
      congr 2
      by_cases z : xs.length = 3
      · simp [z]
      · have : ¬ ((xs.length : Int) = 3) := by omega
        simp [z, this]
    have r : clB N (.tup (xs.map .str)) = (decide (xs.length = 3) && xs.all fun x => decide (x ∈ N)) := by
      simp only [clB, q, Bool.true_and, List.length_map, List.all_map]
      rfl
    rw [r]
    rw [q] at n
    rw [show D.tup (xs.map .str) = nsD xs from rfl] at n ⊢
    generalize (xs.map fun x => D.bl (decide (x ∈ N))) = W at c a
    generalize (xs.all fun x => decide (x ∈ N)) = B at a ⊢
    generalize decide (xs.length = 3) = B3 at e4 ⊢
    generalize xs.length = k at l1 e4
    generalize nsD N = NN at c ⊢
    generalize nsD xs = XX at c l1 n ⊢
    obtain ⟨F, hF⟩ : ∃ z, z = f_is_names := ⟨_, rfl⟩
    rw [← hF] at n ⊢
    clear hF
    obtain ⟨C, hC⟩ : ∃ z, z = c_is_claim_1 := ⟨_, rfl⟩
    rw [← hC] at c ⊢
    clear hC
    cases B3 <;> simp [mop, ev2, ev1, evA, getA, look, slotOk, mcst, mvar, asB, mlst, mtup, mcons, mnil, mfn, mfnL, evN, evAs, getAs, mite, band, bor, bnot, mand, mor, mnot, mcall, iseq, irange1, irange2, sset, ssetO, sret, sdrop, snil, sif, gset, mmut, isL1, ssub, spar, evOs, setSls, slOf, sasg, gtup, gcons, gnil, mslice, osome, onone, mopL, mlensetA, misinst, mmt, kindD, saug, byes, n, l1, e4, c, a]
  · have q' : namesB w = false := by simpa using q
    have r : clB N w = false := by
      cases w <;> simp_all [clB]
    rw [r]
    rw [q'] at n
    generalize nsD N = NN
    obtain ⟨F, hF⟩ : ∃ z, z = f_is_names := ⟨_, rfl⟩
    rw [← hF] at n ⊢
    clear hF
    simp [mop, ev2, ev1, evA, getA, look, slotOk, mcst, mvar, asB, mlst, mtup, mcons, mnil, mfn, mfnL, evN, evAs, getAs, mite, band, bor, bnot, mand, mor, mnot, mcall, iseq, irange1, irange2, sset, ssetO, sret, sdrop, snil, sif, gset, mmut, isL1, ssub, spar, evOs, setSls, slOf, sasg, gtup, gcons, gnil, mslice, osome, onone, mopL, mlensetA, misinst, mmt, kindD, saug, byes, n]
def clsB (N : List Str) : D → Bool
  | .tup ds => ds.all (clB N)
  | _ => false
theorem are_claims_run {N : List Str} (hN : Nms N) {w : D} (h : Gd w) (t : Tp) : f_are_claims [w, nsD N] t = some (.bl (clsB N w), t) := by
  refine runFn_at (Z := tz) (e1 := [.sh w, .sh (nsD N), .no]) [.sh w, .sh (nsD N), .no] rfl (sret_ev (Z := tz) ?_)
  by_cases ht : ∃ ds, w = .tup ds
  · obtain ⟨ds, rfl⟩ := ht
    have i : isinstD "tuple" (.tup ds) = some true := rfl
    have c : c_are_claims_1 [.sh (.tup ds), .sh (nsD N), .no] t = some (.lst (ds.map fun d => .bl (clB N d)), [.sh (.tup ds), .sh (nsD N), .no], t) := by
      unfold c_are_claims_1
      refine mlc_all (Z := tz) (e1 := [.sh (.tup ds), .sh (nsD N), .no]) (t1 := t) id (fun d => .bl (clB N d)) ds ?_ rfl (by have := h.tup.1; omega) fun d hd => ⟨[.sh (.tup ds), .sh (nsD N), .sh d], rfl, rfl, [.sh (.tup ds), .sh (nsD N), .sh d], ?_, rfl⟩
      · generalize nsD N = NN
        simp [mop, ev2, ev1, evA, getA, look, slotOk, mcst, mvar, asB, mlst, mtup, mcons, mnil, mfn, mfnL, evN, evAs, getAs, mite, band, bor, bnot, mand, mor, mnot, mcall, iseq, irange1, irange2, sset, ssetO, sret, sdrop, snil, sif, gset, mmut, isL1, ssub, spar, evOs, setSls, slOf, sasg, gtup, gcons, gnil, mslice, osome, onone, mopL, mlensetA, misinst, mmt, kindD, saug, byes]
      · have n := is_claim_run hN (h.tup.2 d hd) t
        generalize nsD N = NN at n ⊢
        unfold ce_are_claims_1
        obtain ⟨F, hF⟩ : ∃ z, z = f_is_claim := ⟨_, rfl⟩
        rw [← hF] at n ⊢
        clear hF
        simp [mop, ev2, ev1, evA, getA, look, slotOk, mcst, mvar, asB, mlst, mtup, mcons, mnil, mfn, mfnL, evN, evAs, getAs, mite, band, bor, bnot, mand, mor, mnot, mcall, iseq, irange1, irange2, sset, ssetO, sret, sdrop, snil, sif, gset, mmut, isL1, ssub, spar, evOs, setSls, slOf, sasg, gtup, gcons, gnil, mslice, osome, onone, mopL, mlensetA, misinst, mmt, kindD, saug, byes, n]
    have a : all1 [.lst (ds.map fun d => .bl (clB N d))] = some (.bl (ds.all (clB N))) := by
      have := all1_bls (ds.map (clB N))
      rw [List.map_map, List.all_map] at this
      exact this
    simp only [clsB]
    generalize (ds.map fun d => D.bl (clB N d)) = W at c a
    generalize ds.all (clB N) = B at a ⊢
    generalize nsD N = NN at c ⊢
    generalize D.tup ds = T at i c ⊢
    obtain ⟨C, hC⟩ : ∃ z, z = c_are_claims_1 := ⟨_, rfl⟩
    rw [← hC] at c ⊢
    clear hC
    simp [mop, ev2, ev1, evA, getA, look, slotOk, mcst, mvar, asB, mlst, mtup, mcons, mnil, mfn, mfnL, evN, evAs, getAs, mite, band, bor, bnot, mand, mor, mnot, mcall, iseq, irange1, irange2, sset, ssetO, sret, sdrop, snil, sif, gset, mmut, isL1, ssub, spar, evOs, setSls, slOf, sasg, gtup, gcons, gnil, mslice, osome, onone, mopL, mlensetA, misinst, mmt, kindD, saug, byes, i, c, a]
  · have i : isinstD "tuple" w = some false := isT_no h.noTape fun ds e => ht ⟨ds, e⟩
    have r : clsB N w = false := by
      cases w <;> first | rfl | exact absurd ⟨_, rfl⟩ ht
    rw [r]
    generalize nsD N = NN
    simp [mop, ev2, ev1, evA, getA, look, slotOk, mcst, mvar, asB, mlst, mtup, mcons, mnil, mfn, mfnL, evN, evAs, getAs, mite, band, bor, bnot, mand, mor, mnot, mcall, iseq, irange1, irange2, sset, ssetO, sret, sdrop, snil, sif, gset, mmut, isL1, ssub, spar, evOs, setSls, slOf, sasg, gtup, gcons, gnil, mslice, osome, onone, mopL, mlensetA, misinst, mmt, kindD, saug, byes, i]
structure ClOk (N : List Str) (c : Cl) : Prop where
  i : ClIn N c
  d : c.1 ≠ c.2.1 ∧ c.1 ≠ c.2.2 ∧ c.2.1 ≠ c.2.2
theorem gd_str {x : Str} (h : x ∈ univ) (n : Nat) : gd n (.str x) = true := by
  cases n <;> simpa [gd] using h
theorem gd_nsD {xs : List Str} (h : ∀ x ∈ xs, x ∈ univ) (hl : xs.length ≤ 1000) (n : Nat) : gd (n + 1) (nsD xs) = true := by
  simp only [nsD, gd, List.length_map, Bool.and_eq_true, decide_eq_true_eq, List.all_eq_true]
  refine ⟨hl, fun d hd => ?_⟩
  obtain ⟨x, hx, rfl⟩ := List.mem_map.mp hd
  exact gd_str (h x hx) n
theorem Nms.un {N : List Str} (h : Nms N) : ∀ x ∈ N, x ∈ univ := fun x hx => (n7_un x (h.ok x hx)).1
theorem clD_ns (c : Cl) : clD c = nsD [c.1, c.2.1, c.2.2] := rfl
theorem gd_clD {N : List Str} (hN : Nms N) {c : Cl} (h : ClIn N c) (n : Nat) : gd (n + 1) (clD c) = true := by
  rw [clD_ns]
  refine gd_nsD (fun x hx => ?_) (by simp) n
  simp at hx
  rcases hx with rfl | rfl | rfl
  · exact hN.un _ h.1
  · exact hN.un _ h.2.1
  · exact hN.un _ h.2.2
theorem clB_ok {N : List Str} (hN : Nms N) {c : Cl} (h : ClOk N c) : clB N (clD c) = true := by
  have s1 := (n7_un c.1 (hN.ok _ h.i.1)).2
  have s2 := (n7_un c.2.1 (hN.ok _ h.i.2.1)).2
  have s3 := (n7_un c.2.2 (hN.ok _ h.i.2.2)).2
  have nd : [c.1, c.2.1, c.2.2].Nodup := by simp [h.d.1, h.d.2.1, h.d.2.2]
  have nb : namesB (.tup [.str c.1, .str c.2.1, .str c.2.2]) = true := by
    have e := congrArg List.length (dedS_nodup nd)
    have e2 : strsD [.str c.1, .str c.2.1, .str c.2.2] = some [c.1, c.2.1, c.2.2] := rfl
    simp only [namesB, e2, e]
    simp [sigD, s1, s2, s3]
  simp only [clD, clB, nb]
  simp [h.i.1, h.i.2.1, h.i.2.2]
/-! ### meets -/
def metB (c : Cl) (F : List Str) : Bool := decide (c.1 ∈ F) && (decide (c.2.1 ∈ F) && !decide (c.2.2 ∈ F))
theorem meets_run {N : List Str} (hN : OkS N) {Fs : List (List Str)} (hF : ∀ F ∈ Fs, OkS F) (hl : Fs.length ≤ 1000) {c : Cl} (hc : ClIn N c) (t : Tp) : f_meets [fsD Fs, clD c] t = some (.bl (Fs.any (metB c)), t) := by
  have i0 : idxD (clD c) (.int 0) = some (.str c.1) := ix0 _ _
  have i1 : idxD (clD c) (.int 1) = some (.str c.2.1) := ix1 _ _ _
  have i2 : idxD (clD c) (.int 2) = some (.str c.2.2) := ix2 _ _ _ _
  have cc : c_meets_1 [.sh (fsD Fs), .sh (clD c), .no] t = some (.lst (Fs.map fun F => .bl (metB c F)), [.sh (fsD Fs), .sh (clD c), .no], t) := by
    unfold c_meets_1
    refine mlc_all (Z := tz) (e1 := [.sh (fsD Fs), .sh (clD c), .no]) (t1 := t) nsD (fun F => .bl (metB c F)) Fs ?_ rfl (by omega) fun F hF' => ⟨[.sh (fsD Fs), .sh (clD c), .sh (nsD F)], rfl, rfl, [.sh (fsD Fs), .sh (clD c), .sh (nsD F)], ?_, rfl⟩
    · generalize clD c = CC
      unfold fsD
      simp [mop, ev2, ev1, evA, getA, look, slotOk, mcst, mvar, asB, mlst, mtup, mcons, mnil, mfn, mfnL, evN, evAs, getAs, mite, band, bor, bnot, mand, mor, mnot, mcall, iseq, irange1, irange2, sset, ssetO, sret, sdrop, snil, sif, gset, mmut, isL1, ssub, spar, evOs, setSls, slOf, sasg, gtup, gcons, gnil, mslice, osome, onone, mopL, mlensetA, misinst, mmt, kindD, saug, byes]
    · have a1 := (in_strs (hN _ hc.1).1 (hF F hF')).1
      have a2 := (in_strs (hN _ hc.2.1).1 (hF F hF')).1
      have a3 := (in_strs (hN _ hc.2.2).1 (hF F hF')).2.1
      unfold ce_meets_1 metB
      generalize decide (c.1 ∈ F) = b1 at a1 ⊢
      generalize decide (c.2.1 ∈ F) = b2 at a2 ⊢
      generalize decide (c.2.2 ∈ F) = b3 at a3 ⊢
      generalize clD c = CC at i0 i1 i2 ⊢
      generalize fsD Fs = XX
      generalize nsD F = FF at a1 a2 a3 ⊢
      cases b1 <;> cases b2 <;> simp [mop, ev2, ev1, evA, getA, look, slotOk, mcst, mvar, asB, mlst, mtup, mcons, mnil, mfn, mfnL, evN, evAs, getAs, mite, band, bor, bnot, mand, mor, mnot, mcall, iseq, irange1, irange2, sset, ssetO, sret, sdrop, snil, sif, gset, mmut, isL1, ssub, spar, evOs, setSls, slOf, sasg, gtup, gcons, gnil, mslice, osome, onone, mopL, mlensetA, misinst, mmt, kindD, saug, byes, a1, a2, a3, i0, i1, i2]
  have a : any1 [.lst (Fs.map fun F => .bl (metB c F))] = some (.bl (Fs.any (metB c))) := by
    have := any1_bls (Fs.map (metB c))
    rw [List.map_map, List.any_map] at this
    exact this
  generalize (Fs.map fun F => D.bl (metB c F)) = W at cc a
  generalize Fs.any (metB c) = B at a ⊢
  generalize fsD Fs = FF at cc ⊢
  generalize clD c = CC at cc ⊢
  refine runFn_at (Z := tz) (e1 := [.sh FF, .sh CC, .no]) [.sh FF, .sh CC, .no] rfl (sret_ev (Z := tz) ?_)
  obtain ⟨C, hC⟩ : ∃ z, z = c_meets_1 := ⟨_, rfl⟩
  rw [← hC] at cc ⊢
  clear hC
  simp [mop, ev2, ev1, evA, getA, look, slotOk, mcst, mvar, asB, mlst, mtup, mcons, mnil, mfn, mfnL, evN, evAs, getAs, mite, band, bor, bnot, mand, mor, mnot, mcall, iseq, irange1, irange2, sset, ssetO, sret, sdrop, snil, sif, gset, mmut, isL1, ssub, spar, evOs, setSls, slOf, sasg, gtup, gcons, gnil, mslice, osome, onone, mopL, mlensetA, misinst, mmt, kindD, saug, byes, cc, a]
theorem law_meets_run {N : List Str} (hN : OkS N) {Fs : List (List Str)} (hF : ∀ F ∈ Fs, OkS F) (hl : Fs.length ≤ 1000) {c : Cl} (hc : ClIn N c) (t : Tp) : f__law_meets [fsD Fs, clD c] t = some (.bl (Fs.any (metB c)), t) := by
  have i0 : idxD (clD c) (.int 0) = some (.str c.1) := ix0 _ _
  have i1 : idxD (clD c) (.int 1) = some (.str c.2.1) := ix1 _ _ _
  have i2 : idxD (clD c) (.int 2) = some (.str c.2.2) := ix2 _ _ _ _
  have cc : c__law_meets_1 [.sh (fsD Fs), .sh (clD c), .no] t = some (.lst ((Fs.filter (metB c)).map nsD), [.sh (fsD Fs), .sh (clD c), .no], t) := by
    unfold c__law_meets_1
    refine mlc_map (Z := tz) (e1 := [.sh (fsD Fs), .sh (clD c), .no]) (t1 := t) nsD (metB c) nsD Fs ?_ rfl (by omega) fun F hF' => ⟨[.sh (fsD Fs), .sh (clD c), .sh (nsD F)], rfl, rfl, ?_, fun _ => ⟨[.sh (fsD Fs), .sh (clD c), .sh (nsD F)], ?_, rfl⟩⟩
    · generalize clD c = CC
      unfold fsD
      simp [mop, ev2, ev1, evA, getA, look, slotOk, mcst, mvar, asB, mlst, mtup, mcons, mnil, mfn, mfnL, evN, evAs, getAs, mite, band, bor, bnot, mand, mor, mnot, mcall, iseq, irange1, irange2, sset, ssetO, sret, sdrop, snil, sif, gset, mmut, isL1, ssub, spar, evOs, setSls, slOf, sasg, gtup, gcons, gnil, mslice, osome, onone, mopL, mlensetA, misinst, mmt, kindD, saug, byes]
    · have a1 := (in_strs (hN _ hc.1).1 (hF F hF')).1
      have a2 := (in_strs (hN _ hc.2.1).1 (hF F hF')).1
      have a3 := (in_strs (hN _ hc.2.2).1 (hF F hF')).2.1
      unfold ct__law_meets_1 metB
      generalize decide (c.1 ∈ F) = b1 at a1 ⊢
      generalize decide (c.2.1 ∈ F) = b2 at a2 ⊢
      generalize decide (c.2.2 ∈ F) = b3 at a3 ⊢
      generalize clD c = CC at i0 i1 i2 ⊢
      generalize fsD Fs = XX
      generalize nsD F = FF at a1 a2 a3 ⊢
      cases b1 <;> cases b2 <;> simp [mop, ev2, ev1, evA, getA, look, slotOk, mcst, mvar, asB, mlst, mtup, mcons, mnil, mfn, mfnL, evN, evAs, getAs, mite, band, bor, bnot, mand, mor, mnot, mcall, iseq, irange1, irange2, sset, ssetO, sret, sdrop, snil, sif, gset, mmut, isL1, ssub, spar, evOs, setSls, slOf, sasg, gtup, gcons, gnil, mslice, osome, onone, mopL, mlensetA, misinst, mmt, kindD, saug, byes, a1, a2, a3, i0, i1, i2]
    · generalize clD c = CC
      generalize fsD Fs = XX
      generalize nsD F = FF
      unfold ce__law_meets_1
      simp [mop, ev2, ev1, evA, getA, look, slotOk, mcst, mvar, asB, mlst, mtup, mcons, mnil, mfn, mfnL, evN, evAs, getAs, mite, band, bor, bnot, mand, mor, mnot, mcall, iseq, irange1, irange2, sset, ssetO, sret, sdrop, snil, sif, gset, mmut, isL1, ssub, spar, evOs, setSls, slOf, sasg, gtup, gcons, gnil, mslice, osome, onone, mopL, mlensetA, misinst, mmt, kindD, saug, byes]
  have l : len1 [.lst ((Fs.filter (metB c)).map nsD)] = some (nD (Fs.filter (metB c)).length) := by simp [len1]
  have g : gtD (nD (Fs.filter (metB c)).length) (.int 0) = some (.bl (Fs.any (metB c))) := by
    have h := List.countP_eq_length_filter (p := metB c) (l := Fs)
    have e : decide (0 < (Fs.filter (metB c)).length) = Fs.any (metB c) := by
      cases q : Fs.any (metB c) with
      | false =>
        have : Fs.filter (metB c) = [] := List.filter_eq_nil_iff.mpr fun F hF => by
          have := List.any_eq_false.mp q F hF
          simpa using this
        rw [this]; rfl
      | true =>
        obtain ⟨F, h1, h2⟩ := List.any_eq_true.mp q
        exact decide_eq_true (List.length_pos_of_mem (a := F) (List.mem_filter.mpr ⟨h1, h2⟩))
    rw [gt0, e]
  generalize (Fs.filter (metB c)).map nsD = W at cc l
  generalize (Fs.filter (metB c)).length = k at l g
  generalize Fs.any (metB c) = B at g ⊢
  generalize fsD Fs = FF at cc ⊢
  generalize clD c = CC at cc ⊢
  refine runFn_at (Z := tz) (e1 := [.sh FF, .sh CC, .no]) [.sh FF, .sh CC, .no] rfl (sret_ev (Z := tz) ?_)
  obtain ⟨C, hC⟩ : ∃ z, z = c__law_meets_1 := ⟨_, rfl⟩
  rw [← hC] at cc ⊢
  clear hC
  simp [mop, ev2, ev1, evA, getA, look, slotOk, mcst, mvar, asB, mlst, mtup, mcons, mnil, mfn, mfnL, evN, evAs, getAs, mite, band, bor, bnot, mand, mor, mnot, mcall, iseq, irange1, irange2, sset, ssetO, sret, sdrop, snil, sif, gset, mmut, isL1, ssub, spar, evOs, setSls, slOf, sasg, gtup, gcons, gnil, mslice, osome, onone, mopL, mlensetA, misinst, mmt, kindD, saug, byes, cc, l, g]
/-! ### families -/
def crossB (F G : List Str) : Bool := decide (0 < (F.filter (· ∈ G)).length) && (decide ((F.filter (· ∈ G)).length < F.length) && decide ((F.filter (· ∈ G)).length < G.length))
theorem ltn (a b : Nat) : ltD (nD a) (nD b) = some (.bl (decide (a < b))) := by simp [ltD, cmpD]
theorem cross_run {F G : List Str} (hF : OkS F) (hG : OkS G) (hl : F.length ≤ 1000) (t : Tp) : f_cross [nsD F, nsD G] t = some (.bl (crossB F G), t) := by
  have c : c_cross_1 [.sh (nsD F), .sh (nsD G), .no, .no] t = some (lsD (F.filter (· ∈ G)), [.sh (nsD F), .sh (nsD G), .no, .no], t) := by
    unfold c_cross_1 lsD
    refine mlc_map (Z := tz) (e1 := [.sh (nsD F), .sh (nsD G), .no, .no]) (t1 := t) D.str (fun y => decide (y ∈ G)) D.str F ?_ rfl (by omega) fun y hy => ⟨[.sh (nsD F), .sh (nsD G), .no, .sh (.str y)], rfl, rfl, ?_, fun _ => ⟨[.sh (nsD F), .sh (nsD G), .no, .sh (.str y)], ?_, rfl⟩⟩
    · generalize nsD G = GG
      unfold nsD
      simp [mop, ev2, ev1, evA, getA, look, slotOk, mcst, mvar, asB, mlst, mtup, mcons, mnil, mfn, mfnL, evN, evAs, getAs, mite, band, bor, bnot, mand, mor, mnot, mcall, iseq, irange1, irange2, sset, ssetO, sret, sdrop, snil, sif, gset, mmut, isL1, ssub, spar, evOs, setSls, slOf, sasg, gtup, gcons, gnil, mslice, osome, onone, mopL, mlensetA, misinst, mmt, kindD, saug, byes]
    · have i := (in_strs (hF _ hy).1 hG).1
      generalize nsD F = FF
      generalize nsD G = GG at i ⊢
      unfold ct_cross_1
      generalize decide (y ∈ G) = b at i ⊢
      simp [mop, ev2, ev1, evA, getA, look, slotOk, mcst, mvar, asB, mlst, mtup, mcons, mnil, mfn, mfnL, evN, evAs, getAs, mite, band, bor, bnot, mand, mor, mnot, mcall, iseq, irange1, irange2, sset, ssetO, sret, sdrop, snil, sif, gset, mmut, isL1, ssub, spar, evOs, setSls, slOf, sasg, gtup, gcons, gnil, mslice, osome, onone, mopL, mlensetA, misinst, mmt, kindD, saug, byes, i]
    · unfold ce_cross_1
      generalize nsD F = FF
      generalize nsD G = GG
      simp [mop, ev2, ev1, evA, getA, look, slotOk, mcst, mvar, asB, mlst, mtup, mcons, mnil, mfn, mfnL, evN, evAs, getAs, mite, band, bor, bnot, mand, mor, mnot, mcall, iseq, irange1, irange2, sset, ssetO, sret, sdrop, snil, sif, gset, mmut, isL1, ssub, spar, evOs, setSls, slOf, sasg, gtup, gcons, gnil, mslice, osome, onone, mopL, mlensetA, misinst, mmt, kindD, saug, byes]
  have l1 : len1 [lsD (F.filter (· ∈ G))] = some (nD (F.filter (· ∈ G)).length) := by simp [lsD, len1]
  have l2 : len1 [nsD F] = some (nD F.length) := by simp [nsD, len1]
  have l3 : len1 [nsD G] = some (nD G.length) := by simp [nsD, len1]
  have g1 := gt0 (F.filter (· ∈ G)).length
  have g2 := ltn (F.filter (· ∈ G)).length F.length
  have g3 := ltn (F.filter (· ∈ G)).length G.length
  unfold crossB
  generalize lsD (F.filter (· ∈ G)) = W at c l1
  generalize decide (0 < (F.filter (· ∈ G)).length) = b1 at g1 ⊢
  generalize decide ((F.filter (· ∈ G)).length < F.length) = b2 at g2 ⊢
  generalize decide ((F.filter (· ∈ G)).length < G.length) = b3 at g3 ⊢
  generalize nD (F.filter (· ∈ G)).length = k at l1 g1 g2 g3
  generalize nD F.length = k2 at l2 g2
  generalize nD G.length = k3 at l3 g3
  generalize nsD F = FF at c l2 ⊢
  generalize nsD G = GG at c l3 ⊢
  refine runFn_at (Z := tz) (e1 := [.sh FF, .sh GG, .sh W, .no]) [.sh FF, .sh GG, .no, .no] rfl (scons_nx (Z := tz) (sset_ev (Z := tz) c) ?_)
  cases b1 <;> cases b2 <;> simp [mop, ev2, ev1, evA, getA, look, slotOk, mcst, mvar, asB, mlst, mtup, mcons, mnil, mfn, mfnL, evN, evAs, getAs, mite, band, bor, bnot, mand, mor, mnot, mcall, iseq, irange1, irange2, sset, ssetO, sret, sdrop, snil, sif, gset, mmut, isL1, ssub, spar, evOs, setSls, slOf, sasg, gtup, gcons, gnil, mslice, osome, onone, mopL, mlensetA, misinst, mmt, kindD, saug, byes, l1, l2, l3, g1, g2, g3]
end K29

namespace K29
open PySem L2 DL

def FamsP (N : List Str) (v : D) : Prop := ∃ Fs, v = fsD Fs ∧ (∀ F ∈ Fs, Lot N F) ∧ ∀ F ∈ Fs, ∀ G ∈ Fs, crossB F G = false
theorem lots_of {N : List Str} : ∀ {ds : List D}, ds.all (lotB N) = true → ∃ Fs : List (List Str), ds = Fs.map nsD ∧ ∀ F ∈ Fs, Lot N F
  | [], _ => ⟨[], rfl, by simp⟩
  | d :: ds, h => by
    simp only [List.all_cons, Bool.and_eq_true] at h
    obtain ⟨F, rfl, hF⟩ := lotB_iff.mp h.1
    obtain ⟨Fs, rfl, hFs⟩ := lots_of h.2
    exact ⟨F :: Fs, rfl, fun G hG => by rcases List.mem_cons.mp hG with rfl | hG; exact hF; exact hFs G hG⟩
theorem lots_all {N : List Str} {Fs : List (List Str)} (h : ∀ F ∈ Fs, Lot N F) : (Fs.map nsD).all (lotB N) = true := by
  rw [List.all_eq_true]
  intro d hd
  obtain ⟨F, hF, rfl⟩ := List.mem_map.mp hd
  exact lotB_iff.mpr ⟨F, rfl, h F hF⟩
theorem nsDs_inj : ∀ {a b : List (List Str)}, a.map nsD = b.map nsD → a = b
  | [], [], _ => rfl
  | [], _ :: _, h => by simp at h
  | _ :: _, [], h => by simp at h
  | a :: as, b :: bs, h => by
    simp only [List.map_cons, List.cons.injEq, nsD_inj] at h
    rw [h.1, nsDs_inj h.2]
theorem fsD_inj {a b : List (List Str)} (h : fsD a = fsD b) : a = b := by
  unfold fsD at h
  rw [D.tup.injEq] at h
  exact nsDs_inj h
theorem Lot.okS {N F : List Str} (hN : Nms N) (h : Lot N F) : OkS F := hN.okS.sub h.sub
theorem fams_run {N : List Str} (hN : Nms N) {v : D} (h : Gd v) : ∃ b, (b = true ↔ FamsP N v) ∧ ∀ t, f_are_families [v, nsD N] t = some (.bl b, t) := by
  by_cases ht : ∃ ds, v = .tup ds
  · obtain ⟨ds, rfl⟩ := ht
    have i : isinstD "tuple" (.tup ds) = some true := rfl
    have hl := h.tup.1
    have c2 : ∀ t, c_are_families_2 [.sh (.tup ds), .sh (nsD N), .no, .no, .no] t = some (.lst (ds.map fun d => .bl (lotB N d)), [.sh (.tup ds), .sh (nsD N), .no, .no, .no], t) := by
      intro t
      unfold c_are_families_2
      refine mlc_all (Z := tz) (e1 := [.sh (.tup ds), .sh (nsD N), .no, .no, .no]) (t1 := t) id (fun d => .bl (lotB N d)) ds ?_ rfl (by omega) fun d hd => ⟨[.sh (.tup ds), .sh (nsD N), .sh d, .no, .no], rfl, rfl, [.sh (.tup ds), .sh (nsD N), .sh d, .no, .no], ?_, rfl⟩
      · generalize nsD N = NN
        simp [mop, ev2, ev1, evA, getA, look, slotOk, mcst, mvar, asB, mlst, mtup, mcons, mnil, mfn, mfnL, evN, evAs, getAs, mite, band, bor, bnot, mand, mor, mnot, mcall, iseq, irange1, irange2, sset, ssetO, sret, sdrop, snil, sif, gset, mmut, isL1, ssub, spar, evOs, setSls, slOf, sasg, gtup, gcons, gnil, mslice, osome, onone, mopL, mlensetA, misinst, mmt, kindD, saug, byes]
      · have n := is_lot_run hN (h.tup.2 d hd) t
        generalize nsD N = NN at n ⊢
        unfold ce_are_families_2
        obtain ⟨F, hF⟩ : ∃ z, z = f_is_lot := ⟨_, rfl⟩
        rw [← hF] at n ⊢
        clear hF
        simp [mop, ev2, ev1, evA, getA, look, slotOk, mcst, mvar, asB, mlst, mtup, mcons, mnil, mfn, mfnL, evN, evAs, getAs, mite, band, bor, bnot, mand, mor, mnot, mcall, iseq, irange1, irange2, sset, ssetO, sret, sdrop, snil, sif, gset, mmut, isL1, ssub, spar, evOs, setSls, slOf, sasg, gtup, gcons, gnil, mslice, osome, onone, mopL, mlensetA, misinst, mmt, kindD, saug, byes, n]
    have a : all1 [.lst (ds.map fun d => .bl (lotB N d))] = some (.bl (ds.all (lotB N))) := by
      have := all1_bls (ds.map (lotB N))
      rw [List.map_map, List.all_map] at this
      exact this
    by_cases q : ds.all (lotB N) = true
    · obtain ⟨Fs, rfl, hF⟩ := lots_of q
      rw [List.length_map] at hl
      refine ⟨!((Fs.flatMap fun F => Fs.map (crossB F)).any id), ?_, fun t => ?_⟩
      · rw [Bool.not_eq_true', List.any_eq_false]
        constructor
        · intro hc
          refine ⟨Fs, rfl, hF, fun F hF G hG => ?_⟩
          have := hc (crossB F G) (List.mem_flatMap.mpr ⟨F, hF, List.mem_map.mpr ⟨G, hG, rfl⟩⟩)
          simpa using this
        · rintro ⟨Fs', e, _, hc⟩ b hb
          have := fsD_inj (a := Fs) (b := Fs') e
          subst this
          obtain ⟨F, hF, hb⟩ := List.mem_flatMap.mp hb
          obtain ⟨G, hG, rfl⟩ := List.mem_map.mp hb
          simp [hc F hF G hG]
      · have c1 : c_are_families_1 [.sh (fsD Fs), .sh (nsD N), .no, .no, .no] t = some (.lst (Fs.flatMap fun F => Fs.map fun G => .bl (crossB F G)), [.sh (fsD Fs), .sh (nsD N), .no, .no, .no], t) := by
          unfold c_are_families_1
          refine mlc2_map (Z := tz) (e0 := [.sh (fsD Fs), .sh (nsD N), .no, .no, .no]) (t0 := t) nsD nsD (fun _ => Fs) (fun F G => .bl (crossB F G)) Fs ?_ rfl ?_ fun F hF' => ⟨[.sh (fsD Fs), .sh (nsD N), .no, .sh (nsD F), .no], [.sh (fsD Fs), .sh (nsD N), .no, .sh (nsD F), .no], rfl, ?_, rfl, fun G hG => ⟨[.sh (fsD Fs), .sh (nsD N), .no, .sh (nsD F), .sh (nsD G)], rfl, rfl, [.sh (fsD Fs), .sh (nsD N), .no, .sh (nsD F), .sh (nsD G)], ?_, rfl⟩⟩
          · generalize nsD N = NN
            unfold fsD
            simp [mop, ev2, ev1, evA, getA, look, slotOk, mcst, mvar, asB, mlst, mtup, mcons, mnil, mfn, mfnL, evN, evAs, getAs, mite, band, bor, bnot, mand, mor, mnot, mcall, iseq, irange1, irange2, sset, ssetO, sret, sdrop, snil, sif, gset, mmut, isL1, ssub, spar, evOs, setSls, slOf, sasg, gtup, gcons, gnil, mslice, osome, onone, mopL, mlensetA, misinst, mmt, kindD, saug, byes]
          · have : ∀ (l : List (List Str)), (l.flatMap fun _ => Fs).length = l.length * Fs.length := by
              intro l
              induction l with
              | nil => simp
              | cons a l ih => simp [ih, Nat.add_mul, Nat.add_comm]
            rw [this]
            exact Nat.le_trans (Nat.mul_le_mul hl hl) (by decide)
          · generalize nsD N = NN
            generalize nsD F = FF
            unfold cs_are_families_1 fsD
            simp [mop, ev2, ev1, evA, getA, look, slotOk, mcst, mvar, asB, mlst, mtup, mcons, mnil, mfn, mfnL, evN, evAs, getAs, mite, band, bor, bnot, mand, mor, mnot, mcall, iseq, irange1, irange2, sset, ssetO, sret, sdrop, snil, sif, gset, mmut, isL1, ssub, spar, evOs, setSls, slOf, sasg, gtup, gcons, gnil, mslice, osome, onone, mopL, mlensetA, misinst, mmt, kindD, saug, byes]
          · have n := cross_run ((hF F hF').okS hN) ((hF G hG).okS hN) (by have := (hF F hF').len; have := hN.len; omega) t
            generalize nsD N = NN
            generalize nsD F = FF at n ⊢
            generalize nsD G = GG at n ⊢
            generalize fsD Fs = XX
            unfold ce_are_families_1
            obtain ⟨F0, hF0⟩ : ∃ z, z = f_cross := ⟨_, rfl⟩
            rw [← hF0] at n ⊢
            clear hF0
            simp [mop, ev2, ev1, evA, getA, look, slotOk, mcst, mvar, asB, mlst, mtup, mcons, mnil, mfn, mfnL, evN, evAs, getAs, mite, band, bor, bnot, mand, mor, mnot, mcall, iseq, irange1, irange2, sset, ssetO, sret, sdrop, snil, sif, gset, mmut, isL1, ssub, spar, evOs, setSls, slOf, sasg, gtup, gcons, gnil, mslice, osome, onone, mopL, mlensetA, misinst, mmt, kindD, saug, byes, n]
        have an : any1 [.lst (Fs.flatMap fun F => Fs.map fun G => .bl (crossB F G))] = some (.bl ((Fs.flatMap fun F => Fs.map (crossB F)).any id)) := by
          have := any1_bls (Fs.flatMap fun F => Fs.map (crossB F))
          rw [List.map_flatMap] at this
          simp only [List.map_map] at this
          exact this
        have c2 := c2 t
        rw [show D.tup (Fs.map nsD) = fsD Fs from rfl] at c2 i ⊢
        rw [q] at a
        generalize ((Fs.map nsD).map fun d => D.bl (lotB N d)) = W at c2 a
        generalize (Fs.flatMap fun F => Fs.map fun G => D.bl (crossB F G)) = W2 at c1 an
        generalize (Fs.flatMap fun F => Fs.map (crossB F)).any id = B at an ⊢
        generalize nsD N = NN at c1 c2 ⊢
        generalize fsD Fs = T at i c1 c2 ⊢
        refine runFn_at (Z := tz) (e1 := [.sh T, .sh NN, .no, .no, .no]) [.sh T, .sh NN, .no, .no, .no] rfl (scons_nx (Z := tz) (e1 := [.sh T, .sh NN, .no, .no, .no]) (t1 := t) ?_ (sret_ev (Z := tz) ?_))
        · obtain ⟨C, hC⟩ : ∃ z, z = c_are_families_2 := ⟨_, rfl⟩
          rw [← hC] at c2 ⊢
          clear hC
          simp [mop, ev2, ev1, evA, getA, look, slotOk, mcst, mvar, asB, mlst, mtup, mcons, mnil, mfn, mfnL, evN, evAs, getAs, mite, band, bor, bnot, mand, mor, mnot, mcall, iseq, irange1, irange2, sset, ssetO, sret, sdrop, snil, sif, gset, mmut, isL1, ssub, spar, evOs, setSls, slOf, sasg, gtup, gcons, gnil, mslice, osome, onone, mopL, mlensetA, misinst, mmt, kindD, saug, byes, i, c2, a]
        · obtain ⟨C, hC⟩ : ∃ z, z = c_are_families_1 := ⟨_, rfl⟩
          rw [← hC] at c1 ⊢
          clear hC
          simp [mop, ev2, ev1, evA, getA, look, slotOk, mcst, mvar, asB, mlst, mtup, mcons, mnil, mfn, mfnL, evN, evAs, getAs, mite, band, bor, bnot, mand, mor, mnot, mcall, iseq, irange1, irange2, sset, ssetO, sret, sdrop, snil, sif, gset, mmut, isL1, ssub, spar, evOs, setSls, slOf, sasg, gtup, gcons, gnil, mslice, osome, onone, mopL, mlensetA, misinst, mmt, kindD, saug, byes, c1, an]
    · have q' : ds.all (lotB N) = false := by simpa using q
      refine ⟨false, ⟨fun z => (by cases z), fun ⟨Fs, e, hF, _⟩ => ?_⟩, fun t => ?_⟩
      · unfold fsD at e
        rw [D.tup.injEq] at e
        rw [e] at q
        exact absurd (lots_all hF) q
      · have c2 := c2 t
        rw [q'] at a
        generalize (ds.map fun d => D.bl (lotB N d)) = W at c2 a
        generalize nsD N = NN at c2 ⊢
        generalize D.tup ds = T at i c2 ⊢
        refine runFn_at (Z := tz) (e1 := [.sh T, .sh NN, .no, .no, .no]) [.sh T, .sh NN, .no, .no, .no] rfl (scons_rt (Z := tz) (e1 := [.sh T, .sh NN, .no, .no, .no]) (t1 := t) ?_)
        obtain ⟨C, hC⟩ : ∃ z, z = c_are_families_2 := ⟨_, rfl⟩
        rw [← hC] at c2 ⊢
        clear hC
        simp [mop, ev2, ev1, evA, getA, look, slotOk, mcst, mvar, asB, mlst, mtup, mcons, mnil, mfn, mfnL, evN, evAs, getAs, mite, band, bor, bnot, mand, mor, mnot, mcall, iseq, irange1, irange2, sset, ssetO, sret, sdrop, snil, sif, gset, mmut, isL1, ssub, spar, evOs, setSls, slOf, sasg, gtup, gcons, gnil, mslice, osome, onone, mopL, mlensetA, misinst, mmt, kindD, saug, byes, i, c2, a]
  · have i : isinstD "tuple" v = some false := isT_no h.noTape fun ds e => ht ⟨ds, e⟩
    refine ⟨false, ⟨fun z => (by cases z), fun ⟨Fs, e, _⟩ => absurd ⟨_, e⟩ ht⟩, fun t => ?_⟩
    generalize nsD N = NN
    refine runFn_at (Z := tz) (e1 := [.sh v, .sh NN, .no, .no, .no]) [.sh v, .sh NN, .no, .no, .no] rfl (scons_rt (Z := tz) (e1 := [.sh v, .sh NN, .no, .no, .no]) (t1 := t) ?_)
    simp [mop, ev2, ev1, evA, getA, look, slotOk, mcst, mvar, asB, mlst, mtup, mcons, mnil, mfn, mfnL, evN, evAs, getAs, mite, band, bor, bnot, mand, mor, mnot, mcall, iseq, irange1, irange2, sset, ssetO, sret, sdrop, snil, sif, gset, mmut, isL1, ssub, spar, evOs, setSls, slOf, sasg, gtup, gcons, gnil, mslice, osome, onone, mopL, mlensetA, misinst, mmt, kindD, saug, byes, i]
theorem sfor_of {src : ML tz} {g : G} {b : SM tz} {e e1 : List Sl} {t t1 : Tp} {ds : List D} {fl : Fl} {e2 : List Sl} {t2 : Tp} (h : src e t = some (ds, e1, t1)) (k : forL g b ds e1 t1 = some (fl, e2, t2)) : sfor src g b e t = some (fl, e2, t2) := by simp only [sfor, h, k]
theorem scons_go {a b : SM tz} {e : List Sl} {t : Tp} {fl : Fl} {e1 : List Sl} {t1 : Tp} {r : D} (h : a e t = some (fl, e1, t1)) (hf : fl = .rt r) : scons a b e t = some (.rt r, e1, t1) := by
  subst hf; simp only [scons, h]
theorem law_fams_run {N : List Str} (hN : Nms N) {v : D} (h : Gd v) : ∃ b, (b = true ↔ FamsP N v) ∧ ∀ t, f__law_are_families [v, nsD N] t = some (.bl b, t) := by
  by_cases ht : ∃ ds, v = .tup ds
  · obtain ⟨ds, rfl⟩ := ht
    have i : isinstD "tuple" (.tup ds) = some true := rfl
    have hl := h.tup.1
    have s0 : ∀ t : Tp, sif (Z := tz) (bnot (asB (misinst "tuple" (.v 0)))) (sret (mcst (.bl false))) snil [.sh (.tup ds), .sh (nsD N), .no, .no, .no, .no, .no] t = some (.nx, [.sh (.tup ds), .sh (nsD N), .no, .no, .no, .no, .no], t) := by
      intro t
      generalize nsD N = NN
      generalize D.tup ds = T at i ⊢
      simp [mop, ev2, ev1, evA, getA, look, slotOk, mcst, mvar, asB, mlst, mtup, mcons, mnil, mfn, mfnL, evN, evAs, getAs, mite, band, bor, bnot, mand, mor, mnot, mcall, iseq, irange1, irange2, sset, ssetO, sret, sdrop, snil, sif, gset, mmut, isL1, ssub, spar, evOs, setSls, slOf, sasg, gtup, gcons, gnil, mslice, osome, onone, mopL, mlensetA, misinst, mmt, kindD, saug, byes, i]
    have lo : ∀ t : Tp, ∃ (fl : Fl) (e2 : List Sl), l__law_are_families_3 [.sh (.tup ds), .sh (nsD N), .no, .no, .no, .no, .no] t = some (fl, e2, t) ∧ ((fl = .nx ∧ ds.all (lotB N) = true ∧ ∃ s2, e2 = [.sh (.tup ds), .sh (nsD N), s2, .no, .no, .no, .no]) ∨ (fl = .rt (.bl false) ∧ ds.all (lotB N) = false)) := by
      intro t
      have bd : ∀ d ∈ ds, ∀ s2 : Sl, lb__law_are_families_3 [.sh (.tup ds), .sh (nsD N), .sh d, .no, .no, .no, .no] t = some ((if lotB N d then Fl.nx else Fl.rt (D.bl false)), [.sh (.tup ds), .sh (nsD N), .sh d, .no, .no, .no, .no], t) := by
        intro d hd s2
        have gd := h.tup.2 d hd
        by_cases td : ∃ es, d = .tup es
        · obtain ⟨es, rfl⟩ := td
          have id' : isinstD "tuple" (.tup es) = some true := rfl
          have c : c__law_are_families_2 [.sh (.tup ds), .sh (nsD N), .sh (.tup es), .no, .no, .no, .no] t = some (.lst ((N.filter fun x => memD (.str x) es).map .str), [.sh (.tup ds), .sh (nsD N), .sh (.tup es), .no, .no, .no, .no], t) := by
            generalize D.tup ds = T
            unfold c__law_are_families_2
            refine mlc_map (Z := tz) (e1 := [.sh T, .sh (nsD N), .sh (.tup es), .no, .no, .no, .no]) (t1 := t) D.str (fun x => memD (.str x) es) D.str N ?_ rfl (by have := hN.len; omega) fun x hx => ⟨[.sh T, .sh (nsD N), .sh (.tup es), .no, .no, .no, .sh (.str x)], rfl, rfl, ?_, fun _ => ⟨[.sh T, .sh (nsD N), .sh (.tup es), .no, .no, .no, .sh (.str x)], ?_, rfl⟩⟩
            · unfold nsD
              simp [mop, ev2, ev1, evA, getA, look, slotOk, mcst, mvar, asB, mlst, mtup, mcons, mnil, mfn, mfnL, evN, evAs, getAs, mite, band, bor, bnot, mand, mor, mnot, mcall, iseq, irange1, irange2, sset, ssetO, sret, sdrop, snil, sif, gset, mmut, isL1, ssub, spar, evOs, setSls, slOf, sasg, gtup, gcons, gnil, mslice, osome, onone, mopL, mlensetA, misinst, mmt, kindD, saug, byes]
            · have b := (in_any (hN.okS x hx).1 gd.all).1
              generalize nsD N = NN at ⊢
              generalize D.tup es = E at b ⊢
              unfold ct__law_are_families_2
              simp [mop, ev2, ev1, evA, getA, look, slotOk, mcst, mvar, asB, mlst, mtup, mcons, mnil, mfn, mfnL, evN, evAs, getAs, mite, band, bor, bnot, mand, mor, mnot, mcall, iseq, irange1, irange2, sset, ssetO, sret, sdrop, snil, sif, gset, mmut, isL1, ssub, spar, evOs, setSls, slOf, sasg, gtup, gcons, gnil, mslice, osome, onone, mopL, mlensetA, misinst, mmt, kindD, saug, byes, b]
            · unfold ce__law_are_families_2
              simp [mop, ev2, ev1, evA, getA, look, slotOk, mcst, mvar, asB, mlst, mtup, mcons, mnil, mfn, mfnL, evN, evAs, getAs, mite, band, bor, bnot, mand, mor, mnot, mcall, iseq, irange1, irange2, sset, ssetO, sret, sdrop, snil, sif, gset, mmut, isL1, ssub, spar, evOs, setSls, slOf, sasg, gtup, gcons, gnil, mslice, osome, onone, mopL, mlensetA, misinst, mmt, kindD, saug, byes]
          have e := eq_lot hN gd
          have ne : neD (.tup es) (nsD (N.filter fun x => memD (.str x) es)) = some (.bl (!eqvL es ((N.filter fun x => memD (.str x) es).map .str))) := by
            have a := gd.okD
            have b : okD 30 (nsD (N.filter fun x => memD (.str x) es)) = true := (hN.okS.sub fun x hx => (List.mem_filter.mp hx).1).nsD
            simp only [neD, a, b, Bool.and_self, Bool.or_true, if_true]
            unfold nsD
            simp only [eqvD]
          have l1 : len1 [.tup es] = some (nD es.length) := rfl
          have k1 : eqD (nD es.length) (.int 0) = some (.bl es.isEmpty) := by
            cases es with
            | nil => rfl
            | cons a r => simp [eqD, scalD, eqvD]; omega
          have tu : tuple1 [.lst ((N.filter fun x => memD (.str x) es).map .str)] = some (nsD (N.filter fun x => memD (.str x) es)) := rfl
          have lbe : lotB N (.tup es) = (!es.isEmpty && eqvL es ((N.filter fun x => memD (.str x) es).map .str)) := rfl
          rw [lbe]
          generalize nsD (N.filter fun x => memD (.str x) es) = W at tu ne
          generalize D.lst ((N.filter fun x => memD (.str x) es).map .str) = W2 at c tu
          generalize eqvL es _ = B at ne ⊢
          generalize nsD N = NN at c ⊢
          generalize es.isEmpty = E at k1 ⊢
          generalize es.length = n at l1 k1
          generalize D.tup es = T at id' c l1 ne ⊢
          generalize D.tup ds = T2 at c ⊢
          unfold lb__law_are_families_3
          obtain ⟨C, hC⟩ : ∃ z, z = c__law_are_families_2 := ⟨_, rfl⟩
          rw [← hC] at c ⊢
          clear hC
          cases E <;> cases B <;> simp [mop, ev2, ev1, evA, getA, look, slotOk, mcst, mvar, asB, mlst, mtup, mcons, mnil, mfn, mfnL, evN, evAs, getAs, mite, band, bor, bnot, mand, mor, mnot, mcall, iseq, irange1, irange2, sset, ssetO, sret, sdrop, snil, sif, gset, mmut, isL1, ssub, spar, evOs, setSls, slOf, sasg, gtup, gcons, gnil, mslice, osome, onone, mopL, mlensetA, misinst, mmt, kindD, saug, byes, id', l1, k1, c, tu, ne]
        · have id' : isinstD "tuple" d = some false := isT_no gd.noTape fun es e => td ⟨es, e⟩
          have nb : lotB N d = false := by
            cases d <;> first | rfl | exact absurd ⟨_, rfl⟩ td
          rw [nb]
          generalize nsD N = NN
          generalize D.tup ds = T2
          unfold lb__law_are_families_3
          simp [mop, ev2, ev1, evA, getA, look, slotOk, mcst, mvar, asB, mlst, mtup, mcons, mnil, mfn, mfnL, evN, evAs, getAs, mite, band, bor, bnot, mand, mor, mnot, mcall, iseq, irange1, irange2, sset, ssetO, sret, sdrop, snil, sif, gset, mmut, isL1, ssub, spar, evOs, setSls, slOf, sasg, gtup, gcons, gnil, mslice, osome, onone, mopL, mlensetA, misinst, mmt, kindD, saug, byes, id']
      obtain ⟨fl, e', t', l1, hh⟩ := forL_any (Z := tz) (g := gset 2) (b := lb__law_are_families_3) (ds := ds) (e := [.sh (.tup ds), .sh (nsD N), .no, .no, .no, .no, .no]) (t := t)
        (fun i e t1 => t1 = t ∧ (∃ s2, e = [.sh (.tup ds), .sh (nsD N), s2, .no, .no, .no, .no]) ∧ (ds.take i).all (lotB N) = true)
        (fun r t1 => r = .bl false ∧ t1 = t ∧ ds.all (lotB N) = false) ⟨rfl, ⟨.no, rfl⟩, by simp⟩ fun i d e t1 hd hi => by
          obtain ⟨rfl, ⟨s2, rfl⟩, ha⟩ := hi
          have hm := List.mem_of_getElem? hd
          refine ⟨_, rfl, _, _, _, bd d hm s2, ?_⟩
          by_cases q : lotB N d = true
          · rw [if_pos q]
            exact .inl ⟨.inl rfl, rfl, ⟨_, rfl⟩, by rw [take_one hd]; simp [ha, q]⟩
          · rw [if_neg q]
            exact .inr ⟨_, rfl, rfl, rfl, by
              cases z : ds.all (lotB N) with
              | false => rfl
              | true => exact absurd (List.all_eq_true.mp z d hm) q⟩
      have src : iseq (Z := tz) (mvar 0) [.sh (.tup ds), .sh (nsD N), .no, .no, .no, .no, .no] t = some (ds, [.sh (.tup ds), .sh (nsD N), .no, .no, .no, .no, .no], t) := by
        generalize nsD N = NN
        simp [mop, ev2, ev1, evA, getA, look, slotOk, mcst, mvar, asB, mlst, mtup, mcons, mnil, mfn, mfnL, evN, evAs, getAs, mite, band, bor, bnot, mand, mor, mnot, mcall, iseq, irange1, irange2, sset, ssetO, sret, sdrop, snil, sif, gset, mmut, isL1, ssub, spar, evOs, setSls, slOf, sasg, gtup, gcons, gnil, mslice, osome, onone, mopL, mlensetA, misinst, mmt, kindD, saug, byes]
      have l3 : l__law_are_families_3 [.sh (.tup ds), .sh (nsD N), .no, .no, .no, .no, .no] t = some (fl, e', t') := sfor_of src l1
      rcases hh with ⟨rfl, rfl, hs2, ha⟩ | ⟨r, rfl, rfl, rfl, ha⟩
      · exact ⟨.nx, e', l3, .inl ⟨rfl, by simpa using ha, hs2⟩⟩
      · exact ⟨_, e', l3, .inr ⟨rfl, ha⟩⟩
    by_cases q : ds.all (lotB N) = true
    · obtain ⟨Fs, rfl, hF⟩ := lots_of q
      rw [List.length_map] at hl
      have lb : ∀ (t : Tp), ∀ F ∈ Fs, ∀ G ∈ Fs, ∀ s2 s5 : Sl, (s5 = .no ∨ ∃ d, s5 = .sh d) → ∃ r5, (r5 = .no ∨ ∃ d, r5 = .sh d) ∧ lb__law_are_families_1 [.sh (fsD Fs), .sh (nsD N), s2, .sh (nsD F), .sh (nsD G), s5, .no] t = some ((if crossB F G then Fl.rt (D.bl false) else Fl.nx), [.sh (fsD Fs), .sh (nsD N), s2, .sh (nsD F), .sh (nsD G), r5, .no], t) := by
        intro t F hF' G hG' s2 s5 h5
        have oF := (hF F hF').okS hN
        have oG := (hF G hG').okS hN
        have c : c__law_are_families_1 [.sh (fsD Fs), .sh (nsD N), s2, .sh (nsD F), .sh (nsD G), s5, .no] t = some (lsD (F.filter (· ∈ G)), [.sh (fsD Fs), .sh (nsD N), s2, .sh (nsD F), .sh (nsD G), s5, .no], t) := by
          unfold c__law_are_families_1
          rw [show lsD (F.filter (· ∈ G)) = .lst ((F.filter (· ∈ G)).map .str) from rfl]
          generalize fsD Fs = X
          generalize nsD N = NN
          refine mlc_map (Z := tz) (e1 := [.sh X, .sh NN, s2, .sh (nsD F), .sh (nsD G), s5, .no]) (t1 := t) D.str (fun y => decide (y ∈ G)) D.str F ?_ rfl (by have := (hF F hF').len; have := hN.len; omega) fun y hy => ⟨[.sh X, .sh NN, s2, .sh (nsD F), .sh (nsD G), s5, .sh (.str y)], rfl, rfl, ?_, fun _ => ⟨[.sh X, .sh NN, s2, .sh (nsD F), .sh (nsD G), s5, .sh (.str y)], ?_, rfl⟩⟩
          · generalize nsD G = GG
            unfold nsD
            simp [mop, ev2, ev1, evA, getA, look, slotOk, mcst, mvar, asB, mlst, mtup, mcons, mnil, mfn, mfnL, evN, evAs, getAs, mite, band, bor, bnot, mand, mor, mnot, mcall, iseq, irange1, irange2, sset, ssetO, sret, sdrop, snil, sif, gset, mmut, isL1, ssub, spar, evOs, setSls, slOf, sasg, gtup, gcons, gnil, mslice, osome, onone, mopL, mlensetA, misinst, mmt, kindD, saug, byes]
          · have i := (in_strs (oF _ hy).1 oG).1
            generalize nsD F = FF
            generalize nsD G = GG at i ⊢
            unfold ct__law_are_families_1
            generalize decide (y ∈ G) = b at i ⊢
            simp [mop, ev2, ev1, evA, getA, look, slotOk, mcst, mvar, asB, mlst, mtup, mcons, mnil, mfn, mfnL, evN, evAs, getAs, mite, band, bor, bnot, mand, mor, mnot, mcall, iseq, irange1, irange2, sset, ssetO, sret, sdrop, snil, sif, gset, mmut, isL1, ssub, spar, evOs, setSls, slOf, sasg, gtup, gcons, gnil, mslice, osome, onone, mopL, mlensetA, misinst, mmt, kindD, saug, byes, i]
          · unfold ce__law_are_families_1
            generalize nsD F = FF
            generalize nsD G = GG
            simp [mop, ev2, ev1, evA, getA, look, slotOk, mcst, mvar, asB, mlst, mtup, mcons, mnil, mfn, mfnL, evN, evAs, getAs, mite, band, bor, bnot, mand, mor, mnot, mcall, iseq, irange1, irange2, sset, ssetO, sret, sdrop, snil, sif, gset, mmut, isL1, ssub, spar, evOs, setSls, slOf, sasg, gtup, gcons, gnil, mslice, osome, onone, mopL, mlensetA, misinst, mmt, kindD, saug, byes]
        have l1 : len1 [lsD (F.filter (· ∈ G))] = some (nD (F.filter (· ∈ G)).length) := by simp [lsD, len1]
        have l2 : len1 [nsD F] = some (nD F.length) := by simp [nsD, len1]
        have l3 : len1 [nsD G] = some (nD G.length) := by simp [nsD, len1]
        have g1 := gt0 (F.filter (· ∈ G)).length
        have g2 := ltn (F.filter (· ∈ G)).length F.length
        have g3 := ltn (F.filter (· ∈ G)).length G.length
        refine ⟨.sh (nD (F.filter (· ∈ G)).length), .inr ⟨_, rfl⟩, ?_⟩
        unfold crossB
        generalize lsD (F.filter (· ∈ G)) = W at c l1
        generalize decide (0 < (F.filter (· ∈ G)).length) = b1 at g1 ⊢
        generalize decide ((F.filter (· ∈ G)).length < F.length) = b2 at g2 ⊢
        generalize decide ((F.filter (· ∈ G)).length < G.length) = b3 at g3 ⊢
        generalize nD (F.filter (· ∈ G)).length = k at l1 g1 g2 g3 ⊢
        generalize nD F.length = k2 at l2 g2
        generalize nD G.length = k3 at l3 g3
        generalize nsD F = FF at c l2 ⊢
        generalize nsD G = GG at c l3 ⊢
        generalize nsD N = NN at c ⊢
        generalize fsD Fs = X at c ⊢
        unfold lb__law_are_families_1
        refine scons_nx (Z := tz) (e1 := [.sh X, .sh NN, s2, .sh FF, .sh GG, .sh k, .no]) (t1 := t) ?_ ?_
        · obtain ⟨C, hC⟩ : ∃ z, z = c__law_are_families_1 := ⟨_, rfl⟩
          rw [← hC] at c ⊢
          clear hC
          simp [mop, ev2, ev1, evA, getA, look, slotOk, mcst, mvar, asB, mlst, mtup, mcons, mnil, mfn, mfnL, evN, evAs, getAs, mite, band, bor, bnot, mand, mor, mnot, mcall, iseq, irange1, irange2, sset, ssetO, sret, sdrop, snil, sif, gset, mmut, isL1, ssub, spar, evOs, setSls, slOf, sasg, gtup, gcons, gnil, mslice, osome, onone, mopL, mlensetA, misinst, mmt, kindD, saug, byes, c, l1]
        · cases b1 <;> cases b2 <;> cases b3 <;> simp [mop, ev2, ev1, evA, getA, look, slotOk, mcst, mvar, asB, mlst, mtup, mcons, mnil, mfn, mfnL, evN, evAs, getAs, mite, band, bor, bnot, mand, mor, mnot, mcall, iseq, irange1, irange2, sset, ssetO, sret, sdrop, snil, sif, gset, mmut, isL1, ssub, spar, evOs, setSls, slOf, sasg, gtup, gcons, gnil, mslice, osome, onone, mopL, mlensetA, misinst, mmt, kindD, saug, byes, l2, l3, g1, g2, g3]
      have inner : ∀ (t : Tp), ∀ F ∈ Fs, ∀ s2 s4 s5 : Sl, (s5 = .no ∨ ∃ d, s5 = .sh d) → ∃ (fl : Fl) (e2 : List Sl), l__law_are_families_1 [.sh (fsD Fs), .sh (nsD N), s2, .sh (nsD F), s4, s5, .no] t = some (fl, e2, t) ∧ ((fl = .nx ∧ (∀ G ∈ Fs, crossB F G = false) ∧ ∃ s4 s5, (s5 = .no ∨ ∃ d, s5 = .sh d) ∧ e2 = [.sh (fsD Fs), .sh (nsD N), s2, .sh (nsD F), s4, s5, .no]) ∨ (fl = .rt (.bl false) ∧ ∃ G ∈ Fs, crossB F G = true)) := by
        intro t F hF' s2 s4 s5 h5
        obtain ⟨fl, e', t', l1, hh⟩ := forL_any (Z := tz) (g := gset 4) (b := lb__law_are_families_1) (ds := Fs.map nsD) (e := [.sh (fsD Fs), .sh (nsD N), s2, .sh (nsD F), s4, s5, .no]) (t := t)
          (fun i e t1 => t1 = t ∧ (∃ s4 s5, (s5 = .no ∨ ∃ d, s5 = .sh d) ∧ e = [.sh (fsD Fs), .sh (nsD N), s2, .sh (nsD F), s4, s5, .no]) ∧ ∀ G ∈ Fs.take i, crossB F G = false)
          (fun r t1 => r = .bl false ∧ t1 = t ∧ ∃ G ∈ Fs, crossB F G = true) ⟨rfl, ⟨s4, s5, h5, rfl⟩, by simp⟩ fun i d e t1 hd hi => by
            obtain ⟨rfl, ⟨s4, s5, h5, rfl⟩, ha⟩ := hi
            rw [List.getElem?_map] at hd
            cases z : Fs[i]? with
            | none => rw [z] at hd; simp at hd
            | some G =>
              rw [z] at hd
              simp at hd
              subst hd
              have hm := List.mem_of_getElem? z
              obtain ⟨r5, h5', bd⟩ := lb t1 F hF' G hm s2 s5 h5
              refine ⟨_, rfl, _, _, _, bd, ?_⟩
              by_cases q : crossB F G = true
              · rw [if_pos q]
                exact .inr ⟨_, rfl, rfl, rfl, G, hm, q⟩
              · rw [if_neg q]
                refine .inl ⟨.inl rfl, rfl, ⟨_, r5, h5', rfl⟩, fun G' hG' => ?_⟩
                rw [take_one z, List.mem_append] at hG'
                rcases hG' with hG' | hG'
                · exact ha G' hG'
                · simp at hG'
                  subst hG'
                  simpa using q
        have src : iseq (Z := tz) (mvar 0) [.sh (fsD Fs), .sh (nsD N), s2, .sh (nsD F), s4, s5, .no] t = some (Fs.map nsD, [.sh (fsD Fs), .sh (nsD N), s2, .sh (nsD F), s4, s5, .no], t) := by
          generalize nsD N = NN
          generalize nsD F = FF
          unfold fsD
          simp [mop, ev2, ev1, evA, getA, look, slotOk, mcst, mvar, asB, mlst, mtup, mcons, mnil, mfn, mfnL, evN, evAs, getAs, mite, band, bor, bnot, mand, mor, mnot, mcall, iseq, irange1, irange2, sset, ssetO, sret, sdrop, snil, sif, gset, mmut, isL1, ssub, spar, evOs, setSls, slOf, sasg, gtup, gcons, gnil, mslice, osome, onone, mopL, mlensetA, misinst, mmt, kindD, saug, byes]
        have l3 : l__law_are_families_1 [.sh (fsD Fs), .sh (nsD N), s2, .sh (nsD F), s4, s5, .no] t = some (fl, e', t') := sfor_of src l1
        rcases hh with ⟨rfl, rfl, hs2, ha⟩ | ⟨r, rfl, rfl, rfl, ha⟩
        · exact ⟨.nx, e', l3, .inl ⟨rfl, by simpa using ha, hs2⟩⟩
        · exact ⟨_, e', l3, .inr ⟨rfl, ha⟩⟩
      have outer : ∀ (t : Tp) (s2 : Sl), ∃ (fl : Fl) (e2 : List Sl), l__law_are_families_2 [.sh (fsD Fs), .sh (nsD N), s2, .no, .no, .no, .no] t = some (fl, e2, t) ∧ ((fl = .nx ∧ ∀ F ∈ Fs, ∀ G ∈ Fs, crossB F G = false) ∨ (fl = .rt (.bl false) ∧ ∃ F ∈ Fs, ∃ G ∈ Fs, crossB F G = true)) := by
        intro t s2
        obtain ⟨fl, e', t', l1, hh⟩ := forL_any (Z := tz) (g := gset 3) (b := lb__law_are_families_2) (ds := Fs.map nsD) (e := [.sh (fsD Fs), .sh (nsD N), s2, .no, .no, .no, .no]) (t := t)
          (fun i e t1 => t1 = t ∧ (∃ s3 s4 s5, (s5 = .no ∨ ∃ d, s5 = .sh d) ∧ e = [.sh (fsD Fs), .sh (nsD N), s2, s3, s4, s5, .no]) ∧ ∀ F ∈ Fs.take i, ∀ G ∈ Fs, crossB F G = false)
          (fun r t1 => r = .bl false ∧ t1 = t ∧ ∃ F ∈ Fs, ∃ G ∈ Fs, crossB F G = true) ⟨rfl, ⟨.no, .no, .no, .inl rfl, rfl⟩, by simp⟩ fun i d e t1 hd hi => by
            obtain ⟨rfl, ⟨s3, s4, s5, h5, rfl⟩, ha⟩ := hi
            rw [List.getElem?_map] at hd
            cases z : Fs[i]? with
            | none => rw [z] at hd; simp at hd
            | some F =>
              rw [z] at hd
              simp at hd
              subst hd
              have hm := List.mem_of_getElem? z
              obtain ⟨fl, e2, l2, hh⟩ := inner t1 F hm s2 s4 s5 h5
              refine ⟨_, rfl, fl, e2, t1, l2, ?_⟩
              rcases hh with ⟨rfl, hc, s4', s5', h5', rfl⟩ | ⟨rfl, G, hG, hc⟩
              · refine .inl ⟨.inl rfl, rfl, ⟨_, s4', s5', h5', rfl⟩, fun F' hF' => ?_⟩
                rw [take_one z, List.mem_append] at hF'
                rcases hF' with hF' | hF'
                · exact ha F' hF'
                · simp at hF'
                  subst hF'
                  exact hc
              · exact .inr ⟨_, rfl, rfl, rfl, F, hm, G, hG, hc⟩
        have src : iseq (Z := tz) (mvar 0) [.sh (fsD Fs), .sh (nsD N), s2, .no, .no, .no, .no] t = some (Fs.map nsD, [.sh (fsD Fs), .sh (nsD N), s2, .no, .no, .no, .no], t) := by
          generalize nsD N = NN
          unfold fsD
          simp [mop, ev2, ev1, evA, getA, look, slotOk, mcst, mvar, asB, mlst, mtup, mcons, mnil, mfn, mfnL, evN, evAs, getAs, mite, band, bor, bnot, mand, mor, mnot, mcall, iseq, irange1, irange2, sset, ssetO, sret, sdrop, snil, sif, gset, mmut, isL1, ssub, spar, evOs, setSls, slOf, sasg, gtup, gcons, gnil, mslice, osome, onone, mopL, mlensetA, misinst, mmt, kindD, saug, byes]
        have l3 : l__law_are_families_2 [.sh (fsD Fs), .sh (nsD N), s2, .no, .no, .no, .no] t = some (fl, e', t') := sfor_of src l1
        rcases hh with ⟨rfl, rfl, hs2, ha⟩ | ⟨r, rfl, rfl, rfl, ha⟩
        · exact ⟨.nx, e', l3, .inl ⟨rfl, by simpa using ha⟩⟩
        · exact ⟨_, e', l3, .inr ⟨rfl, ha⟩⟩
      by_cases cr : ∀ F ∈ Fs, ∀ G ∈ Fs, crossB F G = false
      · refine ⟨true, ⟨fun _ => ⟨Fs, rfl, hF, cr⟩, fun _ => rfl⟩, fun t => ?_⟩
        obtain ⟨fl, e2, k3, h3⟩ := lo t
        rcases h3 with ⟨rfl, _, s2, rfl⟩ | ⟨_, z⟩
        · obtain ⟨fl, e3, k2, h2⟩ := outer t s2
          rcases h2 with ⟨rfl, _⟩ | ⟨_, F, hF', G, hG', z⟩
          · exact runFn_at (Z := tz) (e1 := e3) [.sh (.tup (Fs.map nsD)), .sh (nsD N), .no, .no, .no, .no, .no] rfl (scons_nx (Z := tz) (s0 t) (scons_nx (Z := tz) k3 (scons_nx (Z := tz) k2 rfl)))
          · rw [cr F hF' G hG'] at z; cases z
        · rw [q] at z; cases z
      · refine ⟨false, ⟨fun z => (by cases z), fun ⟨Fs', e, _, hc⟩ => absurd (by rw [fsD_inj (a := Fs) (b := Fs') e]; exact hc) cr⟩, fun t => ?_⟩
        obtain ⟨fl, e2, k3, h3⟩ := lo t
        rcases h3 with ⟨rfl, _, s2, rfl⟩ | ⟨_, z⟩
        · obtain ⟨fl, e3, k2, h2⟩ := outer t s2
          rcases h2 with ⟨rfl, z⟩ | ⟨rfl, _⟩
          · exact absurd z cr
          · exact runFn_at (Z := tz) [.sh (.tup (Fs.map nsD)), .sh (nsD N), .no, .no, .no, .no, .no] rfl (scons_nx (Z := tz) (s0 t) (scons_nx (Z := tz) k3 (scons_rt (Z := tz) k2)))
        · rw [q] at z; cases z
    · have q' : ds.all (lotB N) = false := by simpa using q
      refine ⟨false, ⟨fun z => (by cases z), fun ⟨Fs, e, hF, _⟩ => ?_⟩, fun t => ?_⟩
      · unfold fsD at e
        rw [D.tup.injEq] at e
        rw [e] at q
        exact absurd (lots_all hF) q
      · obtain ⟨fl, e2, k3, h3⟩ := lo t
        rcases h3 with ⟨rfl, z, _⟩ | ⟨rfl, _⟩
        · exact absurd z q
        · exact runFn_at (Z := tz) [.sh (.tup ds), .sh (nsD N), .no, .no, .no, .no, .no] rfl (scons_nx (Z := tz) (s0 t) (scons_rt (Z := tz) k3))
  · have i : isinstD "tuple" v = some false := isT_no h.noTape fun ds e => ht ⟨ds, e⟩
    refine ⟨false, ⟨fun z => (by cases z), fun ⟨Fs, e, _⟩ => absurd ⟨_, e⟩ ht⟩, fun t => ?_⟩
    generalize nsD N = NN
    refine runFn_at (Z := tz) (e1 := [.sh v, .sh NN, .no, .no, .no, .no, .no]) [.sh v, .sh NN, .no, .no, .no, .no, .no] rfl (scons_rt (Z := tz) (e1 := [.sh v, .sh NN, .no, .no, .no, .no, .no]) (t1 := t) ?_)
    simp [mop, ev2, ev1, evA, getA, look, slotOk, mcst, mvar, asB, mlst, mtup, mcons, mnil, mfn, mfnL, evN, evAs, getAs, mite, band, bor, bnot, mand, mor, mnot, mcall, iseq, irange1, irange2, sset, ssetO, sret, sdrop, snil, sif, gset, mmut, isL1, ssub, spar, evOs, setSls, slOf, sasg, gtup, gcons, gnil, mslice, osome, onone, mopL, mlensetA, misinst, mmt, kindD, saug, byes, i]
end K29

namespace K29
open PySem L2 DL

def TiedP (N : List Str) (cs : List Cl) (v : D) : Prop := ∃ F, v = nsD F ∧ Lot N F ∧ 1 < F.length ∧ (partsOf (prs cs F) F).length = 1
theorem eq_nat (a b : Nat) : eqD (nD a) (.int (b : Int)) = some (.bl (decide (a = b))) := by
  simp only [eqD, scalD, Bool.true_or, if_true, eqvD]
  congr 2
  by_cases z : a = b
  · simp [z]
  · have : ¬ ((a : Int) = (b : Int)) := by omega
    simp [z, this]
theorem gt1 (n : Nat) : gtD (nD n) (.int 1) = some (.bl (decide (1 < n))) := by
  simp [gtD, cmpD]
  omega
theorem tied_run {N : List Str} (hN : Nms N) {cs : List Cl} (hc : ∀ c ∈ cs, ClIn N c) (hz : cs.length ≤ 1000) {v : D} (h : Gd v) : ∃ b, (b = true ↔ TiedP N cs v) ∧ ∀ t, f_is_tied [v, nsD N, csD cs] t = some (.bl b, t) ∧ f__law_is_tied [v, nsD N, csD cs] t = some (.bl b, t) := by
  by_cases q : lotB N v = true
  · obtain ⟨F, rfl, hF⟩ := lotB_iff.mp q
    have hl := hF.len
    have h7 := hN.len
    refine ⟨decide (1 < F.length) && decide ((partsOf (prs cs F) F).length = 1), ?_, fun t => ?_⟩
    · simp only [Bool.and_eq_true, decide_eq_true_eq]
      exact ⟨fun z => ⟨F, rfl, hF, z.1, z.2⟩, fun ⟨G, e, _, z⟩ => by rw [nsD_inj.mp e]; exact z⟩
    · have n1 := is_lot_run hN h t
      have n2 := law_lot_run hN h t
      rw [q] at n1 n2
      have p1 := parts_run hN.okS (hF.okS hN) (by omega) hc hz t
      have p2 := law_parts_run hN.okS (hF.okS hN) (by omega) hc hz t
      have l1 : len1 [nsD F] = some (nD F.length) := by simp [nsD, len1]
      have l2 : len1 [.lst ((partsOf (prs cs F) F).map nsD)] = some (nD (partsOf (prs cs F) F).length) := by simp [len1]
      have l3 : len1 [.lst ((partsOf (prs cs F) F).map lsD)] = some (nD (partsOf (prs cs F) F).length) := by simp [len1]
      have e1 := eq_nat (partsOf (prs cs F) F).length 1
      have g := gt1 F.length
      generalize (partsOf (prs cs F) F).map nsD = W at p1 l2
      generalize (partsOf (prs cs F) F).map lsD = W2 at p2 l3
      generalize decide ((partsOf (prs cs F) F).length = 1) = B at e1 ⊢
      generalize (partsOf (prs cs F) F).length = k at l2 l3 e1
      generalize decide (1 < F.length) = B2 at g ⊢
      generalize F.length = k2 at l1 g
      generalize nsD F = FF at n1 n2 p1 p2 l1 ⊢
      generalize nsD N = NN at n1 n2 ⊢
      generalize csD cs = CC at p1 p2 ⊢
      have e1' : eqD (nD k) (.int 1) = some (.bl B) := e1
      constructor
      · refine runFn_at (Z := tz) (e1 := [.sh FF, .sh NN, .sh CC]) [.sh FF, .sh NN, .sh CC] rfl (sret_ev (Z := tz) ?_)
        obtain ⟨F1, hF1⟩ : ∃ z, z = f_is_lot := ⟨_, rfl⟩
        rw [← hF1] at n1 ⊢
        clear hF1
        obtain ⟨F2, hF2⟩ : ∃ z, z = f_parts := ⟨_, rfl⟩
        rw [← hF2] at p1 ⊢
        clear hF2
        cases B2 <;> simp [mop, ev2, ev1, evA, getA, look, slotOk, mcst, mvar, asB, mlst, mtup, mcons, mnil, mfn, mfnL, evN, evAs, getAs, mite, band, bor, bnot, mand, mor, mnot, mcall, iseq, irange1, irange2, sset, ssetO, sret, sdrop, snil, sif, gset, mmut, isL1, ssub, spar, evOs, setSls, slOf, sasg, gtup, gcons, gnil, mslice, osome, onone, mopL, mlensetA, misinst, mmt, kindD, saug, byes, n1, l1, g, p1, l2, e1']
      · refine runFn_at (Z := tz) (e1 := [.sh FF, .sh NN, .sh CC]) [.sh FF, .sh NN, .sh CC] rfl (sret_ev (Z := tz) ?_)
        obtain ⟨F1, hF1⟩ : ∃ z, z = f__law_is_lot := ⟨_, rfl⟩
        rw [← hF1] at n2 ⊢
        clear hF1
        obtain ⟨F2, hF2⟩ : ∃ z, z = f__law_parts := ⟨_, rfl⟩
        rw [← hF2] at p2 ⊢
        clear hF2
        cases B2 <;> simp [mop, ev2, ev1, evA, getA, look, slotOk, mcst, mvar, asB, mlst, mtup, mcons, mnil, mfn, mfnL, evN, evAs, getAs, mite, band, bor, bnot, mand, mor, mnot, mcall, iseq, irange1, irange2, sset, ssetO, sret, sdrop, snil, sif, gset, mmut, isL1, ssub, spar, evOs, setSls, slOf, sasg, gtup, gcons, gnil, mslice, osome, onone, mopL, mlensetA, misinst, mmt, kindD, saug, byes, n2, l1, g, p2, l3, e1']
  · have q' : lotB N v = false := by simpa using q
    refine ⟨false, ⟨fun z => (by cases z), fun ⟨F, e, hF, _⟩ => absurd (lotB_iff.mpr ⟨F, e, hF⟩) q⟩, fun t => ?_⟩
    have n1 := is_lot_run hN h t
    have n2 := law_lot_run hN h t
    rw [q'] at n1 n2
    generalize nsD N = NN at n1 n2 ⊢
    generalize csD cs = CC
    constructor
    · refine runFn_at (Z := tz) (e1 := [.sh v, .sh NN, .sh CC]) [.sh v, .sh NN, .sh CC] rfl (sret_ev (Z := tz) ?_)
      obtain ⟨F1, hF1⟩ : ∃ z, z = f_is_lot := ⟨_, rfl⟩
      rw [← hF1] at n1 ⊢
      clear hF1
      simp [mop, ev2, ev1, evA, getA, look, slotOk, mcst, mvar, asB, mlst, mtup, mcons, mnil, mfn, mfnL, evN, evAs, getAs, mite, band, bor, bnot, mand, mor, mnot, mcall, iseq, irange1, irange2, sset, ssetO, sret, sdrop, snil, sif, gset, mmut, isL1, ssub, spar, evOs, setSls, slOf, sasg, gtup, gcons, gnil, mslice, osome, onone, mopL, mlensetA, misinst, mmt, kindD, saug, byes, n1]
    · refine runFn_at (Z := tz) (e1 := [.sh v, .sh NN, .sh CC]) [.sh v, .sh NN, .sh CC] rfl (sret_ev (Z := tz) ?_)
      obtain ⟨F1, hF1⟩ : ∃ z, z = f__law_is_lot := ⟨_, rfl⟩
      rw [← hF1] at n2 ⊢
      clear hF1
      simp [mop, ev2, ev1, evA, getA, look, slotOk, mcst, mvar, asB, mlst, mtup, mcons, mnil, mfn, mfnL, evN, evAs, getAs, mite, band, bor, bnot, mand, mor, mnot, mcall, iseq, irange1, irange2, sset, ssetO, sret, sdrop, snil, sif, gset, mmut, isL1, ssub, spar, evOs, setSls, slOf, sasg, gtup, gcons, gnil, mslice, osome, onone, mopL, mlensetA, misinst, mmt, kindD, saug, byes, n2]
def csL (cs : List Cl) : D := .lst (cs.map clD)
def DueP (N : List Str) (cs : List Cl) (v : D) : Prop := (∃ w, v = .tup [.str "tied", w] ∧ TiedP N cs w) ∨ ∃ Fs, v = .tup [.str "families", fsD Fs] ∧ FamsP N (fsD Fs) ∧ ∀ c ∈ cs, Fs.any (metB c) = true
theorem eq_word {x : D} {w : Str} (h : okD 30 x = true) (hw : PyData.strOk w = true) : ∃ b, eqD x (.str w) = some (.bl b) ∧ neD x (.str w) = some (.bl (!b)) ∧ (b = true ↔ x = .str w) := by
  have o : okD 30 (.str w) = true := by simp [okD, hw]
  refine ⟨eqvD x (.str w), by simp [eqD, h, o], by simp [neD, h, o], ?_⟩
  cases x <;> simp [eqvD]
theorem gd_mem {x y : D} (h : Gd (.tup [x, y])) : okD 30 x = true ∧ Gd x ∧ Gd y := by
  have a := h.all
  simp at a
  exact ⟨a.1, h.tup.2 x (by simp), h.tup.2 y (by simp)⟩
theorem okTied : PyData.strOk ("tied" : Str) = true := by decide +kernel
theorem okFam : PyData.strOk ("families" : Str) = true := by decide +kernel
theorem nsN_names {N : List Str} (hN : Nms N) (h0 : N ≠ []) : namesB (nsD N) = true := namesB_lot hN ⟨h0, fun _ => true, (List.filter_eq_self.mpr fun _ _ => rfl).symm⟩
theorem gd_N {N : List Str} (hN : Nms N) : Gd (nsD N) := .inl (gd_nsD hN.un (by have := hN.len; omega) 19)
theorem gd_cs {N : List Str} (hN : Nms N) {cs : List Cl} (hc : ∀ c ∈ cs, ClIn N c) (hz : cs.length ≤ 1000) : Gd (csD cs) := by
  left
  show gd (19 + 1) _ = true
  simp only [csD, gd, List.length_map, Bool.and_eq_true, decide_eq_true_eq, List.all_eq_true]
  refine ⟨hz, fun d hd => ?_⟩
  obtain ⟨c, hc', rfl⟩ := List.mem_map.mp hd
  exact gd_clD hN (hc c hc') 18
theorem clsB_ok {N : List Str} (hN : Nms N) {cs : List Cl} (hc : ∀ c ∈ cs, ClOk N c) : clsB N (csD cs) = true := by
  simp only [csD, clsB, List.all_eq_true]
  intro d hd
  obtain ⟨c, hc', rfl⟩ := List.mem_map.mp hd
  exact clB_ok hN (hc c hc')
theorem accepts_run {N : List Str} (hN : Nms N) (h0 : N ≠ []) {cs : List Cl} (hc : ∀ c ∈ cs, ClOk N c) (hz : cs.length ≤ 1000) {v : D} (h : Gd v) :
    ∃ b, (b = true ↔ DueP N cs v) ∧ ∀ t, f_accepts_grouping [nsD N, csD cs, v] t = some (.bl b, t) ∧ f__law_due [nsD N, csD cs, v] t = some (.bl b, t) := by
  have hci : ∀ c ∈ cs, ClIn N c := fun c h => (hc c h).i
  have nn : ∀ t, f_is_names [nsD N] t = some (.bl true, t) := fun t => by rw [names_run (gd_N hN) t, nsN_names hN h0]
  have ac : ∀ t, f_are_claims [csD cs, nsD N] t = some (.bl true, t) := fun t => by rw [are_claims_run hN (gd_cs hN hci hz) t, clsB_ok hN hc]
  by_cases ht : ∃ ds, v = .tup ds
  · obtain ⟨ds, rfl⟩ := ht
    have i : isinstD "tuple" (.tup ds) = some true := rfl
    have l1 : len1 [.tup ds] = some (nD ds.length) := rfl
    have ne2 : neD (nD ds.length) (.int 2) = some (.bl (!decide (ds.length = 2))) := by
      simp only [neD, scalD, Bool.true_or, if_true, eqvD]
      congr 3
      by_cases z : ds.length = 2
      · simp [z]
      · have : ¬ ((ds.length : Int) = 2) := by omega
        simp [z, this]
    by_cases l2 : ds.length = 2
    · obtain ⟨x, y, rfl⟩ : ∃ x y, ds = [x, y] := by
        match ds, l2 with
        | [x, y], _ => exact ⟨x, y, rfl⟩
      obtain ⟨ox, gx, gy⟩ := gd_mem h
      rw [decide_eq_true l2] at ne2
      have i0 : idxD (.tup [x, y]) (.int 0) = some x := ix0 _ _
      have i1 : idxD (.tup [x, y]) (.int 1) = some y := ix1 _ _ _
      obtain ⟨b1, q1, _, q2⟩ := eq_word ox okTied
      obtain ⟨b2, _, q3, q4⟩ := eq_word ox okFam
      have s1 : ∀ t, sif (Z := tz) (bor (bnot (asB (mcall 1 f_is_names (mcons (mvar 0) mnil)))) (bor (bnot (asB (mcall 2 f_are_claims (mcons (mvar 1) (mcons (mvar 0) mnil))))) (bor (bnot (asB (misinst "tuple" (.v 2)))) (asB (mop neD (.e (mfn len1 [(.v 2)])) (.e (mcst (.int 2)))))))) (sret (mcst (.bl false))) snil [.sh (nsD N), .sh (csD cs), .sh (.tup [x, y]), .no] t = some (.nx, [.sh (nsD N), .sh (csD cs), .sh (.tup [x, y]), .no], t) := by
        intro t
        have nn := nn t
        have ac := ac t
        generalize List.length [x, y] = k at l1 ne2
        generalize D.tup [x, y] = V at i l1 ⊢
        generalize nsD N = NN at nn ac ⊢
        generalize csD cs = CC at ac ⊢
        obtain ⟨F1, hF1⟩ : ∃ z, z = f_is_names := ⟨_, rfl⟩
        rw [← hF1] at nn ⊢
        clear hF1
        obtain ⟨F2, hF2⟩ : ∃ z, z = f_are_claims := ⟨_, rfl⟩
        rw [← hF2] at ac ⊢
        clear hF2
        simp [mop, ev2, ev1, evA, getA, look, slotOk, mcst, mvar, asB, mlst, mtup, mcons, mnil, mfn, mfnL, evN, evAs, getAs, mite, band, bor, bnot, mand, mor, mnot, mcall, iseq, irange1, irange2, sset, ssetO, sret, sdrop, snil, sif, gset, mmut, isL1, ssub, spar, evOs, setSls, slOf, sasg, gtup, gcons, gnil, mslice, osome, onone, mopL, mlensetA, misinst, mmt, kindD, saug, byes, nn, ac, i, l1, ne2]
      have s2 : ∀ t, sif (Z := tz) (bor (bnot (asB (misinst "tuple" (.v 2)))) (asB (mop neD (.e (mfn len1 [(.v 2)])) (.e (mcst (.int 2)))))) (sret (mcst (.bl false))) snil [.sh (nsD N), .sh (csD cs), .sh (.tup [x, y]), .no] t = some (.nx, [.sh (nsD N), .sh (csD cs), .sh (.tup [x, y]), .no], t) := by
        intro t
        generalize List.length [x, y] = k at l1 ne2
        generalize D.tup [x, y] = V at i l1 ⊢
        generalize nsD N = NN
        generalize csD cs = CC
        simp [mop, ev2, ev1, evA, getA, look, slotOk, mcst, mvar, asB, mlst, mtup, mcons, mnil, mfn, mfnL, evN, evAs, getAs, mite, band, bor, bnot, mand, mor, mnot, mcall, iseq, irange1, irange2, sset, ssetO, sret, sdrop, snil, sif, gset, mmut, isL1, ssub, spar, evOs, setSls, slOf, sasg, gtup, gcons, gnil, mslice, osome, onone, mopL, mlensetA, misinst, mmt, kindD, saug, byes, i, l1, ne2]
      have env : ∀ (Q : Prop), Q → Q := fun _ h => h
      cases b1 with
      | true =>
        have ex := q2.mp rfl
        subst ex
        obtain ⟨b, hb, ru⟩ := tied_run hN hci hz gy
        refine ⟨b, ?_, fun t => ?_⟩
        · rw [hb]
          constructor
          · intro z; exact .inl ⟨y, rfl, z⟩
          · rintro (⟨w, e, z⟩ | ⟨Fs, e, _⟩)
            · simp at e; rw [e]; exact z
            · have : ("tied" : Str) = "families" := by simpa using (List.cons.inj (D.tup.inj e)).1
              exact absurd this (by decide +kernel)
        · obtain ⟨r1, r2⟩ := ru t
          have s1 := s1 t
          have s2 := s2 t
          generalize D.tup [.str "tied", y] = V at i0 i1 s1 s2 ⊢
          generalize nsD N = NN at r1 r2 s1 s2 ⊢
          generalize csD cs = CC at r1 r2 s1 s2 ⊢
          constructor
          · refine runFn_at (Z := tz) (e1 := [.sh NN, .sh CC, .sh V, .no]) [.sh NN, .sh CC, .sh V, .no] rfl (scons_nx (Z := tz) s1 (scons_rt (Z := tz) ?_))
            obtain ⟨F1, hF1⟩ : ∃ z, z = f_is_tied := ⟨_, rfl⟩
            rw [← hF1] at r1 ⊢
            clear hF1
            simp [mop, ev2, ev1, evA, getA, look, slotOk, mcst, mvar, asB, mlst, mtup, mcons, mnil, mfn, mfnL, evN, evAs, getAs, mite, band, bor, bnot, mand, mor, mnot, mcall, iseq, irange1, irange2, sset, ssetO, sret, sdrop, snil, sif, gset, mmut, isL1, ssub, spar, evOs, setSls, slOf, sasg, gtup, gcons, gnil, mslice, osome, onone, mopL, mlensetA, misinst, mmt, kindD, saug, byes, i0, i1, q1, r1]
          · refine runFn_at (Z := tz) (e1 := [.sh NN, .sh CC, .sh V, .no]) [.sh NN, .sh CC, .sh V, .no] rfl (scons_nx (Z := tz) s2 (scons_rt (Z := tz) ?_))
            obtain ⟨F1, hF1⟩ : ∃ z, z = f__law_is_tied := ⟨_, rfl⟩
            rw [← hF1] at r2 ⊢
            clear hF1
            simp [mop, ev2, ev1, evA, getA, look, slotOk, mcst, mvar, asB, mlst, mtup, mcons, mnil, mfn, mfnL, evN, evAs, getAs, mite, band, bor, bnot, mand, mor, mnot, mcall, iseq, irange1, irange2, sset, ssetO, sret, sdrop, snil, sif, gset, mmut, isL1, ssub, spar, evOs, setSls, slOf, sasg, gtup, gcons, gnil, mslice, osome, onone, mopL, mlensetA, misinst, mmt, kindD, saug, byes, i0, i1, q1, r2]
      | false =>
        have nt : x ≠ .str "tied" := fun z => by have := q2.mpr z; cases this
        have u1 : ∀ t V NN CC, idxD V (.int 0) = some x → sif (Z := tz) (asB (mop eqD (.e (mop idxD (.v 2) (.e (mcst (.int 0))))) (.e (mcst (.str "tied"))))) (sret (mcall 3 f_is_tied (mcons (mop idxD (.v 2) (.e (mcst (.int 1)))) (mcons (mvar 0) (mcons (mvar 1) mnil))))) snil [.sh NN, .sh CC, .sh V, .no] t = some (.nx, [.sh NN, .sh CC, .sh V, .no], t) := by
          intro t V NN CC i0
          simp [mop, ev2, ev1, evA, getA, look, slotOk, mcst, mvar, asB, mlst, mtup, mcons, mnil, mfn, mfnL, evN, evAs, getAs, mite, band, bor, bnot, mand, mor, mnot, mcall, iseq, irange1, irange2, sset, ssetO, sret, sdrop, snil, sif, gset, mmut, isL1, ssub, spar, evOs, setSls, slOf, sasg, gtup, gcons, gnil, mslice, osome, onone, mopL, mlensetA, misinst, mmt, kindD, saug, byes, i0, q1]
        have u2 : ∀ t V NN CC, idxD V (.int 0) = some x → sif (Z := tz) (asB (mop eqD (.e (mop idxD (.v 2) (.e (mcst (.int 0))))) (.e (mcst (.str "tied"))))) (sret (mcall 3 f__law_is_tied (mcons (mop idxD (.v 2) (.e (mcst (.int 1)))) (mcons (mvar 0) (mcons (mvar 1) mnil))))) snil [.sh NN, .sh CC, .sh V, .no] t = some (.nx, [.sh NN, .sh CC, .sh V, .no], t) := by
          intro t V NN CC i0
          simp [mop, ev2, ev1, evA, getA, look, slotOk, mcst, mvar, asB, mlst, mtup, mcons, mnil, mfn, mfnL, evN, evAs, getAs, mite, band, bor, bnot, mand, mor, mnot, mcall, iseq, irange1, irange2, sset, ssetO, sret, sdrop, snil, sif, gset, mmut, isL1, ssub, spar, evOs, setSls, slOf, sasg, gtup, gcons, gnil, mslice, osome, onone, mopL, mlensetA, misinst, mmt, kindD, saug, byes, i0, q1]
        obtain ⟨bf, hbf, ff⟩ := fams_run hN gy
        obtain ⟨bg, hbg, fg⟩ := law_fams_run hN gy
        have ebg : bg = bf := Bool.eq_iff_iff.mpr (hbg.trans hbf.symm)
        subst ebg
        by_cases go : b2 = true ∧ bg = true
        · obtain ⟨rfl, rfl⟩ := go
          have ex := q4.mp rfl
          obtain ⟨Fs, rfl, hFs, hcr⟩ := hbf.mp rfl
          have lF : Fs.length ≤ 1000 := by have := gy.tup.1; rwa [List.length_map] at this
          refine ⟨cs.all fun c => Fs.any (metB c), ?_, fun t => ?_⟩
          · rw [List.all_eq_true]
            constructor
            · intro z; exact .inr ⟨Fs, by rw [ex], ⟨Fs, rfl, hFs, hcr⟩, z⟩
            · rintro (⟨w, e, z⟩ | ⟨Fs', e, _, z⟩)
              · simp at e; exact absurd e.1 nt
              · have e2 : fsD Fs = fsD Fs' := by simpa using (List.cons.inj (List.cons.inj (D.tup.inj e)).2).1
                rw [fsD_inj e2]; exact z
          · have c1 : c_accepts_grouping_1 [.sh (nsD N), .sh (csD cs), .sh (.tup [x, fsD Fs]), .no] t = some (.lst (cs.map fun c => .bl (Fs.any (metB c))), [.sh (nsD N), .sh (csD cs), .sh (.tup [x, fsD Fs]), .no], t) := by
              unfold c_accepts_grouping_1
              refine mlc_all (Z := tz) (e1 := [.sh (nsD N), .sh (csD cs), .sh (.tup [x, fsD Fs]), .no]) (t1 := t) clD (fun c => .bl (Fs.any (metB c))) cs ?_ rfl (by omega) fun c hc' => ⟨[.sh (nsD N), .sh (csD cs), .sh (.tup [x, fsD Fs]), .sh (clD c)], rfl, rfl, [.sh (nsD N), .sh (csD cs), .sh (.tup [x, fsD Fs]), .sh (clD c)], ?_, rfl⟩
              · generalize nsD N = NN
                generalize fsD Fs = FF
                unfold csD
                simp [mop, ev2, ev1, evA, getA, look, slotOk, mcst, mvar, asB, mlst, mtup, mcons, mnil, mfn, mfnL, evN, evAs, getAs, mite, band, bor, bnot, mand, mor, mnot, mcall, iseq, irange1, irange2, sset, ssetO, sret, sdrop, snil, sif, gset, mmut, isL1, ssub, spar, evOs, setSls, slOf, sasg, gtup, gcons, gnil, mslice, osome, onone, mopL, mlensetA, misinst, mmt, kindD, saug, byes]
              · have m := meets_run hN.okS (fun F hF => (hFs F hF).okS hN) lF (hci c hc') t
                generalize Fs.any (metB c) = B at m ⊢
                generalize fsD Fs = FF at m i1 ⊢
                generalize nsD N = NN
                generalize csD cs = CC
                generalize clD c = C at m ⊢
                generalize D.tup [x, FF] = V at i1 ⊢
                unfold ce_accepts_grouping_1
                obtain ⟨F1, hF1⟩ : ∃ z, z = f_meets := ⟨_, rfl⟩
                rw [← hF1] at m ⊢
                clear hF1
                simp [mop, ev2, ev1, evA, getA, look, slotOk, mcst, mvar, asB, mlst, mtup, mcons, mnil, mfn, mfnL, evN, evAs, getAs, mite, band, bor, bnot, mand, mor, mnot, mcall, iseq, irange1, irange2, sset, ssetO, sret, sdrop, snil, sif, gset, mmut, isL1, ssub, spar, evOs, setSls, slOf, sasg, gtup, gcons, gnil, mslice, osome, onone, mopL, mlensetA, misinst, mmt, kindD, saug, byes, i1, m]
            have a1 : all1 [.lst (cs.map fun c => .bl (Fs.any (metB c)))] = some (.bl (cs.all fun c => Fs.any (metB c))) := by
              have := all1_bls (cs.map fun c => Fs.any (metB c))
              rw [List.map_map, List.all_map] at this
              exact this
            have c2 : c__law_due_1 [.sh (nsD N), .sh (csD cs), .sh (.tup [x, fsD Fs]), .no] t = some (csL (cs.filter fun c => !Fs.any (metB c)), [.sh (nsD N), .sh (csD cs), .sh (.tup [x, fsD Fs]), .no], t) := by
              unfold c__law_due_1 csL
              refine mlc_map (Z := tz) (e1 := [.sh (nsD N), .sh (csD cs), .sh (.tup [x, fsD Fs]), .no]) (t1 := t) clD (fun c => !Fs.any (metB c)) clD cs ?_ rfl (by omega) fun c hc' => ⟨[.sh (nsD N), .sh (csD cs), .sh (.tup [x, fsD Fs]), .sh (clD c)], rfl, rfl, ?_, fun _ => ⟨[.sh (nsD N), .sh (csD cs), .sh (.tup [x, fsD Fs]), .sh (clD c)], ?_, rfl⟩⟩
              · generalize nsD N = NN
                generalize fsD Fs = FF
                unfold csD
                simp [mop, ev2, ev1, evA, getA, look, slotOk, mcst, mvar, asB, mlst, mtup, mcons, mnil, mfn, mfnL, evN, evAs, getAs, mite, band, bor, bnot, mand, mor, mnot, mcall, iseq, irange1, irange2, sset, ssetO, sret, sdrop, snil, sif, gset, mmut, isL1, ssub, spar, evOs, setSls, slOf, sasg, gtup, gcons, gnil, mslice, osome, onone, mopL, mlensetA, misinst, mmt, kindD, saug, byes]
              · have m := law_meets_run hN.okS (fun F hF => (hFs F hF).okS hN) lF (hci c hc') t
                generalize Fs.any (metB c) = B at m ⊢
                generalize fsD Fs = FF at m i1 ⊢
                generalize nsD N = NN
                generalize csD cs = CC
                generalize clD c = C at m ⊢
                generalize D.tup [x, FF] = V at i1 ⊢
                unfold ct__law_due_1
                obtain ⟨F1, hF1⟩ : ∃ z, z = f__law_meets := ⟨_, rfl⟩
                rw [← hF1] at m ⊢
                clear hF1
                simp [mop, ev2, ev1, evA, getA, look, slotOk, mcst, mvar, asB, mlst, mtup, mcons, mnil, mfn, mfnL, evN, evAs, getAs, mite, band, bor, bnot, mand, mor, mnot, mcall, iseq, irange1, irange2, sset, ssetO, sret, sdrop, snil, sif, gset, mmut, isL1, ssub, spar, evOs, setSls, slOf, sasg, gtup, gcons, gnil, mslice, osome, onone, mopL, mlensetA, misinst, mmt, kindD, saug, byes, i1, m]
              · generalize fsD Fs = FF
                generalize nsD N = NN
                generalize csD cs = CC
                generalize clD c = C
                unfold ce__law_due_1
                simp [mop, ev2, ev1, evA, getA, look, slotOk, mcst, mvar, asB, mlst, mtup, mcons, mnil, mfn, mfnL, evN, evAs, getAs, mite, band, bor, bnot, mand, mor, mnot, mcall, iseq, irange1, irange2, sset, ssetO, sret, sdrop, snil, sif, gset, mmut, isL1, ssub, spar, evOs, setSls, slOf, sasg, gtup, gcons, gnil, mslice, osome, onone, mopL, mlensetA, misinst, mmt, kindD, saug, byes]
            have l5 : len1 [csL (cs.filter fun c => !Fs.any (metB c))] = some (nD (cs.filter fun c => !Fs.any (metB c)).length) := by simp [csL, len1]
            have e5 : eqD (nD (cs.filter fun c => !Fs.any (metB c)).length) (.int 0) = some (.bl (cs.all fun c => Fs.any (metB c))) := by
              have e := eq_nat (cs.filter fun c => !Fs.any (metB c)).length 0
              have e2 : decide ((cs.filter fun c => !Fs.any (metB c)).length = 0) = cs.all fun c => Fs.any (metB c) := by
                rw [Bool.eq_iff_iff, decide_eq_true_eq, List.length_eq_zero_iff, List.filter_eq_nil_iff, List.all_eq_true]
                simp
              rw [e2] at e
              exact e
            have s1 := s1 t
            have s2 := s2 t
            have f1 := ff t
            have f2 := fg t
            generalize csL (cs.filter fun c => !Fs.any (metB c)) = W2 at c2 l5
            generalize (cs.filter fun c => !Fs.any (metB c)).length = k5 at l5 e5
            generalize (cs.map fun c => D.bl (Fs.any (metB c))) = W at c1 a1
            generalize (cs.all fun c => Fs.any (metB c)) = B at a1 e5 ⊢
            generalize fsD Fs = FF at *
            generalize D.tup [x, FF] = V at i0 i1 s1 s2 c1 c2 ⊢
            have u1 := u1 t V (nsD N) (csD cs) i0
            have u2 := u2 t V (nsD N) (csD cs) i0
            generalize nsD N = NN at f1 f2 s1 s2 c1 c2 u1 u2 ⊢
            generalize csD cs = CC at s1 s2 c1 c2 u1 u2 ⊢
            constructor
            · refine runFn_at (Z := tz) (e1 := [.sh NN, .sh CC, .sh V, .no]) [.sh NN, .sh CC, .sh V, .no] rfl (scons_nx (Z := tz) s1 (scons_nx (Z := tz) u1 (scons_nx (Z := tz) (e1 := [.sh NN, .sh CC, .sh V, .no]) (t1 := t) ?_ (sret_ev (Z := tz) ?_))))
              · obtain ⟨F1, hF1⟩ : ∃ z, z = f_are_families := ⟨_, rfl⟩
                rw [← hF1] at f1 ⊢
                clear hF1
                simp [mop, ev2, ev1, evA, getA, look, slotOk, mcst, mvar, asB, mlst, mtup, mcons, mnil, mfn, mfnL, evN, evAs, getAs, mite, band, bor, bnot, mand, mor, mnot, mcall, iseq, irange1, irange2, sset, ssetO, sret, sdrop, snil, sif, gset, mmut, isL1, ssub, spar, evOs, setSls, slOf, sasg, gtup, gcons, gnil, mslice, osome, onone, mopL, mlensetA, misinst, mmt, kindD, saug, byes, i0, i1, q3, f1]
              · obtain ⟨C1, hC1⟩ : ∃ z, z = c_accepts_grouping_1 := ⟨_, rfl⟩
                rw [← hC1] at c1 ⊢
                clear hC1
                simp [mop, ev2, ev1, evA, getA, look, slotOk, mcst, mvar, asB, mlst, mtup, mcons, mnil, mfn, mfnL, evN, evAs, getAs, mite, band, bor, bnot, mand, mor, mnot, mcall, iseq, irange1, irange2, sset, ssetO, sret, sdrop, snil, sif, gset, mmut, isL1, ssub, spar, evOs, setSls, slOf, sasg, gtup, gcons, gnil, mslice, osome, onone, mopL, mlensetA, misinst, mmt, kindD, saug, byes, c1, a1]
            · refine runFn_at (Z := tz) (e1 := [.sh NN, .sh CC, .sh V, .no]) [.sh NN, .sh CC, .sh V, .no] rfl (scons_nx (Z := tz) s2 (scons_nx (Z := tz) u2 (scons_nx (Z := tz) (e1 := [.sh NN, .sh CC, .sh V, .no]) (t1 := t) ?_ (sret_ev (Z := tz) ?_))))
              · obtain ⟨F1, hF1⟩ : ∃ z, z = f__law_are_families := ⟨_, rfl⟩
                rw [← hF1] at f2 ⊢
                clear hF1
                simp [mop, ev2, ev1, evA, getA, look, slotOk, mcst, mvar, asB, mlst, mtup, mcons, mnil, mfn, mfnL, evN, evAs, getAs, mite, band, bor, bnot, mand, mor, mnot, mcall, iseq, irange1, irange2, sset, ssetO, sret, sdrop, snil, sif, gset, mmut, isL1, ssub, spar, evOs, setSls, slOf, sasg, gtup, gcons, gnil, mslice, osome, onone, mopL, mlensetA, misinst, mmt, kindD, saug, byes, i0, i1, q3, f2]
              · obtain ⟨C1, hC1⟩ : ∃ z, z = c__law_due_1 := ⟨_, rfl⟩
                rw [← hC1] at c2 ⊢
                clear hC1
                simp [mop, ev2, ev1, evA, getA, look, slotOk, mcst, mvar, asB, mlst, mtup, mcons, mnil, mfn, mfnL, evN, evAs, getAs, mite, band, bor, bnot, mand, mor, mnot, mcall, iseq, irange1, irange2, sset, ssetO, sret, sdrop, snil, sif, gset, mmut, isL1, ssub, spar, evOs, setSls, slOf, sasg, gtup, gcons, gnil, mslice, osome, onone, mopL, mlensetA, misinst, mmt, kindD, saug, byes, c2, l5, e5]
        · refine ⟨false, ⟨fun z => (by cases z), ?_⟩, fun t => ?_⟩
          · rintro (⟨w, e, z⟩ | ⟨Fs', e, hh, z⟩)
            · simp at e; exact absurd e.1 nt
            · obtain ⟨e1, e2⟩ : x = .str "families" ∧ y = fsD Fs' := by simpa using e
              exact absurd ⟨q4.mpr e1, hbf.mpr (by rw [e2]; exact hh)⟩ go
          · have s1 := s1 t
            have s2 := s2 t
            have f1 := ff t
            have f2 := fg t
            generalize D.tup [x, y] = V at i0 i1 s1 s2 ⊢
            have u1 := u1 t V (nsD N) (csD cs) i0
            have u2 := u2 t V (nsD N) (csD cs) i0
            generalize nsD N = NN at f1 f2 s1 s2 u1 u2 ⊢
            generalize csD cs = CC at s1 s2 u1 u2 ⊢
            constructor
            · refine runFn_at (Z := tz) (e1 := [.sh NN, .sh CC, .sh V, .no]) [.sh NN, .sh CC, .sh V, .no] rfl (scons_nx (Z := tz) s1 (scons_nx (Z := tz) u1 (scons_rt (Z := tz) ?_)))
              obtain ⟨F1, hF1⟩ : ∃ z, z = f_are_families := ⟨_, rfl⟩
              rw [← hF1] at f1 ⊢
              clear hF1
              cases b2 with
              | false => simp [mop, ev2, ev1, evA, getA, look, slotOk, mcst, mvar, asB, mlst, mtup, mcons, mnil, mfn, mfnL, evN, evAs, getAs, mite, band, bor, bnot, mand, mor, mnot, mcall, iseq, irange1, irange2, sset, ssetO, sret, sdrop, snil, sif, gset, mmut, isL1, ssub, spar, evOs, setSls, slOf, sasg, gtup, gcons, gnil, mslice, osome, onone, mopL, mlensetA, misinst, mmt, kindD, saug, byes, i0, i1, q3, f1]
              | true =>
                have : bg = false := by cases bg <;> simp_all
                subst this
                simp [mop, ev2, ev1, evA, getA, look, slotOk, mcst, mvar, asB, mlst, mtup, mcons, mnil, mfn, mfnL, evN, evAs, getAs, mite, band, bor, bnot, mand, mor, mnot, mcall, iseq, irange1, irange2, sset, ssetO, sret, sdrop, snil, sif, gset, mmut, isL1, ssub, spar, evOs, setSls, slOf, sasg, gtup, gcons, gnil, mslice, osome, onone, mopL, mlensetA, misinst, mmt, kindD, saug, byes, i0, i1, q3, f1]
            · refine runFn_at (Z := tz) (e1 := [.sh NN, .sh CC, .sh V, .no]) [.sh NN, .sh CC, .sh V, .no] rfl (scons_nx (Z := tz) s2 (scons_nx (Z := tz) u2 (scons_rt (Z := tz) ?_)))
              obtain ⟨F1, hF1⟩ : ∃ z, z = f__law_are_families := ⟨_, rfl⟩
              rw [← hF1] at f2 ⊢
              clear hF1
              cases b2 with
              | false => simp [mop, ev2, ev1, evA, getA, look, slotOk, mcst, mvar, asB, mlst, mtup, mcons, mnil, mfn, mfnL, evN, evAs, getAs, mite, band, bor, bnot, mand, mor, mnot, mcall, iseq, irange1, irange2, sset, ssetO, sret, sdrop, snil, sif, gset, mmut, isL1, ssub, spar, evOs, setSls, slOf, sasg, gtup, gcons, gnil, mslice, osome, onone, mopL, mlensetA, misinst, mmt, kindD, saug, byes, i0, i1, q3, f2]
              | true =>
                have : bg = false := by cases bg <;> simp_all
                subst this
                simp [mop, ev2, ev1, evA, getA, look, slotOk, mcst, mvar, asB, mlst, mtup, mcons, mnil, mfn, mfnL, evN, evAs, getAs, mite, band, bor, bnot, mand, mor, mnot, mcall, iseq, irange1, irange2, sset, ssetO, sret, sdrop, snil, sif, gset, mmut, isL1, ssub, spar, evOs, setSls, slOf, sasg, gtup, gcons, gnil, mslice, osome, onone, mopL, mlensetA, misinst, mmt, kindD, saug, byes, i0, i1, q3, f2]
    · rw [decide_eq_false l2] at ne2
      refine ⟨false, ⟨fun z => (by cases z), ?_⟩, fun t => ?_⟩
      · rintro (⟨w, e, z⟩ | ⟨Fs', e, hh, z⟩)
        · rw [D.tup.injEq] at e; rw [e] at l2; exact absurd rfl l2
        · rw [D.tup.injEq] at e; rw [e] at l2; exact absurd rfl l2
      · have nn := nn t
        have ac := ac t
        generalize ds.length = k at l1 ne2
        generalize D.tup ds = V at i l1 ⊢
        generalize nsD N = NN at nn ac ⊢
        generalize csD cs = CC at ac ⊢
        constructor
        · refine runFn_at (Z := tz) (e1 := [.sh NN, .sh CC, .sh V, .no]) [.sh NN, .sh CC, .sh V, .no] rfl (scons_rt (Z := tz) ?_)
          obtain ⟨F1, hF1⟩ : ∃ z, z = f_is_names := ⟨_, rfl⟩
          rw [← hF1] at nn ⊢
          clear hF1
          obtain ⟨F2, hF2⟩ : ∃ z, z = f_are_claims := ⟨_, rfl⟩
          rw [← hF2] at ac ⊢
          clear hF2
          simp [mop, ev2, ev1, evA, getA, look, slotOk, mcst, mvar, asB, mlst, mtup, mcons, mnil, mfn, mfnL, evN, evAs, getAs, mite, band, bor, bnot, mand, mor, mnot, mcall, iseq, irange1, irange2, sset, ssetO, sret, sdrop, snil, sif, gset, mmut, isL1, ssub, spar, evOs, setSls, slOf, sasg, gtup, gcons, gnil, mslice, osome, onone, mopL, mlensetA, misinst, mmt, kindD, saug, byes, nn, ac, i, l1, ne2]
        · refine runFn_at (Z := tz) (e1 := [.sh NN, .sh CC, .sh V, .no]) [.sh NN, .sh CC, .sh V, .no] rfl (scons_rt (Z := tz) ?_)
          simp [mop, ev2, ev1, evA, getA, look, slotOk, mcst, mvar, asB, mlst, mtup, mcons, mnil, mfn, mfnL, evN, evAs, getAs, mite, band, bor, bnot, mand, mor, mnot, mcall, iseq, irange1, irange2, sset, ssetO, sret, sdrop, snil, sif, gset, mmut, isL1, ssub, spar, evOs, setSls, slOf, sasg, gtup, gcons, gnil, mslice, osome, onone, mopL, mlensetA, misinst, mmt, kindD, saug, byes, i, l1, ne2]
  · have i : isinstD "tuple" v = some false := isT_no h.noTape fun ds e => ht ⟨ds, e⟩
    refine ⟨false, ⟨fun z => (by cases z), ?_⟩, fun t => ?_⟩
    · rintro (⟨w, e, z⟩ | ⟨Fs', e, hh, z⟩)
      · exact absurd ⟨_, e⟩ ht
      · exact absurd ⟨_, e⟩ ht
    · have nn := nn t
      have ac := ac t
      generalize nsD N = NN at nn ac ⊢
      generalize csD cs = CC at ac ⊢
      constructor
      · refine runFn_at (Z := tz) (e1 := [.sh NN, .sh CC, .sh v, .no]) [.sh NN, .sh CC, .sh v, .no] rfl (scons_rt (Z := tz) ?_)
        obtain ⟨F1, hF1⟩ : ∃ z, z = f_is_names := ⟨_, rfl⟩
        rw [← hF1] at nn ⊢
        clear hF1
        obtain ⟨F2, hF2⟩ : ∃ z, z = f_are_claims := ⟨_, rfl⟩
        rw [← hF2] at ac ⊢
        clear hF2
        simp [mop, ev2, ev1, evA, getA, look, slotOk, mcst, mvar, asB, mlst, mtup, mcons, mnil, mfn, mfnL, evN, evAs, getAs, mite, band, bor, bnot, mand, mor, mnot, mcall, iseq, irange1, irange2, sset, ssetO, sret, sdrop, snil, sif, gset, mmut, isL1, ssub, spar, evOs, setSls, slOf, sasg, gtup, gcons, gnil, mslice, osome, onone, mopL, mlensetA, misinst, mmt, kindD, saug, byes, nn, ac, i]
      · refine runFn_at (Z := tz) (e1 := [.sh NN, .sh CC, .sh v, .no]) [.sh NN, .sh CC, .sh v, .no] rfl (scons_rt (Z := tz) ?_)
        simp [mop, ev2, ev1, evA, getA, look, slotOk, mcst, mvar, asB, mlst, mtup, mcons, mnil, mfn, mfnL, evN, evAs, getAs, mite, band, bor, bnot, mand, mor, mnot, mcall, iseq, irange1, irange2, sset, ssetO, sret, sdrop, snil, sif, gset, mmut, isL1, ssub, spar, evOs, setSls, slOf, sasg, gtup, gcons, gnil, mslice, osome, onone, mopL, mlensetA, misinst, mmt, kindD, saug, byes, i]
end K29

namespace K29
open PySem L2 DL

theorem take_ex (n : Nat) (h0 : 0 < n) (h1 : n < 1073741824) (t : Tp) : ∃ (r : Nat) (t' : Tp), f__law_take [.tape, nD n] t = some (nD r, t') ∧ r < n := by
  have e := takeF_eq (n := (n : Int)) (t := t) (by omega)
  obtain ⟨a, b⟩ := tkR_lt (t := t) (n := (n : Int)) (by omega)
  refine ⟨(tkR t n).toNat, tkT t n, ?_, by omega⟩
  have z : ((tkR t n).toNat : Int) = tkR t n := by omega
  rw [show f__law_take = takeF from rfl, e, nD, z]
theorem pick_any (v : D) (ds : List D) (hv : v = .lst ds ∨ v = .tup ds) (h0 : 0 < ds.length) (h1 : ds.length < 1073741824) (t : Tp) : ∃ (d : D) (t' : Tp), f__law_pick [.tape, v] t = some (d, t') ∧ d ∈ ds := by
  obtain ⟨r, t', e, hr⟩ := take_ex ds.length h0 h1 t
  refine ⟨ds[r], t', ?_, List.getElem_mem hr⟩
  have i : idxD v (nD r) = some ds[r] := by rcases hv with rfl | rfl; rw [idx_lst, List.getElem?_eq_getElem hr]; rw [idx_tup, List.getElem?_eq_getElem hr]
  generalize ds[r] = y at i ⊢
  have l : len1 [v] = some (nD ds.length) := by rcases hv with rfl | rfl <;> rfl
  refine runFn_at (Z := tz) (e1 := [.sh .tape, .sh v]) [.sh .tape, .sh v] rfl ?_
  unfold m__law_pick
  generalize ds.length = len at e l
  obtain ⟨F, hF⟩ : ∃ z, z = f__law_take := ⟨_, rfl⟩
  rw [← hF] at e ⊢
  clear hF
  simp [mop, ev2, ev1, evA, getA, look, slotOk, mcst, mvar, asB, mlst, mtup, mcons, mnil, mfn, mfnL, evN, evAs, getAs, mite, band, bor, bnot, mand, mor, mnot, mcall, iseq, irange1, irange2, sset, ssetO, sret, sdrop, snil, sif, gset, mmut, isL1, ssub, spar, evOs, setSls, slOf, sasg, gtup, gcons, gnil, mslice, osome, onone, mopL, mlensetA, misinst, mmt, kindD, saug, byes, e, i, l]
/-! ### a claim -/
theorem erase_map {α β : Type} (f : α → β) : ∀ (l : List α) (r : Nat), (l.map f).eraseIdx r = (l.eraseIdx r).map f
  | [], r => by simp
  | a :: l, 0 => by simp
  | a :: l, r + 1 => by simp [erase_map f l r]
theorem nodup_inj {α : Type} {l : List α} (h : l.Nodup) {i j : Nat} {hi : i < l.length} {hj : j < l.length} (e : l[i] = l[j]) : i = j := by
  rcases Nat.lt_trichotomy i j with c | c | c
  · exact absurd e (List.pairwise_iff_getElem.mp h i j hi hj c)
  · exact c
  · exact absurd e.symm (List.pairwise_iff_getElem.mp h j i hj hi c)
theorem pop_at (xs : List Str) (r : Nat) (h : r < xs.length) (h2 : xs.length ≤ 1000) : uPopAt [nD r] (xs.map .str) = some (.str xs[r], (xs.eraseIdx r).map .str) := by
  have i : ixN (xs.map D.str).length (r : Int) = some r := by
    rw [List.length_map]
    unfold ixN
    simp [h]
  have b : -(2 ^ 63) ≤ (r : Int) ∧ (r : Int) < 2 ^ 63 := by omega
  have g : (xs.map D.str)[r]? = some (.str xs[r]) := by simp [h]
  simp only [uPopAt, i, b, g, and_self, if_true]
  rw [erase_map]
theorem claim_st (NN k : D) (W W' : List D) (n r : Nat) (x : Str) (t t' : Tp) (a : len1 [.lst W] = some (nD n)) (b : f__law_take [.tape, nD n] t = some (nD r, t')) (c : uPopAt [nD r] W = some (.str x, W')) :
    ce__law_claim_1 [.sh .tape, .sh NN, .ow 1 (.lst W), .sh k] t = some (.str x, [.sh .tape, .sh NN, .ow 1 (.lst W'), .sh k], t') := by
  unfold ce__law_claim_1
  obtain ⟨F, hF⟩ : ∃ z, z = f__law_take := ⟨_, rfl⟩
  rw [← hF] at b ⊢
  clear hF
  generalize nD n = k1 at a b
  generalize nD r = k2 at b c
  simp [mop, ev2, ev1, evA, getA, look, slotOk, mcst, mvar, asB, mlst, mtup, mcons, mnil, mfn, mfnL, evN, evAs, getAs, mite, band, bor, bnot, mand, mor, mnot, mcall, iseq, irange1, irange2, sset, ssetO, sret, sdrop, snil, sif, gset, mmut, isL1, ssub, spar, evOs, setSls, slOf, sasg, gtup, gcons, gnil, mslice, osome, onone, mopL, mlensetA, misinst, mmt, kindD, saug, byes, a, b, c]
theorem claim_src (NN : D) (W0 : List D) (t : Tp) : irange1 (Z := tz) (mcons (mcst (.int 3)) mnil) [.sh .tape, .sh NN, .ow 1 (.lst W0), .no] t = some ([.int 0, .int 1, .int 2], [.sh .tape, .sh NN, .ow 1 (.lst W0), .no], t) := by
  have e : rangeD 0 3 = [.int 0, .int 1, .int 2] := rfl
  simp [mop, ev2, ev1, evA, getA, look, slotOk, mcst, mvar, asB, mlst, mtup, mcons, mnil, mfn, mfnL, evN, evAs, getAs, mite, band, bor, bnot, mand, mor, mnot, mcall, iseq, irange1, irange2, sset, ssetO, sret, sdrop, snil, sif, gset, mmut, isL1, ssub, spar, evOs, setSls, slOf, sasg, gtup, gcons, gnil, mslice, osome, onone, mopL, mlensetA, misinst, mmt, kindD, saug, byes, e]
theorem claim_lc (CE : M tz) (NN : D) (W0 W1 W2 W3 : List D) (x0 x1 x2 : D) (t t0 t1 t2 : Tp)
    (s0 : CE [.sh .tape, .sh NN, .ow 1 (.lst W0), .sh (.int 0)] t = some (x0, [.sh .tape, .sh NN, .ow 1 (.lst W1), .sh (.int 0)], t0))
    (s1 : CE [.sh .tape, .sh NN, .ow 1 (.lst W1), .sh (.int 1)] t0 = some (x1, [.sh .tape, .sh NN, .ow 1 (.lst W2), .sh (.int 1)], t1))
    (s2 : CE [.sh .tape, .sh NN, .ow 1 (.lst W2), .sh (.int 2)] t1 = some (x2, [.sh .tape, .sh NN, .ow 1 (.lst W3), .sh (.int 2)], t2)) :
    mlc [3] (irange1 (mcons (mcst (.int 3)) mnil)) (gset 3) byes CE [.sh .tape, .sh NN, .ow 1 (.lst W0), .no] t = some (.lst [x0, x1, x2], [.sh .tape, .sh NN, .ow 1 (.lst W3), .no], t2) := by
  unfold mlc
  rw [claim_src]
  have ok : (ownOk [.sh .tape, .sh NN, .ow 1 (.lst W0), .no] [3] && decide (([.int 0, .int 1, .int 2] : List D).length ≤ sizeLine)) = true := by
    have : (([.int 0, .int 1, .int 2] : List D).length ≤ sizeLine) := by decide
    rw [decide_eq_true this]; rfl
  simp only [ok, if_true]
  simp [lcL, wipeE, gset, byes, s0, s1, s2, restE]
theorem claim_end (NN L CL : D) (W W3 : List D) (t t2 : Tp) (li : list1 [NN] = some W) (tu : tuple1 [L] = some CL)
    (c : c__law_claim_1 [.sh .tape, .sh NN, .ow 1 (.lst W), .no] t = some (L, [.sh .tape, .sh NN, .ow 1 (.lst W3), .no], t2)) : f__law_claim [.tape, NN] t = some (CL, t2) := by
  refine runFn_at (Z := tz) (e1 := [.sh .tape, .sh NN, .ow 1 (.lst W3), .no]) [.sh .tape, .sh NN, .no, .no] rfl (scons_nx (Z := tz) (e1 := [.sh .tape, .sh NN, .ow 1 (.lst W), .no]) (t1 := t) ?_ (sret_ev (Z := tz) ?_))
  · simp [mop, ev2, ev1, evA, getA, look, slotOk, mcst, mvar, asB, mlst, mtup, mcons, mnil, mfn, mfnL, evN, evAs, getAs, mite, band, bor, bnot, mand, mor, mnot, mcall, iseq, irange1, irange2, sset, ssetO, sret, sdrop, snil, sif, gset, mmut, isL1, ssub, spar, evOs, setSls, slOf, sasg, gtup, gcons, gnil, mslice, osome, onone, mopL, mlensetA, misinst, mmt, kindD, saug, byes, li]
  · obtain ⟨C, hC⟩ : ∃ z, z = c__law_claim_1 := ⟨_, rfl⟩
    rw [← hC] at c ⊢
    clear hC
    simp [mop, ev2, ev1, evA, getA, look, slotOk, mcst, mvar, asB, mlst, mtup, mcons, mnil, mfn, mfnL, evN, evAs, getAs, mite, band, bor, bnot, mand, mor, mnot, mcall, iseq, irange1, irange2, sset, ssetO, sret, sdrop, snil, sif, gset, mmut, isL1, ssub, spar, evOs, setSls, slOf, sasg, gtup, gcons, gnil, mslice, osome, onone, mopL, mlensetA, misinst, mmt, kindD, saug, byes, c, tu]
theorem claim_run {N : List Str} (hN : Nms N) (h3 : 3 ≤ N.length) (t : Tp) : ∃ c t', ClOk N c ∧ f__law_claim [.tape, nsD N] t = some (clD c, t') := by
  have h7 := hN.len
  obtain ⟨r0, t0, e0, l0⟩ := take_ex N.length (by omega) (by omega) t
  obtain ⟨N1, hN1⟩ : ∃ M, M = N.eraseIdx r0 := ⟨_, rfl⟩
  have n1 : N1.length = N.length - 1 := by rw [hN1, List.length_eraseIdx_of_lt l0]
  obtain ⟨r1, t1, e1, l1⟩ := take_ex N1.length (by omega) (by omega) t0
  obtain ⟨N2, hN2⟩ : ∃ M, M = N1.eraseIdx r1 := ⟨_, rfl⟩
  have n2 : N2.length = N1.length - 1 := by rw [hN2, List.length_eraseIdx_of_lt l1]
  obtain ⟨r2, t2, e2, l2⟩ := take_ex N2.length (by omega) (by omega) t1
  have s1 : N1.Sublist N := by rw [hN1]; exact List.eraseIdx_sublist ..
  have s2 : N2.Sublist N1 := by rw [hN2]; exact List.eraseIdx_sublist ..
  have d1 : N[r0] ∉ N1 := by
    rw [hN1]
    intro z
    obtain ⟨j, hj, e⟩ := List.mem_iff_getElem.mp z
    rw [List.getElem_eraseIdx] at e
    split at e
    · have := nodup_inj hN.nd e; omega
    · have := nodup_inj hN.nd e; omega
  have nd1 : N1.Nodup := s1.nodup hN.nd
  have d2 : N1[r1] ∉ N2 := by
    rw [hN2]
    intro z
    obtain ⟨j, hj, e⟩ := List.mem_iff_getElem.mp z
    rw [List.getElem_eraseIdx] at e
    split at e
    · have := nodup_inj nd1 e; omega
    · have := nodup_inj nd1 e; omega
  have p0 := pop_at N r0 l0 (by omega)
  have p1 := pop_at N1 r1 l1 (by omega)
  have p2 := pop_at N2 r2 l2 (by omega)
  rw [← hN1] at p0
  rw [← hN2] at p1
  refine ⟨(N[r0], N1[r1], N2[r2]), t2, ⟨⟨List.getElem_mem _, s1.subset (List.getElem_mem _), s1.subset (s2.subset (List.getElem_mem _))⟩, fun z => d1 (by show N[r0] ∈ N1; rw [show N[r0] = N1[r1] from z]; exact List.getElem_mem _), fun z => d1 (by show N[r0] ∈ N1; rw [show N[r0] = N2[r2] from z]; exact s2.subset (List.getElem_mem _)), fun z => d2 (by show N1[r1] ∈ N2; rw [show N1[r1] = N2[r2] from z]; exact List.getElem_mem _)⟩, ?_⟩
  have q0 : len1 [.lst (N.map .str)] = some (nD N.length) := by simp [len1]
  have q1 : len1 [.lst (N1.map .str)] = some (nD N1.length) := by simp [len1]
  have q2 : len1 [.lst (N2.map .str)] = some (nD N2.length) := by simp [len1]
  have c : c__law_claim_1 [.sh .tape, .sh (nsD N), .ow 1 (.lst (N.map .str)), .no] t = some (.lst [.str N[r0], .str N1[r1], .str N2[r2]], [.sh .tape, .sh (nsD N), .ow 1 (.lst ((N2.eraseIdx r2).map .str)), .no], t2) :=
    claim_lc ce__law_claim_1 (nsD N) _ _ _ _ _ _ _ t t0 t1 t2 (claim_st _ _ _ _ _ _ _ _ _ q0 e0 p0) (claim_st _ _ _ _ _ _ _ _ _ q1 e1 p1) (claim_st _ _ _ _ _ _ _ _ _ q2 e2 p2)
  clear e0 e1 e2
  exact claim_end _ _ _ _ _ _ _ rfl rfl c
/-! ### made -/
theorem cross_no {F G : List Str} (h : Lam F G) (hG : G.Nodup) : crossB F G = false := by
  have := h.nocross hG
  cases q : crossB F G with
  | false => rfl
  | true =>
    simp only [crossB, Bool.and_eq_true, decide_eq_true_eq] at q
    exact absurd ⟨q.1, q.2.1, q.2.2⟩ this
theorem met_any {Fs : List (List Str)} {c : Cl} (h : Met Fs c) : Fs.any (metB c) = true := by
  obtain ⟨F, hF, h1, h2, h3⟩ := h
  exact List.any_eq_true.mpr ⟨F, hF, by simp [metB, h1, h2, h3]⟩
def mE (NN CC : D) (fams ws : List (List Str)) (a b c d : Sl) : List Sl := [.sh NN, .sh CC, .ow 1 (.lst (fams.map nsD)), .ow 1 (.lst (ws.map nsD)), a, b, c, d]
theorem ap_ns (xs : List (List Str)) (x : List Str) (h : xs.length ≤ 1000) : uAppend [nsD x] (xs.map nsD) = some (.non, (xs ++ [x]).map nsD) := by
  have sl : (xs.map nsD).length < sizeLine := by
    rw [List.length_map]
    exact Nat.lt_of_le_of_lt h (by decide)
  simp only [uAppend, sl, if_true]
  rw [List.map_append]; rfl
abbrev bigs (P : List (List Str)) : List (List Str) := P.filter fun p => decide (1 < p.length)
theorem made_loop (NN CC : D) (P : List (List Str)) : ∀ (fams ws : List (List Str)) (a b d : Sl) (t : Tp), fams.length + P.length ≤ 900 → ws.length + P.length ≤ 900 →
    ∃ d', l__law_made_1 (mE NN CC fams ws a b (.sh (.lst (P.map lsD))) d) t = some (.nx, mE NN CC (fams ++ bigs P) (ws ++ bigs P) a b (.sh (.lst (P.map lsD))) d', t) := by
  intro fams ws a b d t h1 h2
  obtain ⟨e', t', l1, hinv⟩ := forL_nx (Z := tz) (g := gset 7) (b := lb__law_made_1) (ds := P.map lsD) (e := mE NN CC fams ws a b (.sh (.lst (P.map lsD))) d) (t := t)
    (fun i e t1 => t1 = t ∧ ∃ d', e = mE NN CC (fams ++ bigs (P.take i)) (ws ++ bigs (P.take i)) a b (.sh (.lst (P.map lsD))) d') ⟨rfl, d, by simp [bigs]⟩ fun i d e t1 hd hi => by
      obtain ⟨rfl, d', rfl⟩ := hi
      rw [List.getElem?_map] at hd
      cases z : P[i]? with
      | none => rw [z] at hd; simp at hd
      | some p =>
        rw [z] at hd
        simp at hd
        subst hd
        refine ⟨mE NN CC (fams ++ bigs (P.take i)) (ws ++ bigs (P.take i)) a b (.sh (.lst (P.map lsD))) (.sh (lsD p)), rfl, .nx, mE NN CC (fams ++ bigs (P.take (i + 1))) (ws ++ bigs (P.take (i + 1))) a b (.sh (.lst (P.map lsD))) (.sh (lsD p)), t1, ?_, .inl rfl, rfl, _, rfl⟩
        have le : (bigs (P.take i)).length ≤ P.length := Nat.le_trans (List.length_filter_le _ _) (by rw [List.length_take]; omega)
        rw [take_one z]
        have e : bigs (P.take i ++ [p]) = bigs (P.take i) ++ (if 1 < p.length then [p] else []) := by
          unfold bigs
          rw [List.filter_append]
          congr 1
          by_cases q : 1 < p.length
          · simp [q]
          · simp [q]
        rw [e]
        generalize bigs (P.take i) = Q at le ⊢
        have l : len1 [lsD p] = some (nD p.length) := by simp [lsD, len1]
        have g := gt1 p.length
        have tu : tuple1 [lsD p] = some (nsD p) := rfl
        have a1 := ap_ns (fams ++ Q) p (by rw [List.length_append]; omega)
        have a2 := ap_ns (ws ++ Q) p (by rw [List.length_append]; omega)
        unfold mE
        by_cases q : 1 < p.length
        · rw [decide_eq_true q] at g
          rw [if_pos q, ← List.append_assoc, ← List.append_assoc]
          generalize (fams ++ Q ++ [p]).map nsD = A1 at a1 ⊢
          generalize (ws ++ Q ++ [p]).map nsD = A2 at a2 ⊢
          generalize (fams ++ Q).map nsD = B1 at a1 ⊢
          generalize (ws ++ Q).map nsD = B2 at a2 ⊢
          generalize P.map lsD = PP
          generalize nsD p = NP at tu a1 a2
          generalize lsD p = LP at l tu ⊢
          generalize nD p.length = k at l g
          unfold lb__law_made_1
          simp [mop, ev2, ev1, evA, getA, look, slotOk, mcst, mvar, asB, mlst, mtup, mcons, mnil, mfn, mfnL, evN, evAs, getAs, mite, band, bor, bnot, mand, mor, mnot, mcall, iseq, irange1, irange2, sset, ssetO, sret, sdrop, snil, sif, gset, mmut, isL1, ssub, spar, evOs, setSls, slOf, sasg, gtup, gcons, gnil, mslice, osome, onone, mopL, mlensetA, misinst, mmt, kindD, saug, byes, scons, l, g, tu, a1, a2]
        · rw [decide_eq_false q] at g
          rw [if_neg q, List.append_nil]
          generalize (fams ++ Q).map nsD = B1
          generalize (ws ++ Q).map nsD = B2
          generalize P.map lsD = PP
          generalize lsD p = LP at l ⊢
          generalize nD p.length = k at l g
          unfold lb__law_made_1
          simp [mop, ev2, ev1, evA, getA, look, slotOk, mcst, mvar, asB, mlst, mtup, mcons, mnil, mfn, mfnL, evN, evAs, getAs, mite, band, bor, bnot, mand, mor, mnot, mcall, iseq, irange1, irange2, sset, ssetO, sret, sdrop, snil, sif, gset, mmut, isL1, ssub, spar, evOs, setSls, slOf, sasg, gtup, gcons, gnil, mslice, osome, onone, mopL, mlensetA, misinst, mmt, kindD, saug, byes, scons, l, g]
  obtain ⟨rfl, d', rfl⟩ := hinv
  rw [List.length_map, List.take_length] at l1
  refine ⟨d', ?_⟩
  unfold l__law_made_1
  refine sfor_nx (Z := tz) (e1 := mE NN CC fams ws a b (.sh (.lst (P.map lsD))) d) (t1 := t') (ds := P.map lsD) ?_ l1
  generalize P.map lsD = PP
  unfold mE
  generalize fams.map nsD = B1
  generalize ws.map nsD = B2
  simp [mop, ev2, ev1, evA, getA, look, slotOk, mcst, mvar, asB, mlst, mtup, mcons, mnil, mfn, mfnL, evN, evAs, getAs, mite, band, bor, bnot, mand, mor, mnot, mcall, iseq, irange1, irange2, sset, ssetO, sret, sdrop, snil, sif, gset, mmut, isL1, ssub, spar, evOs, setSls, slOf, sasg, gtup, gcons, gnil, mslice, osome, onone, mopL, mlensetA, misinst, mmt, kindD, saug, byes]
structure Made (N : List Str) (cs : List Cl) (v : D) : Prop where
  due : DueP N cs v
  sh : (∃ W, v = .tup [.str "tied", nsD W] ∧ Lot N W) ∨ ∃ Fs, v = .tup [.str "families", fsD Fs] ∧ (∀ F ∈ Fs, Lot N F) ∧ Fs.length ≤ 12
theorem made_run {N : List Str} (hN : Nms N) (h3 : 3 ≤ N.length) {cs : List Cl} (hc : ∀ c ∈ cs, ClOk N c) (hz : cs.length ≤ 1000) (t : Tp) : ∃ v, Made N cs v ∧ f__law_made [nsD N, csD cs] t = some (v, t) := by
  have h7 := hN.len
  obtain ⟨fl, e', t', l1, hh⟩ := forL_brk (Z := tz) (g := gset 4) (b := lb__law_made_2) (ds := (List.range 100).map nD) (e := mE (nsD N) (csD cs) [] [N] .no .no .no .no) (t := t)
    (fun i e t1 => t1 = t ∧ ∃ fams ws a b c d, MInv N cs i fams ws ∧ e = mE (nsD N) (csD cs) fams ws a b c d)
    (fun e t1 => t1 = t ∧ ∃ i fams a b c d, MInv N cs i fams [] ∧ e = mE (nsD N) (csD cs) fams [] a b c d)
    (fun r t1 => t1 = t ∧ Made N cs r)
    ⟨rfl, [], [N], .no, .no, .no, .no, made_start (by omega) (fun c h => (hc c h).i), rfl⟩ fun i d e t1 hd hi => by
      obtain ⟨rfl, fams, ws, a, b, c, d', hi, rfl⟩ := hi
      refine ⟨mE (nsD N) (csD cs) fams ws (.sh d) b c d', rfl, ?_⟩
      rcases List.eq_nil_or_concat ws with rfl | ⟨ws, W, rfl⟩
      · refine ⟨.bk, mE (nsD N) (csD cs) fams [] (.sh d) b c d', t1, ?_, .inr (.inl ⟨rfl, rfl, i, fams, _, _, _, _, hi, rfl⟩)⟩
        unfold mE lb__law_made_2
        have l : len1 [.lst (([] : List (List Str)).map nsD)] = some (nD 0) := rfl
        have e0 : eqD (nD 0) (.int 0) = some (.bl true) := rfl
        generalize nD 0 = z at l e0
        generalize ([] : List (List Str)).map nsD = LL at l ⊢
        generalize fams.map nsD = FF
        generalize nsD N = NN
        generalize csD cs = CC
        simp [mop, ev2, ev1, evA, getA, look, slotOk, mcst, mvar, asB, mlst, mtup, mcons, mnil, mfn, mfnL, evN, evAs, getAs, mite, band, bor, bnot, mand, mor, mnot, mcall, iseq, irange1, irange2, sset, ssetO, sret, sdrop, snil, sif, gset, mmut, isL1, ssub, spar, evOs, setSls, slOf, sasg, gtup, gcons, gnil, mslice, osome, onone, mopL, mlensetA, misinst, mmt, kindD, saug, byes, scons, l, e0, sfl]
      · rw [List.concat_eq_append] at hi ⊢
        have hW := hi.lw W (by simp)
        have pw := law_parts_run hN.okS (hW.1.okS hN) (by have := hW.1.len; omega) (fun c h => (hc c h).i) hz t1
        have ok := partsOf_ok (ps := prs cs W) (lot := W) prs_in
        have su := pot_parts fun p hp => (ok.part p hp).1
        rw [ok.sum] at su
        have cnt := hi.cnt
        have wl := hW.1.len
        have l0 : len1 [.lst ((ws ++ [W]).map nsD)] = some (nD (ws.length + 1)) := by simp [len1]
        have e0 : eqD (nD (ws.length + 1)) (.int 0) = some (.bl false) := by
          have := eq_nat (ws.length + 1) 0
          rw [decide_eq_false (by omega)] at this
          exact this
        have po : uPop [] ((ws ++ [W]).map nsD) = some (nsD W, ws.map nsD) := by
          have g : ((ws ++ [W]).map nsD)[((ws ++ [W]).map nsD).length - 1]? = some (nsD W) := by simp
          simp only [uPop, g]
          simp
        have l2 : len1 [.lst ((partsOf (prs cs W) W).map lsD)] = some (nD (partsOf (prs cs W) W).length) := by simp [len1]
        have l3 : len1 [nsD W] = some (nD W.length) := by simp [nsD, len1]
        have e2 := eq_nat (partsOf (prs cs W) W).length 1
        have g3 := gt1 W.length
        rw [decide_eq_true hW.2] at g3
        have s1 : sif (Z := tz) (asB (mop eqD (.e (mfn len1 [(.v 3)])) (.e (mcst (.int 0))))) (sfl .bk) snil (mE (nsD N) (csD cs) fams (ws ++ [W]) (.sh d) b c d') t1 = some (.nx, mE (nsD N) (csD cs) fams (ws ++ [W]) (.sh d) b c d', t1) := by
          unfold mE
          generalize (ws ++ [W]).map nsD = LL at l0 ⊢
          generalize fams.map nsD = FF
          generalize nsD N = NN
          generalize csD cs = CC
          generalize nD (ws.length + 1) = k at l0 e0
          simp [mop, ev2, ev1, evA, getA, look, slotOk, mcst, mvar, asB, mlst, mtup, mcons, mnil, mfn, mfnL, evN, evAs, getAs, mite, band, bor, bnot, mand, mor, mnot, mcall, iseq, irange1, irange2, sset, ssetO, sret, sdrop, snil, sif, gset, mmut, isL1, ssub, spar, evOs, setSls, slOf, sasg, gtup, gcons, gnil, mslice, osome, onone, mopL, mlensetA, misinst, mmt, kindD, saug, byes, l0, e0]
        have s2 : sset (Z := tz) 5 (mmut 3 uPop mnil) (mE (nsD N) (csD cs) fams (ws ++ [W]) (.sh d) b c d') t1 = some (.nx, mE (nsD N) (csD cs) fams ws (.sh d) (.sh (nsD W)) c d', t1) := by
          unfold mE
          generalize (ws ++ [W]).map nsD = LL at po ⊢
          generalize ws.map nsD = L2 at po ⊢
          generalize fams.map nsD = FF
          generalize nsD N = NN
          generalize csD cs = CC
          generalize nsD W = WW at po ⊢
          simp [mop, ev2, ev1, evA, getA, look, slotOk, mcst, mvar, asB, mlst, mtup, mcons, mnil, mfn, mfnL, evN, evAs, getAs, mite, band, bor, bnot, mand, mor, mnot, mcall, iseq, irange1, irange2, sset, ssetO, sret, sdrop, snil, sif, gset, mmut, isL1, ssub, spar, evOs, setSls, slOf, sasg, gtup, gcons, gnil, mslice, osome, onone, mopL, mlensetA, misinst, mmt, kindD, saug, byes, po]
        have s3 : sset (Z := tz) 6 (mcall 2 f__law_parts (mcons (mvar 1) (mcons (mvar 5) mnil))) (mE (nsD N) (csD cs) fams ws (.sh d) (.sh (nsD W)) c d') t1 = some (.nx, mE (nsD N) (csD cs) fams ws (.sh d) (.sh (nsD W)) (.sh (.lst ((partsOf (prs cs W) W).map lsD))) d', t1) := by
          unfold mE
          generalize ws.map nsD = L2
          generalize fams.map nsD = FF
          generalize nsD N = NN
          generalize csD cs = CC at pw ⊢
          generalize nsD W = WW at pw ⊢
          generalize (partsOf (prs cs W) W).map lsD = PP at pw ⊢
          obtain ⟨F, hF⟩ : ∃ z, z = f__law_parts := ⟨_, rfl⟩
          rw [← hF] at pw ⊢
          clear hF
          simp [mop, ev2, ev1, evA, getA, look, slotOk, mcst, mvar, asB, mlst, mtup, mcons, mnil, mfn, mfnL, evN, evAs, getAs, mite, band, bor, bnot, mand, mor, mnot, mcall, iseq, irange1, irange2, sset, ssetO, sret, sdrop, snil, sif, gset, mmut, isL1, ssub, spar, evOs, setSls, slOf, sasg, gtup, gcons, gnil, mslice, osome, onone, mopL, mlensetA, misinst, mmt, kindD, saug, byes, pw]
        by_cases one : (partsOf (prs cs W) W).length = 1
        · refine ⟨.rt (.tup [.str "tied", nsD W]), mE (nsD N) (csD cs) fams ws (.sh d) (.sh (nsD W)) (.sh (.lst ((partsOf (prs cs W) W).map lsD))) d', t1, ?_, .inr (.inr ⟨_, rfl, rfl, .inl ⟨nsD W, rfl, W, rfl, hW.1, hW.2, one⟩, .inl ⟨W, rfl, hW.1⟩⟩)⟩
          unfold lb__law_made_2
          refine scons_nx (Z := tz) s1 (scons_nx (Z := tz) s2 (scons_nx (Z := tz) s3 (scons_rt (Z := tz) ?_)))
          rw [decide_eq_true one] at e2
          have e2' : eqD (nD (partsOf (prs cs W) W).length) (.int 1) = some (.bl true) := e2
          unfold mE
          generalize ws.map nsD = L2
          generalize fams.map nsD = FF
          generalize nsD N = NN
          generalize csD cs = CC
          generalize nsD W = WW at l3 ⊢
          generalize (partsOf (prs cs W) W).map lsD = PP at l2 ⊢
          generalize nD (partsOf (prs cs W) W).length = k at l2 e2'
          generalize nD W.length = k2 at l3 g3
          simp [mop, ev2, ev1, evA, getA, look, slotOk, mcst, mvar, asB, mlst, mtup, mcons, mnil, mfn, mfnL, evN, evAs, getAs, mite, band, bor, bnot, mand, mor, mnot, mcall, iseq, irange1, irange2, sset, ssetO, sret, sdrop, snil, sif, gset, mmut, isL1, ssub, spar, evOs, setSls, slOf, sasg, gtup, gcons, gnil, mslice, osome, onone, mopL, mlensetA, misinst, mmt, kindD, saug, byes, l2, l3, e2', g3]
        · have ms := made_step hi (fun c h => (hc c h).d.1) one
          have p1 : fams.length ≤ 12 := by omega
          have p2 : (partsOf (prs cs W) W).length ≤ 7 := by omega
          have p3 : ws.length ≤ 7 := by
            have : ∀ l : List (List Str), (∀ F ∈ l, 1 < F.length) → l.length ≤ pot l := by
              intro l
              induction l with
              | nil => intro _; simp [pot]
              | cons F l ih =>
                intro h
                have h1 := ih fun G hG => h G (List.mem_cons_of_mem _ hG)
                have h2 := h F List.mem_cons_self
                simp only [pot, List.map_cons, List.sum_cons, List.length_cons] at h1 ⊢
                omega
            have h1 := this ws fun F hF => (hi.lw F (by simp [hF])).2
            have h2 := hi.sum
            rw [pot_app] at h2
            omega
          obtain ⟨d2, ml⟩ := made_loop (nsD N) (csD cs) (partsOf (prs cs W) W) fams ws (.sh d) (.sh (nsD W)) d' t1 (by omega) (by omega)
          refine ⟨.nx, mE (nsD N) (csD cs) (fams ++ bigs (partsOf (prs cs W) W)) (ws ++ bigs (partsOf (prs cs W) W)) (.sh d) (.sh (nsD W)) (.sh (.lst ((partsOf (prs cs W) W).map lsD))) d2, t1, ?_, .inl ⟨.inl rfl, rfl, _, _, _, _, _, _, ms, rfl⟩⟩
          unfold lb__law_made_2
          refine scons_nx (Z := tz) s1 (scons_nx (Z := tz) s2 (scons_nx (Z := tz) s3 (scons_nx (Z := tz) (e1 := mE (nsD N) (csD cs) fams ws (.sh d) (.sh (nsD W)) (.sh (.lst ((partsOf (prs cs W) W).map lsD))) d') (t1 := t1) ?_ ml)))
          rw [decide_eq_false one] at e2
          have e2' : eqD (nD (partsOf (prs cs W) W).length) (.int 1) = some (.bl false) := e2
          unfold mE
          generalize ws.map nsD = L2
          generalize fams.map nsD = FF
          generalize nsD N = NN
          generalize csD cs = CC
          generalize nsD W = WW at l3 ⊢
          generalize (partsOf (prs cs W) W).map lsD = PP at l2 ⊢
          generalize nD (partsOf (prs cs W) W).length = k at l2 e2'
          simp [mop, ev2, ev1, evA, getA, look, slotOk, mcst, mvar, asB, mlst, mtup, mcons, mnil, mfn, mfnL, evN, evAs, getAs, mite, band, bor, bnot, mand, mor, mnot, mcall, iseq, irange1, irange2, sset, ssetO, sret, sdrop, snil, sif, gset, mmut, isL1, ssub, spar, evOs, setSls, slOf, sasg, gtup, gcons, gnil, mslice, osome, onone, mopL, mlensetA, misinst, mmt, kindD, saug, byes, l2, e2']
  have src : l__law_made_2 (mE (nsD N) (csD cs) [] [N] .no .no .no .no) t = some (fl, e', t') := by
    unfold l__law_made_2
    refine sfor_of (e1 := mE (nsD N) (csD cs) [] [N] .no .no .no .no) (t1 := t) (ds := (List.range 100).map nD) ?_ l1
    unfold mE
    generalize [N].map nsD = L2
    generalize ([] : List (List Str)).map nsD = FF
    generalize nsD N = NN
    generalize csD cs = CC
    rfl
  have s0 : spar (Z := tz) [2, 3] [(1, (mlst mnil)), (1, (mlst (mcons (mfn tuple1 [(.v 0)]) mnil)))] [.sh (nsD N), .sh (csD cs), .no, .no, .no, .no, .no, .no] t = some (.nx, mE (nsD N) (csD cs) [] [N] .no .no .no .no, t) := by
    have tu : tuple1 [nsD N] = some (nsD N) := rfl
    unfold mE
    rw [List.map_cons, List.map_nil]
    generalize nsD N = NN at tu ⊢
    generalize csD cs = CC
    simp [mop, ev2, ev1, evA, getA, look, slotOk, mcst, mvar, asB, mlst, mtup, mcons, mnil, mfn, mfnL, evN, evAs, getAs, mite, band, bor, bnot, mand, mor, mnot, mcall, iseq, irange1, irange2, sset, ssetO, sret, sdrop, snil, sif, gset, mmut, isL1, ssub, spar, evOs, setSls, slOf, sasg, gtup, gcons, gnil, mslice, osome, onone, mopL, mlensetA, misinst, mmt, kindD, saug, byes, tu]
  have fin : (∃ r, fl = .rt r ∧ t' = t ∧ Made N cs r) ∨ (fl = .nx ∧ t' = t ∧ ∃ i fams a b c d, MInv N cs i fams [] ∧ e' = mE (nsD N) (csD cs) fams [] a b c d) := by
    rcases hh with ⟨rfl, h | h⟩ | ⟨r, rfl, h⟩
    · obtain ⟨rfl, fams, ws, a, b, c, d, hi, rfl⟩ := h
      have := hi.sum
      rw [List.length_map, List.length_range] at this
      omega
    · exact .inr ⟨rfl, h⟩
    · exact .inl ⟨r, rfl, h⟩
  rcases fin with ⟨r, rfl, rfl, hr⟩ | ⟨rfl, rfl, i, fams, a, b, c, d, hi, rfl⟩
  · exact ⟨r, hr, runFn_at (Z := tz) (e1 := e') [.sh (nsD N), .sh (csD cs), .no, .no, .no, .no, .no, .no] rfl (scons_nx (Z := tz) s0 (scons_rt (Z := tz) src))⟩
  · have lf : ∀ F ∈ fams, Lot N F := fun F hF => (hi.lf F hF).1
    refine ⟨.tup [.str "families", fsD fams], ⟨.inr ⟨fams, rfl, ⟨fams, rfl, lf, fun F hF G hG => cross_no (hi.lam F hF G hG) ((lf G hG).nodup hN.nd)⟩, fun c hcs => ?_⟩, .inr ⟨fams, rfl, lf, by have := hi.cnt; omega⟩⟩, ?_⟩
    · rcases hi.met c hcs with h | ⟨W, hW, _⟩
      · exact met_any h
      · cases hW
    · refine runFn_at (Z := tz) (e1 := mE (nsD N) (csD cs) fams [] a b c d) [.sh (nsD N), .sh (csD cs), .no, .no, .no, .no, .no, .no] rfl (scons_nx (Z := tz) s0 (scons_nx (Z := tz) src ?_))
      have tu : tuple1 [.lst (fams.map nsD)] = some (fsD fams) := rfl
      unfold mE
      generalize fsD fams = FF at tu ⊢
      generalize fams.map nsD = F2 at tu ⊢
      generalize ([] : List (List Str)).map nsD = WW
      generalize nsD N = NN
      generalize csD cs = CC
      simp [mop, ev2, ev1, evA, getA, look, slotOk, mcst, mvar, asB, mlst, mtup, mcons, mnil, mfn, mfnL, evN, evAs, getAs, mite, band, bor, bnot, mand, mor, mnot, mcall, iseq, irange1, irange2, sset, ssetO, sret, sdrop, snil, sif, gset, mmut, isL1, ssub, spar, evOs, setSls, slOf, sasg, gtup, gcons, gnil, mslice, osome, onone, mopL, mlensetA, misinst, mmt, kindD, saug, byes, tu]
end K29

namespace K29
open PySem L2 DL

def gdl (n : Nat) (ds : List D) : Prop := ∀ d ∈ ds, gd n d = true
theorem gd_tup {n : Nat} {ds : List D} (hl : ds.length ≤ 1000) (h : gdl n ds) : gd (n + 1) (.tup ds) = true := by
  simp only [gd, Bool.and_eq_true, decide_eq_true_eq, List.all_eq_true]
  exact ⟨hl, h⟩
theorem gd_lst {n : Nat} {ds : List D} (hl : ds.length ≤ 1000) (h : gdl n ds) : gd (n + 1) (.lst ds) = true := by
  simp only [gd, Bool.and_eq_true, decide_eq_true_eq, List.all_eq_true]
  exact ⟨hl, h⟩
theorem gdl.mono {n m : Nat} {ds : List D} (h : gdl n ds) (hm : n ≤ m) : gdl m ds := fun d hd => gd_mono n m d hm (h d hd)
theorem gdl.app {n : Nat} {a b : List D} (h : gdl n a) (k : gdl n b) : gdl n (a ++ b) := fun d hd => (List.mem_append.mp hd).elim (h d) (k d)
theorem gdl.rev {n : Nat} {a : List D} (h : gdl n a) : gdl n a.reverse := fun d hd => h d (List.mem_reverse.mp hd)
theorem gdl.nil {n : Nat} : gdl n [] := fun d hd => by cases hd
theorem gdl.cons {n : Nat} {a : D} {b : List D} (h : gd n a = true) (k : gdl n b) : gdl n (a :: b) := fun d hd => by
  rcases List.mem_cons.mp hd with rfl | hd
  · exact h
  · exact k d hd
theorem Gd.of {n : Nat} {d : D} (hn : n ≤ 20) (h : K29.gd n d = true) : Gd d := .inl (gd_mono n 20 d hn h)
theorem sl_ex {n : Nat} {ds : List D} (h : gdl n ds) (lo hi : Option Int) : ∃ es, sliceD (.tup ds) lo hi = some (.tup es) ∧ gdl n es ∧ es.length ≤ ds.length := by
  refine ⟨cutD ds lo hi, rfl, fun d hd => h d ?_, ?_⟩
  · unfold cutD at hd
    exact List.mem_of_mem_drop (List.mem_of_mem_take hd)
  · unfold cutD
    rw [List.length_take, List.length_drop]
    omega
theorem add_tup {a b : List D} (h : a.length + b.length ≤ 1000) : addD (.tup a) (.tup b) = some (.tup (a ++ b)) := by
  have : a.length + b.length ≤ sizeLine := Nat.le_trans h (by decide)
  simp only [addD, this, if_true]
def bE (NN V R a one : D) (k : Nat) : List Sl := [.sh .tape, .sh NN, .sh V, .sh R, .sh a, .sh one, .sh (nD k), .no, .no]
theorem sk_no {NN V R a one : D} {k j : Nat} {X : SM tz} {t : Tp} (h : k ≠ j) : sif (asB (mop eqD (.v 6) (.e (mcst (.int (j : Int)))))) X snil (bE NN V R a one k) t = some (.nx, bE NN V R a one k, t) := by
  have e := eq_nat k j
  rw [decide_eq_false h] at e
  unfold bE
  generalize nD k = z at e ⊢
  simp [mop, ev2, ev1, evA, getA, look, slotOk, mcst, mvar, asB, mlst, mtup, mcons, mnil, mfn, mfnL, evN, evAs, getAs, mite, band, bor, bnot, mand, mor, mnot, mcall, iseq, irange1, irange2, sset, ssetO, sret, sdrop, snil, sif, gset, mmut, isL1, ssub, spar, evOs, setSls, slOf, sasg, gtup, gcons, gnil, mslice, osome, onone, mopL, mlensetA, misinst, mmt, kindD, saug, byes, e]
theorem sk_yes {NN V R a one : D} {j : Nat} {X : SM tz} {t : Tp} {r : Option (Fl × List Sl × Tp)} (h : X (bE NN V R a one j) t = r) : sif (asB (mop eqD (.v 6) (.e (mcst (.int (j : Int)))))) X snil (bE NN V R a one j) t = r := by
  have e := eq_nat j j
  rw [decide_eq_true rfl] at e
  unfold bE at h ⊢
  generalize nD j = z at e h ⊢
  simp [mop, ev2, ev1, evA, getA, look, slotOk, mcst, mvar, asB, mlst, mtup, mcons, mnil, mfn, mfnL, evN, evAs, getAs, mite, band, bor, bnot, mand, mor, mnot, mcall, iseq, irange1, irange2, sset, ssetO, sret, sdrop, snil, sif, gset, mmut, isL1, ssub, spar, evOs, setSls, slOf, sasg, gtup, gcons, gnil, mslice, osome, onone, mopL, mlensetA, misinst, mmt, kindD, saug, byes, e, h]
def Ok1 (x : Option (Fl × List Sl × Tp)) : Prop := ∃ d e t', x = some (.rt d, e, t') ∧ Gd d
section
variable {NN : D} {W : D} {ds : List D} {a : Nat} {one : D} {k : Nat} (t : Tp)
theorem b_0 (h : gdl 5 ds) (hl : ds.length ≤ 20) (hw : gd 0 W = true) : Ok1 (sret (Z := tz) (mtup (mcons (mop idxD (.v 2) (.e (mcst (.int 0)))) (mcons (mop addD (.e (mslice sliceD (.v 3) onone (osome (mvar 4)))) (.e (mslice sliceD (.v 3) (osome (mop addD (.v 4) (.e (mcst (.int 1))))) onone))) mnil))) (bE NN (.tup [W, .tup ds]) (.tup ds) (nD a) one k) t) := by
  obtain ⟨A, s1, g1, l1⟩ := sl_ex h none (some (a : Int))
  obtain ⟨B, s2, g2, l2⟩ := sl_ex h (some ((a : Int) + 1)) none
  have ad := add_tup (a := A) (b := B) (by omega)
  have i0 : idxD (.tup [W, .tup ds]) (.int 0) = some W := ix0 _ _
  have a1 : addD (nD a) (.int 1) = some (.int ((a : Int) + 1)) := rfl
  refine ⟨.tup [W, .tup (A ++ B)], bE NN (.tup [W, .tup ds]) (.tup ds) (nD a) one k, t, ?_, .of (n := 7) (by omega) (gd_tup (by simp) (.cons (gd_mono 0 6 _ (by omega) hw) (.cons (gd_tup (by rw [List.length_append]; omega) (g1.app g2)) .nil)))⟩
  generalize D.tup [W, .tup ds] = V at i0 ⊢
  generalize D.tup ds = R at s1 s2 ⊢
  generalize D.tup (A ++ B) = AB at ad ⊢
  generalize D.tup A = AA at s1 ad
  generalize D.tup B = BB at s2 ad
  unfold bE
  simp [mop, ev2, ev1, evA, getA, look, slotOk, mcst, mvar, asB, mlst, mtup, mcons, mnil, mfn, mfnL, evN, evAs, getAs, mite, band, bor, bnot, mand, mor, mnot, mcall, iseq, irange1, irange2, sset, ssetO, sret, sdrop, snil, sif, gset, mmut, isL1, ssub, spar, evOs, setSls, slOf, sasg, gtup, gcons, gnil, mslice, osome, onone, mopL, mlensetA, misinst, mmt, kindD, saug, byes, i0, s1, s2, a1, ad]
theorem b_1 (h : gdl 5 ds) (hl : ds.length ≤ 20) (hw : gd 0 W = true) : Ok1 (sret (Z := tz) (mtup (mcons (mop idxD (.v 2) (.e (mcst (.int 0)))) (mcons (mrev (mvar 3)) mnil))) (bE NN (.tup [W, .tup ds]) (.tup ds) (nD a) one k) t) := by
  have i0 : idxD (.tup [W, .tup ds]) (.int 0) = some W := ix0 _ _
  refine ⟨.tup [W, .tup ds.reverse], bE NN (.tup [W, .tup ds]) (.tup ds) (nD a) one k, t, ?_, .of (n := 7) (by omega) (gd_tup (by simp) (.cons (gd_mono 0 6 _ (by omega) hw) (.cons (gd_tup (by rw [List.length_reverse]; omega) h.rev) .nil)))⟩
  generalize D.tup [W, .tup ds] = V at i0 ⊢
  unfold bE
  simp [mop, ev2, ev1, evA, getA, look, slotOk, mcst, mvar, asB, mlst, mtup, mcons, mnil, mfn, mfnL, evN, evAs, getAs, mite, band, bor, bnot, mand, mor, mnot, mcall, iseq, irange1, irange2, sset, ssetO, sret, sdrop, snil, sif, gset, mmut, isL1, ssub, spar, evOs, setSls, slOf, sasg, gtup, gcons, gnil, mslice, osome, onone, mopL, mlensetA, misinst, mmt, kindD, saug, byes, i0, mrev]
theorem b_2 (h : gdl 5 ds) (hl : ds.length ≤ 20) : Ok1 (sret (Z := tz) (mtup (mcons (mcall 2 f__law_pick (mcons (mvar 0) (mcons (mlst (mcons (mcst (.str "families")) (mcons (mcst (.str "tied")) (mcons (mcst (.str "open")) mnil)))) mnil))) (mcons (mvar 3) mnil))) (bE NN (.tup [W, .tup ds]) (.tup ds) (nD a) one k) t) := by
  obtain ⟨x, t', p, hx⟩ := pick_any (.lst [.str "families", .str "tied", .str "open"]) [.str "families", .str "tied", .str "open"] (.inl rfl) (by simp) (by simp) t
  have gx : gd 6 x = true := by
    simp only [List.mem_cons, List.not_mem_nil, or_false] at hx
    rcases hx with rfl | rfl | rfl <;> exact gd_str (by decide +kernel) 6
  refine ⟨.tup [x, .tup ds], bE NN (.tup [W, .tup ds]) (.tup ds) (nD a) one k, t', ?_, .of (n := 7) (by omega) (gd_tup (by simp) (.cons gx (.cons (gd_tup (by omega) h) .nil)))⟩
  generalize D.tup [W, .tup ds] = V
  generalize D.tup ds = R
  unfold bE
  obtain ⟨F, hF⟩ : ∃ z, z = f__law_pick := ⟨_, rfl⟩
  rw [← hF] at p ⊢
  clear hF
  simp [mop, ev2, ev1, evA, getA, look, slotOk, mcst, mvar, asB, mlst, mtup, mcons, mnil, mfn, mfnL, evN, evAs, getAs, mite, band, bor, bnot, mand, mor, mnot, mcall, iseq, irange1, irange2, sset, ssetO, sret, sdrop, snil, sif, gset, mmut, isL1, ssub, spar, evOs, setSls, slOf, sasg, gtup, gcons, gnil, mslice, osome, onone, mopL, mlensetA, misinst, mmt, kindD, saug, byes, p]
theorem b_3 (h : gdl 5 ds) (hl : ds.length ≤ 20) (hw : gd 0 W = true) : Ok1 (sret (Z := tz) (mtup (mcons (mop idxD (.v 2) (.e (mcst (.int 0)))) (mcons (mfnL list1 [(.v 3)]) mnil))) (bE NN (.tup [W, .tup ds]) (.tup ds) (nD a) one k) t) := by
  have i0 : idxD (.tup [W, .tup ds]) (.int 0) = some W := ix0 _ _
  have li : list1 [.tup ds] = some ds := rfl
  refine ⟨.tup [W, .lst ds], bE NN (.tup [W, .tup ds]) (.tup ds) (nD a) one k, t, ?_, .of (n := 7) (by omega) (gd_tup (by simp) (.cons (gd_mono 0 6 _ (by omega) hw) (.cons (gd_lst (by omega) h) .nil)))⟩
  generalize D.tup [W, .tup ds] = V at i0 ⊢
  generalize D.tup ds = R at li ⊢
  unfold bE
  simp [mop, ev2, ev1, evA, getA, look, slotOk, mcst, mvar, asB, mlst, mtup, mcons, mnil, mfn, mfnL, evN, evAs, getAs, mite, band, bor, bnot, mand, mor, mnot, mcall, iseq, irange1, irange2, sset, ssetO, sret, sdrop, snil, sif, gset, mmut, isL1, ssub, spar, evOs, setSls, slOf, sasg, gtup, gcons, gnil, mslice, osome, onone, mopL, mlensetA, misinst, mmt, kindD, saug, byes, i0, li]
theorem b_4 (h : gdl 5 ds) (hl : ds.length ≤ 20) (hw : gd 0 W = true) : Ok1 (sret (Z := tz) (mtup (mcons (mop idxD (.v 2) (.e (mcst (.int 0)))) (mcons (mop addD (.v 3) (.e (mslice sliceD (.v 3) (osome (mvar 4)) (osome (mop addD (.v 4) (.e (mcst (.int 1)))))))) mnil))) (bE NN (.tup [W, .tup ds]) (.tup ds) (nD a) one k) t) := by
  obtain ⟨A, s1, g1, l1⟩ := sl_ex h (some (a : Int)) (some ((a : Int) + 1))
  have ad := add_tup (a := ds) (b := A) (by omega)
  have i0 : idxD (.tup [W, .tup ds]) (.int 0) = some W := ix0 _ _
  have a1 : addD (nD a) (.int 1) = some (.int ((a : Int) + 1)) := rfl
  refine ⟨.tup [W, .tup (ds ++ A)], bE NN (.tup [W, .tup ds]) (.tup ds) (nD a) one k, t, ?_, .of (n := 7) (by omega) (gd_tup (by simp) (.cons (gd_mono 0 6 _ (by omega) hw) (.cons (gd_tup (by rw [List.length_append]; omega) (h.app g1)) .nil)))⟩
  generalize D.tup [W, .tup ds] = V at i0 ⊢
  generalize D.tup (ds ++ A) = AB at ad ⊢
  generalize D.tup ds = R at s1 ad ⊢
  generalize D.tup A = AA at s1 ad
  unfold bE
  simp [mop, ev2, ev1, evA, getA, look, slotOk, mcst, mvar, asB, mlst, mtup, mcons, mnil, mfn, mfnL, evN, evAs, getAs, mite, band, bor, bnot, mand, mor, mnot, mcall, iseq, irange1, irange2, sset, ssetO, sret, sdrop, snil, sif, gset, mmut, isL1, ssub, spar, evOs, setSls, slOf, sasg, gtup, gcons, gnil, mslice, osome, onone, mopL, mlensetA, misinst, mmt, kindD, saug, byes, i0, s1, a1, ad]
theorem gd_0 (x : D) (h : gd 0 x = true) (n : Nat) : gd n x = true := gd_mono 0 n x (by omega) h
theorem b_5 (h : gdl 5 ds) (hl : ds.length ≤ 20) (hw : gd 0 W = true) {N : List Str} (hN : Nms N) (h0 : N ≠ []) (ho : gd 0 one = true) : Ok1 (sret (Z := tz) (mtup (mcons (mop idxD (.v 2) (.e (mcst (.int 0)))) (mcons (mop addD (.v 3) (.e (mtup (mcons (mcall 2 f__law_pick (mcons (mvar 0) (mcons (mlst (mcons (mtup (mcons (mvar 5) mnil)) (mcons (mvar 1) (mcons (mtup (mcons (mop idxD (.v 1) (.e (mcst (.int 0)))) (mcons (mop idxD (.v 1) (.e (mneg (mcst (.int 1))))) mnil))) (mcons (mvar 5) (mcons (mtup (mcons (mcst (.str "Q9")) mnil)) (mcons (mtup mnil) (mcons (mcst .non) mnil)))))))) mnil))) mnil)))) mnil))) (bE (nsD N) (.tup [W, .tup ds]) (.tup ds) (nD a) one k) t) := by
  obtain ⟨n0, hn0, e0⟩ : ∃ x ∈ N, idxD (nsD N) (.int 0) = some (.str x) := by
    cases N with
    | nil => exact absurd rfl h0
    | cons x r => exact ⟨x, List.mem_cons_self, ix0 _ _⟩
  obtain ⟨n1, hn1, e1⟩ : ∃ x ∈ N, idxD (nsD N) (.int (-1)) = some (.str x) := by
    have p : 0 < N.length := List.length_pos_iff.mpr h0
    refine ⟨N[N.length - 1], List.getElem_mem _, ?_⟩
    have z : ixN (N.map D.str).length (-1) = some (N.length - 1) := by
      rw [List.length_map]
      unfold ixN
      have h1 : ¬ (0 ≤ (-1 : Int) ∧ (-1 : Int) < (N.length : Int)) := by omega
      have h2 : (-(N.length : Int) ≤ -1) := by omega
      simp [h1, h2]
      omega
    unfold nsD
    simp only [idxD, atI, z]
    simp
  obtain ⟨x, t', p, hx⟩ := pick_any (.lst [.tup [one], nsD N, .tup [.str n0, .str n1], one, .tup [.str "Q9"], .tup [], .non]) _ (.inl rfl) (by simp) (by simp) t
  have gx : gd 5 x = true := by
    have u0 := gd_str (hN.un n0 hn0) 4
    have u1 := gd_str (hN.un n1 hn1) 4
    have u9 : gd 4 (.str "Q9") = true := gd_str (by decide +kernel) 4
    simp only [List.mem_cons, List.not_mem_nil, or_false] at hx
    rcases hx with rfl | rfl | rfl | rfl | rfl | rfl | rfl
    · exact gd_tup (by simp) (.cons (gd_0 _ ho 4) .nil)
    · exact gd_nsD hN.un (by have := hN.len; omega) 4
    · exact gd_tup (by simp) (.cons u0 (.cons u1 .nil))
    · exact gd_0 _ ho 5
    · exact gd_tup (by simp) (.cons u9 .nil)
    · exact gd_tup (by simp) .nil
    · rfl
  have ad := add_tup (a := ds) (b := [x]) (by simp; omega)
  have i0 : idxD (.tup [W, .tup ds]) (.int 0) = some W := ix0 _ _
  refine ⟨.tup [W, .tup (ds ++ [x])], bE (nsD N) (.tup [W, .tup ds]) (.tup ds) (nD a) one k, t', ?_, .of (n := 7) (by omega) (gd_tup (by simp) (.cons (gd_0 _ hw 6) (.cons (gd_tup (by rw [List.length_append]; simp; omega) (h.app (.cons gx .nil))) .nil)))⟩
  generalize D.tup [W, .tup ds] = V at i0 ⊢
  generalize D.tup (ds ++ [x]) = AB at ad ⊢
  generalize D.tup ds = R at ad ⊢
  generalize nsD N = NN at e0 e1 p ⊢
  unfold bE
  obtain ⟨F, hF⟩ : ∃ z, z = f__law_pick := ⟨_, rfl⟩
  rw [← hF] at p ⊢
  clear hF
  simp [mop, ev2, ev1, evA, getA, look, slotOk, mcst, mvar, asB, mlst, mtup, mcons, mnil, mfn, mfnL, evN, evAs, getAs, mite, band, bor, bnot, mand, mor, mnot, mcall, iseq, irange1, irange2, sset, ssetO, sret, sdrop, snil, sif, gset, mmut, isL1, ssub, spar, evOs, setSls, slOf, sasg, gtup, gcons, gnil, mslice, osome, onone, mopL, mlensetA, misinst, mmt, kindD, saug, byes, i0, e0, e1, mneg, p, ad]
theorem b_8 (h : gdl 5 ds) (hl : ds.length ≤ 20) (hw : gd 0 W = true) : Ok1 (sret (Z := tz) (mop addD (.v 2) (.e (mtup (mcons (mcst .non) mnil)))) (bE NN (.tup [W, .tup ds]) (.tup ds) (nD a) one k) t) := by
  have ad : addD (.tup [W, .tup ds]) (.tup [.non]) = some (.tup [W, .tup ds, .non]) := add_tup (a := [W, .tup ds]) (b := [.non]) (by simp)
  refine ⟨.tup [W, .tup ds, .non], bE NN (.tup [W, .tup ds]) (.tup ds) (nD a) one k, t, ?_, .of (n := 7) (by omega) (gd_tup (by simp) (.cons (gd_0 _ hw 6) (.cons (gd_tup (by omega) h) (.cons rfl .nil))))⟩
  generalize D.tup [W, .tup ds, .non] = V2 at ad ⊢
  generalize D.tup [W, .tup ds] = V at ad ⊢
  generalize D.tup ds = R
  unfold bE
  simp [mop, ev2, ev1, evA, getA, look, slotOk, mcst, mvar, asB, mlst, mtup, mcons, mnil, mfn, mfnL, evN, evAs, getAs, mite, band, bor, bnot, mand, mor, mnot, mcall, iseq, irange1, irange2, sset, ssetO, sret, sdrop, snil, sif, gset, mmut, isL1, ssub, spar, evOs, setSls, slOf, sasg, gtup, gcons, gnil, mslice, osome, onone, mopL, mlensetA, misinst, mmt, kindD, saug, byes, ad]
theorem b_9 (h : gdl 5 ds) (hl : ds.length ≤ 20) : Ok1 (sret (Z := tz) (mcall 2 f__law_pick (mcons (mvar 0) (mcons (mlst (mcons (mcst .non) (mcons (mtup mnil) (mcons (mcst (.str "tied")) (mcons (mcst (.int 5)) (mcons (mlst (mcons (mcst (.str "tied")) (mcons (mvar 3) mnil))) (mcons (mcst (.dic [] [])) (mcons (mtup (mcons (mcst (.str "tied")) (mcons (mcst (.int 5)) mnil))) mnil)))))))) mnil))) (bE NN (.tup [W, .tup ds]) (.tup ds) (nD a) one k) t) := by
  obtain ⟨x, t', p, hx⟩ := pick_any (.lst [.non, .tup [], .str "tied", .int 5, .lst [.str "tied", .tup ds], .dic [] [], .tup [.str "tied", .int 5]]) _ (.inl rfl) (by simp) (by simp) t
  have ut : gd 6 (.str "tied") = true := gd_str (by decide +kernel) 6
  have gx : Gd x := by
    simp only [List.mem_cons, List.not_mem_nil, or_false] at hx
    rcases hx with rfl | rfl | rfl | rfl | rfl | rfl | rfl
    · exact .of (n := 0) (by omega) rfl
    · exact .of (n := 7) (by omega) (gd_tup (by simp) .nil)
    · exact .of (n := 6) (by omega) ut
    · exact .of (n := 0) (by omega) rfl
    · exact .of (n := 7) (by omega) (gd_lst (by simp) (.cons ut (.cons (gd_tup (by omega) h) .nil)))
    · exact .inr rfl
    · exact .of (n := 7) (by omega) (gd_tup (by simp) (.cons ut (.cons rfl .nil)))
  refine ⟨x, bE NN (.tup [W, .tup ds]) (.tup ds) (nD a) one k, t', ?_, gx⟩
  generalize D.tup [W, .tup ds] = V
  generalize D.tup ds = R at p ⊢
  unfold bE
  obtain ⟨F, hF⟩ : ∃ z, z = f__law_pick := ⟨_, rfl⟩
  rw [← hF] at p ⊢
  clear hF
  simp [mop, ev2, ev1, evA, getA, look, slotOk, mcst, mvar, asB, mlst, mtup, mcons, mnil, mfn, mfnL, evN, evAs, getAs, mite, band, bor, bnot, mand, mor, mnot, mcall, iseq, irange1, irange2, sset, ssetO, sret, sdrop, snil, sif, gset, mmut, isL1, ssub, spar, evOs, setSls, slOf, sasg, gtup, gcons, gnil, mslice, osome, onone, mopL, mlensetA, misinst, mmt, kindD, saug, byes, p]
end
end K29

namespace K29
open PySem L2 DL

theorem mlc_invT {Z : TSys} {own : List Nat} {src : ML Z} {g : G} {tt : MB Z} {el : M Z} {e e1 : List Sl} {t t1 : Z.T} {ds : List D} (Inv : Nat → List D → Z.T → Prop) (hs : src e t = some (ds, e1, t1)) (hok : ownOk e1 own = true) (hl : ds.length ≤ 16777216) (h0 : Inv 0 [] t1)
    (h : ∀ i d acc t, ds[i]? = some d → Inv i acc t → ∃ e2, g d (wipeE e1 own) = some e2 ∧ ∃ c e3 t3, tt e2 t = some (c, e3, t3) ∧ ((c = false ∧ wipeE e3 own = wipeE e1 own ∧ Inv (i + 1) acc t3) ∨ (c = true ∧ ∃ y e4 t4, el e3 t3 = some (y, e4, t4) ∧ wipeE e4 own = wipeE e1 own ∧ Inv (i + 1) (acc ++ [y]) t4))) :
    ∃ acc t', mlc own src g tt el e t = some (.lst acc, e1, t') ∧ Inv ds.length acc t' := by
  obtain ⟨acc, t', q1, q2⟩ := lcL_inv (g := g) (tt := tt) (el := el) (wipeE_wipe e1 own) Inv ds [] t1 0 h0 fun i d acc t hd hi => by
    rw [Nat.zero_add] at hi ⊢
    exact h i d acc t hd hi
  refine ⟨acc, t', ?_, by simpa using q2⟩
  unfold mlc
  have hz : (ds.length ≤ sizeLine) := Nat.le_trans hl (by decide)
  simp only [hs, hok, hz, decide_true, Bool.and_self, if_true, q1, restE_wipe]
theorem gt00 (n : Nat) : ∃ b, gtD (nD n) (.int 0) = some (.bl b) := ⟨_, gt0 n⟩
theorem take3 (t : Tp) : ∃ (r : Nat) (t' : Tp), f__law_take [.tape, .int 3] t = some (nD r, t') := by
  obtain ⟨r, t', e, _⟩ := take_ex 3 (by omega) (by omega) t
  exact ⟨r, t', e⟩
theorem b_7 {W : D} {ds : List D} {a : Nat} {one : D} {k : Nat} (t : Tp) {N : List Str} (hN : Nms N) : Ok1 (sret (Z := tz) (mtup (mcons (mcst (.str "tied")) (mcons (mfn tuple1 [(.e c__law_bent_1)]) mnil))) (bE (nsD N) (.tup [W, .tup ds]) (.tup ds) (nD a) one k) t) := by
  have hl := hN.len
  generalize D.tup [W, .tup ds] = V
  generalize D.tup ds = R
  have src : iseq (Z := tz) (mvar 1) (bE (nsD N) V R (nD a) one k) t = some (N.map .str, bE (nsD N) V R (nD a) one k, t) := by
    unfold bE nsD
    simp [mop, ev2, ev1, evA, getA, look, slotOk, mcst, mvar, asB, mlst, mtup, mcons, mnil, mfn, mfnL, evN, evAs, getAs, mite, band, bor, bnot, mand, mor, mnot, mcall, iseq, irange1, irange2, sset, ssetO, sret, sdrop, snil, sif, gset, mmut, isL1, ssub, spar, evOs, setSls, slOf, sasg, gtup, gcons, gnil, mslice, osome, onone, mopL, mlensetA, misinst, mmt, kindD, saug, byes]
  obtain ⟨acc, t', c, h1, h2⟩ := mlc_invT (Z := tz) (own := [8]) (g := gset 8) (tt := ct__law_bent_1) (el := ce__law_bent_1) (e := bE (nsD N) V R (nD a) one k) (t := t) (fun i acc _ => gdl 5 acc ∧ acc.length ≤ i) src rfl (by rw [List.length_map]; omega) ⟨.nil, by simp⟩ fun i d acc t hd hi => by
    rw [List.getElem?_map] at hd
    cases z : N[i]? with
    | none => rw [z] at hd; simp at hd
    | some x =>
      rw [z] at hd
      simp at hd
      subst hd
      have hx := List.mem_of_getElem? z
      obtain ⟨r, t', tk⟩ := take3 t
      obtain ⟨b, g⟩ := gt00 r
      refine ⟨[.sh .tape, .sh (nsD N), .sh V, .sh R, .sh (nD a), .sh one, .sh (nD k), .no, .sh (.str x)], rfl, b, [.sh .tape, .sh (nsD N), .sh V, .sh R, .sh (nD a), .sh one, .sh (nD k), .no, .sh (.str x)], t', ?_, ?_⟩
      · generalize nsD N = NN
        generalize nD r = q at tk g
        unfold ct__law_bent_1
        obtain ⟨F, hF⟩ : ∃ z, z = f__law_take := ⟨_, rfl⟩
        rw [← hF] at tk ⊢
        clear hF
        simp [mop, ev2, ev1, evA, getA, look, slotOk, mcst, mvar, asB, mlst, mtup, mcons, mnil, mfn, mfnL, evN, evAs, getAs, mite, band, bor, bnot, mand, mor, mnot, mcall, iseq, irange1, irange2, sset, ssetO, sret, sdrop, snil, sif, gset, mmut, isL1, ssub, spar, evOs, setSls, slOf, sasg, gtup, gcons, gnil, mslice, osome, onone, mopL, mlensetA, misinst, mmt, kindD, saug, byes, tk, g]
      · cases b with
        | false => exact .inl ⟨rfl, rfl, hi.1, by have := hi.2; omega⟩
        | true =>
          refine .inr ⟨rfl, .str x, [.sh .tape, .sh (nsD N), .sh V, .sh R, .sh (nD a), .sh one, .sh (nD k), .no, .sh (.str x)], t', ?_, rfl, hi.1.app (.cons (gd_str (hN.un x hx) 5) .nil), by rw [List.length_append]; have := hi.2; simp; omega⟩
          generalize nsD N = NN
          unfold ce__law_bent_1
          simp [mop, ev2, ev1, evA, getA, look, slotOk, mcst, mvar, asB, mlst, mtup, mcons, mnil, mfn, mfnL, evN, evAs, getAs, mite, band, bor, bnot, mand, mor, mnot, mcall, iseq, irange1, irange2, sset, ssetO, sret, sdrop, snil, sif, gset, mmut, isL1, ssub, spar, evOs, setSls, slOf, sasg, gtup, gcons, gnil, mslice, osome, onone, mopL, mlensetA, misinst, mmt, kindD, saug, byes]
  rw [List.length_map] at h2
  have c' : c__law_bent_1 (bE (nsD N) V R (nD a) one k) t = some (.lst acc, bE (nsD N) V R (nD a) one k, t') := c
  have tu : tuple1 [.lst acc] = some (.tup acc) := rfl
  refine ⟨.tup [.str "tied", .tup acc], bE (nsD N) V R (nD a) one k, t', ?_, .of (n := 7) (by omega) (gd_tup (by simp) (.cons (gd_str (by decide +kernel) 6) (.cons (gd_tup (by omega) h1) .nil)))⟩
  generalize nsD N = NN at c' ⊢
  generalize D.tup acc = T at tu ⊢
  unfold bE at c' ⊢
  clear c src
  obtain ⟨C, hC⟩ : ∃ z, z = c__law_bent_1 := ⟨_, rfl⟩
  rw [← hC] at c' ⊢
  clear hC
  simp [mop, ev2, ev1, evA, getA, look, slotOk, mcst, mvar, asB, mlst, mtup, mcons, mnil, mfn, mfnL, evN, evAs, getAs, mite, band, bor, bnot, mand, mor, mnot, mcall, iseq, irange1, irange2, sset, ssetO, sret, sdrop, snil, sif, gset, mmut, isL1, ssub, spar, evOs, setSls, slOf, sasg, gtup, gcons, gnil, mslice, osome, onone, mopL, mlensetA, misinst, mmt, kindD, saug, byes, c', tu]
theorem b_6 {Fs : List (List Str)} {a : Nat} {o : Str} {k : Nat} (t : Tp) {N : List Str} (hN : Nms N) (hF : ∀ F ∈ Fs, Lot N F) (hl : Fs.length ≤ 20) (ha : a < Fs.length) (ho : o ∈ N) :
    Ok1 (scons (Z := tz) (sset 7 (mop idxD (.v 3) (.v 4))) (sret (mtup (mcons (mcst (.str "families")) (mcons (mop addD (.e (mop addD (.e (mslice sliceD (.v 3) onone (osome (mvar 4)))) (.e (mtup (mcons (mcall 2 f__law_pick (mcons (mvar 0) (mcons (mlst (mcons (mslice sliceD (.v 7) (osome (mcst (.int 1))) onone) (mcons (mrev (mvar 7)) (mcons (mfn tuple1 [(.e c__law_bent_2)]) mnil)))) mnil))) mnil))))) (.e (mslice sliceD (.v 3) (osome (mop addD (.v 4) (.e (mcst (.int 1))))) onone))) mnil)))) (bE (nsD N) (.tup [.str "families", .tup (Fs.map nsD)]) (.tup (Fs.map nsD)) (nD a) (.str o) k) t) := by
  have h7 := hN.len
  obtain ⟨F, hFm, gF⟩ : ∃ F ∈ Fs, idxD (.tup (Fs.map nsD)) (nD a) = some (nsD F) := ⟨Fs[a], List.getElem_mem _, by rw [idx_tup, List.getElem?_map, List.getElem?_eq_getElem ha]; rfl⟩
  have lF := hF F hFm
  have oF := lF.okS hN
  have fl := lF.len
  have gds : gdl 5 (Fs.map nsD) := fun d hd => by
    obtain ⟨G, hG, rfl⟩ := List.mem_map.mp hd
    exact gd_nsD (fun x hx => hN.un x ((hF G hG).sub x hx)) (by have := (hF G hG).len; omega) 4
  have gFs : gdl 4 (F.map .str) := fun d hd => by
    obtain ⟨x, hx, rfl⟩ := List.mem_map.mp hd
    exact gd_str (hN.un x (lF.sub x hx)) 4
  have hl' : (Fs.map nsD).length ≤ 20 := by rw [List.length_map]; exact hl
  generalize D.tup [.str "families", .tup (Fs.map nsD)] = V
  obtain ⟨A, s1, g1, l1⟩ := sl_ex gds none (some (a : Int))
  obtain ⟨B, s2, g2, l2⟩ := sl_ex gds (some ((a : Int) + 1)) none
  obtain ⟨L1, s3, g3, l3⟩ := sl_ex gFs (some 1) none
  generalize Fs.map nsD = ds at *
  have a1 : addD (nD a) (.int 1) = some (.int ((a : Int) + 1)) := rfl
  have c : ∀ t : Tp, c__law_bent_2 [.sh .tape, .sh (nsD N), .sh V, .sh (.tup ds), .sh (nD a), .sh (.str o), .sh (nD k), .sh (nsD F), .no] t = some (lsD (N.filter fun x => decide (x ∈ F) || decide (x = o)), [.sh .tape, .sh (nsD N), .sh V, .sh (.tup ds), .sh (nD a), .sh (.str o), .sh (nD k), .sh (nsD F), .no], t) := by
    intro t
    generalize D.tup ds = R
    unfold c__law_bent_2 lsD
    refine mlc_map (Z := tz) (e1 := [.sh .tape, .sh (nsD N), .sh V, .sh R, .sh (nD a), .sh (.str o), .sh (nD k), .sh (nsD F), .no]) (t1 := t) D.str (fun x => decide (x ∈ F) || decide (x = o)) D.str N ?_ rfl (by omega) fun y hy => ⟨[.sh .tape, .sh (nsD N), .sh V, .sh R, .sh (nD a), .sh (.str o), .sh (nD k), .sh (nsD F), .sh (.str y)], rfl, rfl, ?_, fun _ => ⟨[.sh .tape, .sh (nsD N), .sh V, .sh R, .sh (nD a), .sh (.str o), .sh (nD k), .sh (nsD F), .sh (.str y)], ?_, rfl⟩⟩
    · generalize nsD F = FF
      unfold nsD
      simp [mop, ev2, ev1, evA, getA, look, slotOk, mcst, mvar, asB, mlst, mtup, mcons, mnil, mfn, mfnL, evN, evAs, getAs, mite, band, bor, bnot, mand, mor, mnot, mcall, iseq, irange1, irange2, sset, ssetO, sret, sdrop, snil, sif, gset, mmut, isL1, ssub, spar, evOs, setSls, slOf, sasg, gtup, gcons, gnil, mslice, osome, onone, mopL, mlensetA, misinst, mmt, kindD, saug, byes]
    · have i := (in_strs (hN.okS _ hy).1 oF).1
      have e : eqD (.str y) (.str o) = some (.bl (decide (y = o))) := by
        simp only [eqD, scalD, Bool.true_or, if_true, eqv_str_str]
      generalize nsD N = NN
      generalize nsD F = FF at i ⊢
      generalize decide (y ∈ F) = b1 at i ⊢
      generalize decide (y = o) = b2 at e ⊢
      unfold ct__law_bent_2
      cases b1 <;> simp [mop, ev2, ev1, evA, getA, look, slotOk, mcst, mvar, asB, mlst, mtup, mcons, mnil, mfn, mfnL, evN, evAs, getAs, mite, band, bor, bnot, mand, mor, mnot, mcall, iseq, irange1, irange2, sset, ssetO, sret, sdrop, snil, sif, gset, mmut, isL1, ssub, spar, evOs, setSls, slOf, sasg, gtup, gcons, gnil, mslice, osome, onone, mopL, mlensetA, misinst, mmt, kindD, saug, byes, i, e]
    · unfold ce__law_bent_2
      generalize nsD N = NN
      generalize nsD F = FF
      simp [mop, ev2, ev1, evA, getA, look, slotOk, mcst, mvar, asB, mlst, mtup, mcons, mnil, mfn, mfnL, evN, evAs, getAs, mite, band, bor, bnot, mand, mor, mnot, mcall, iseq, irange1, irange2, sset, ssetO, sret, sdrop, snil, sif, gset, mmut, isL1, ssub, spar, evOs, setSls, slOf, sasg, gtup, gcons, gnil, mslice, osome, onone, mopL, mlensetA, misinst, mmt, kindD, saug, byes]
  obtain ⟨x, t', p, hx⟩ := pick_any (.lst [.tup L1, .tup (F.map .str).reverse, nsD (N.filter fun x => decide (x ∈ F) || decide (x = o))]) _ (.inl rfl) (by simp) (by simp) t
  have gx : gd 5 x = true := by
    simp only [List.mem_cons, List.not_mem_nil, or_false] at hx
    rcases hx with rfl | rfl | rfl
    · exact gd_tup (by rw [List.length_map] at l3; omega) g3
    · exact gd_tup (by rw [List.length_reverse, List.length_map]; omega) gFs.rev
    · exact gd_nsD (fun y hy => hN.un y (List.mem_filter.mp hy).1) (by have := List.length_filter_le (fun x => decide (x ∈ F) || decide (x = o)) N; omega) 4
  have ad1 := add_tup (a := A) (b := [x]) (by simp; omega)
  have ad2 := add_tup (a := A ++ [x]) (b := B) (by simp; omega)
  have tu : tuple1 [lsD (N.filter fun x => decide (x ∈ F) || decide (x = o))] = some (nsD (N.filter fun x => decide (x ∈ F) || decide (x = o))) := rfl
  refine ⟨.tup [.str "families", .tup (A ++ [x] ++ B)], [.sh .tape, .sh (nsD N), .sh V, .sh (.tup ds), .sh (nD a), .sh (.str o), .sh (nD k), .sh (nsD F), .no], t', ?_, .of (n := 7) (by omega) (gd_tup (by simp) (.cons (gd_str (by decide +kernel) 6) (.cons (gd_tup (by simp; omega) ((g1.app (.cons gx .nil)).app g2)) .nil)))⟩
  refine scons_nx (Z := tz) (e1 := [.sh .tape, .sh (nsD N), .sh V, .sh (.tup ds), .sh (nD a), .sh (.str o), .sh (nD k), .sh (nsD F), .no]) (t1 := t) ?_ ?_
  · generalize nsD N = NN
    generalize nsD F = FF at gF ⊢
    generalize D.tup ds = R at gF ⊢
    unfold bE
    simp [mop, ev2, ev1, evA, getA, look, slotOk, mcst, mvar, asB, mlst, mtup, mcons, mnil, mfn, mfnL, evN, evAs, getAs, mite, band, bor, bnot, mand, mor, mnot, mcall, iseq, irange1, irange2, sset, ssetO, sret, sdrop, snil, sif, gset, mmut, isL1, ssub, spar, evOs, setSls, slOf, sasg, gtup, gcons, gnil, mslice, osome, onone, mopL, mlensetA, misinst, mmt, kindD, saug, byes, gF]
  · have c := c t
    have r : mrev (Z := tz) (mvar 7) [.sh .tape, .sh (nsD N), .sh V, .sh (.tup ds), .sh (nD a), .sh (.str o), .sh (nD k), .sh (nsD F), .no] t = some (.tup (F.map .str).reverse, [.sh .tape, .sh (nsD N), .sh V, .sh (.tup ds), .sh (nD a), .sh (.str o), .sh (nD k), .sh (nsD F), .no], t) := by
      generalize nsD N = NN
      generalize D.tup ds = R
      unfold nsD mrev
      simp [mop, ev2, ev1, evA, getA, look, slotOk, mcst, mvar, asB, mlst, mtup, mcons, mnil, mfn, mfnL, evN, evAs, getAs, mite, band, bor, bnot, mand, mor, mnot, mcall, iseq, irange1, irange2, sset, ssetO, sret, sdrop, snil, sif, gset, mmut, isL1, ssub, spar, evOs, setSls, slOf, sasg, gtup, gcons, gnil, mslice, osome, onone, mopL, mlensetA, misinst, mmt, kindD, saug, byes]
    rw [show D.tup (F.map .str) = nsD F from rfl] at s3
    generalize nsD (N.filter fun x => decide (x ∈ F) || decide (x = o)) = Q1 at tu p
    generalize lsD (N.filter fun x => decide (x ∈ F) || decide (x = o)) = Q2 at tu c
    generalize D.tup (F.map .str).reverse = Q3 at p r
    generalize nsD N = NN at c r ⊢
    generalize nsD F = FF at s3 c r ⊢
    generalize D.tup L1 = Q4 at s3 p
    generalize D.tup (A ++ [x] ++ B) = Q7 at ad2 ⊢
    generalize D.tup (A ++ [x]) = Q6 at ad1 ad2
    generalize D.tup ds = R at s1 s2 c r ⊢
    generalize D.tup A = AA at s1 ad1
    generalize D.tup B = BB at s2 ad2
    obtain ⟨C, hC⟩ : ∃ z, z = c__law_bent_2 := ⟨_, rfl⟩
    rw [← hC] at c ⊢
    clear hC
    obtain ⟨F, hF⟩ : ∃ z, z = f__law_pick := ⟨_, rfl⟩
    rw [← hF] at p ⊢
    clear hF
    generalize mrev (Z := tz) (mvar 7) = MR at r ⊢
    simp [mop, ev2, ev1, evA, getA, look, slotOk, mcst, mvar, asB, mlst, mtup, mcons, mnil, mfn, mfnL, evN, evAs, getAs, mite, band, bor, bnot, mand, mor, mnot, mcall, iseq, irange1, irange2, sset, ssetO, sret, sdrop, snil, sif, gset, mmut, isL1, ssub, spar, evOs, setSls, slOf, sasg, gtup, gcons, gnil, mslice, osome, onone, mopL, mlensetA, misinst, mmt, kindD, saug, byes, s1, s2, s3, r, c, tu, p, ad1, ad2, a1]
end K29

namespace K29
open PySem L2 DL

theorem eq_int (i j : Int) : eqD (.int i) (.int j) = some (.bl (decide (i = j))) := by
  simp only [eqD, scalD, Bool.true_or, if_true, eqvD]
  congr 2
theorem sn {NN V R a one : D} {k : Nat} {j : Int} {X : SM tz} {t : Tp} (h : (k : Int) ≠ j) : sif (asB (mop eqD (.v 6) (.e (mcst (.int j))))) X snil (bE NN V R a one k) t = some (.nx, bE NN V R a one k, t) := by
  have e : eqD (nD k) (.int j) = some (.bl (decide ((k : Int) = j))) := eq_int k j
  rw [decide_eq_false h] at e
  unfold bE
  generalize nD k = z at e ⊢
  simp [mop, ev2, ev1, evA, getA, look, slotOk, mcst, mvar, asB, mlst, mtup, mcons, mnil, mfn, mfnL, evN, evAs, getAs, mite, band, bor, bnot, mand, mor, mnot, mcall, iseq, irange1, irange2, sset, ssetO, sret, sdrop, snil, sif, gset, mmut, isL1, ssub, spar, evOs, setSls, slOf, sasg, gtup, gcons, gnil, mslice, osome, onone, mopL, mlensetA, misinst, mmt, kindD, saug, byes, e]
theorem sy {NN V R a one : D} {k : Nat} {j : Int} {X : SM tz} {t : Tp} {r : Option (Fl × List Sl × Tp)} (hj : (k : Int) = j) (h : X (bE NN V R a one k) t = r) : sif (asB (mop eqD (.v 6) (.e (mcst (.int j))))) X snil (bE NN V R a one k) t = r := by
  have e : eqD (nD k) (.int j) = some (.bl (decide ((k : Int) = j))) := eq_int k j
  rw [decide_eq_true hj] at e
  unfold bE at h ⊢
  generalize nD k = z at e h ⊢
  simp [mop, ev2, ev1, evA, getA, look, slotOk, mcst, mvar, asB, mlst, mtup, mcons, mnil, mfn, mfnL, evN, evAs, getAs, mite, band, bor, bnot, mand, mor, mnot, mcall, iseq, irange1, irange2, sset, ssetO, sret, sdrop, snil, sif, gset, mmut, isL1, ssub, spar, evOs, setSls, slOf, sasg, gtup, gcons, gnil, mslice, osome, onone, mopL, mlensetA, misinst, mmt, kindD, saug, byes, e, h]
theorem s6n {NN V R a one : D} {k : Nat} {c : MB tz} {X : SM tz} {t : Tp} (h : (k : Int) ≠ 6) : sif (band (asB (mop eqD (.v 6) (.e (mcst (.int 6))))) c) X snil (bE NN V R a one k) t = some (.nx, bE NN V R a one k, t) := by
  have e : eqD (nD k) (.int 6) = some (.bl (decide ((k : Int) = 6))) := eq_int k 6
  rw [decide_eq_false h] at e
  unfold bE
  generalize nD k = z at e ⊢
  simp [mop, ev2, ev1, evA, getA, look, slotOk, mcst, mvar, asB, mlst, mtup, mcons, mnil, mfn, mfnL, evN, evAs, getAs, mite, band, bor, bnot, mand, mor, mnot, mcall, iseq, irange1, irange2, sset, ssetO, sret, sdrop, snil, sif, gset, mmut, isL1, ssub, spar, evOs, setSls, slOf, sasg, gtup, gcons, gnil, mslice, osome, onone, mopL, mlensetA, misinst, mmt, kindD, saug, byes, e]
theorem s6w {NN V R a one W : D} {b : Bool} {X : SM tz} {t : Tp} (i0 : idxD V (.int 0) = some W) (ew : eqD W (.str "families") = some (.bl b)) {r : Option (Fl × List Sl × Tp)} (h : b = true → X (bE NN V R a one 6) t = r) (h2 : b = false → r = some (.nx, bE NN V R a one 6, t)) :
    sif (band (asB (mop eqD (.v 6) (.e (mcst (.int 6))))) (asB (mop eqD (.e (mop idxD (.v 2) (.e (mcst (.int 0))))) (.e (mcst (.str "families")))))) X snil (bE NN V R a one 6) t = r := by
  have e := eq_int 6 6
  rw [decide_eq_true rfl] at e
  have e' : eqD (nD 6) (.int 6) = some (.bl true) := e
  cases b with
  | true =>
    have h := h rfl
    unfold bE at h ⊢
    generalize nD 6 = z at e' h ⊢
    simp [mop, ev2, ev1, evA, getA, look, slotOk, mcst, mvar, asB, mlst, mtup, mcons, mnil, mfn, mfnL, evN, evAs, getAs, mite, band, bor, bnot, mand, mor, mnot, mcall, iseq, irange1, irange2, sset, ssetO, sret, sdrop, snil, sif, gset, mmut, isL1, ssub, spar, evOs, setSls, slOf, sasg, gtup, gcons, gnil, mslice, osome, onone, mopL, mlensetA, misinst, mmt, kindD, saug, byes, e', i0, ew, h]
  | false =>
    rw [h2 rfl]
    unfold bE
    generalize nD 6 = z at e' ⊢
    simp [mop, ev2, ev1, evA, getA, look, slotOk, mcst, mvar, asB, mlst, mtup, mcons, mnil, mfn, mfnL, evN, evAs, getAs, mite, band, bor, bnot, mand, mor, mnot, mcall, iseq, irange1, irange2, sset, ssetO, sret, sdrop, snil, sif, gset, mmut, isL1, ssub, spar, evOs, setSls, slOf, sasg, gtup, gcons, gnil, mslice, osome, onone, mopL, mlensetA, misinst, mmt, kindD, saug, byes, e', i0, ew]
theorem rt_of {X : SM tz} {e : List Sl} {t : Tp} (h : Ok1 (X e t)) : ∃ d e' t', X e t = some (.rt d, e', t') ∧ Gd d := h
theorem chain {N : List Str} (hN : Nms N) (h0 : N ≠ []) {w : Str} {ds : List D} {a : Nat} {o : Str} {k : Nat} (hw : gd 0 (.str w) = true) (h : gdl 5 ds) (hl : ds.length ≤ 20) (hf : w = "families" → ∃ Fs : List (List Str), ds = Fs.map nsD ∧ ∀ F ∈ Fs, Lot N F) (ha : a < ds.length) (ho : o ∈ N) (hk : k < 10) (t : Tp) :
    ∃ d e' t', (scons (sif (asB (mop eqD (.v 6) (.e (mcst (.int 0))))) (sret (mtup (mcons (mop idxD (.v 2) (.e (mcst (.int 0)))) (mcons (mop addD (.e (mslice sliceD (.v 3) onone (osome (mvar 4)))) (.e (mslice sliceD (.v 3) (osome (mop addD (.v 4) (.e (mcst (.int 1))))) onone))) mnil)))) snil) (scons (sif (asB (mop eqD (.v 6) (.e (mcst (.int 1))))) (sret (mtup (mcons (mop idxD (.v 2) (.e (mcst (.int 0)))) (mcons (mrev (mvar 3)) mnil)))) snil) (scons (sif (asB (mop eqD (.v 6) (.e (mcst (.int 2))))) (sret (mtup (mcons (mcall 2 f__law_pick (mcons (mvar 0) (mcons (mlst (mcons (mcst (.str "families")) (mcons (mcst (.str "tied")) (mcons (mcst (.str "open")) mnil)))) mnil))) (mcons (mvar 3) mnil)))) snil) (scons (sif (asB (mop eqD (.v 6) (.e (mcst (.int 3))))) (sret (mtup (mcons (mop idxD (.v 2) (.e (mcst (.int 0)))) (mcons (mfnL list1 [(.v 3)]) mnil)))) snil) (scons (sif (asB (mop eqD (.v 6) (.e (mcst (.int 4))))) (sret (mtup (mcons (mop idxD (.v 2) (.e (mcst (.int 0)))) (mcons (mop addD (.v 3) (.e (mslice sliceD (.v 3) (osome (mvar 4)) (osome (mop addD (.v 4) (.e (mcst (.int 1)))))))) mnil)))) snil) (scons (sif (asB (mop eqD (.v 6) (.e (mcst (.int 5))))) (sret (mtup (mcons (mop idxD (.v 2) (.e (mcst (.int 0)))) (mcons (mop addD (.v 3) (.e (mtup (mcons (mcall 2 f__law_pick (mcons (mvar 0) (mcons (mlst (mcons (mtup (mcons (mvar 5) mnil)) (mcons (mvar 1) (mcons (mtup (mcons (mop idxD (.v 1) (.e (mcst (.int 0)))) (mcons (mop idxD (.v 1) (.e (mneg (mcst (.int 1))))) mnil))) (mcons (mvar 5) (mcons (mtup (mcons (mcst (.str "Q9")) mnil)) (mcons (mtup mnil) (mcons (mcst .non) mnil)))))))) mnil))) mnil)))) mnil)))) snil) (scons (sif (band (asB (mop eqD (.v 6) (.e (mcst (.int 6))))) (asB (mop eqD (.e (mop idxD (.v 2) (.e (mcst (.int 0))))) (.e (mcst (.str "families")))))) (scons (sset 7 (mop idxD (.v 3) (.v 4))) (sret (mtup (mcons (mcst (.str "families")) (mcons (mop addD (.e (mop addD (.e (mslice sliceD (.v 3) onone (osome (mvar 4)))) (.e (mtup (mcons (mcall 2 f__law_pick (mcons (mvar 0) (mcons (mlst (mcons (mslice sliceD (.v 7) (osome (mcst (.int 1))) onone) (mcons (mrev (mvar 7)) (mcons (mfn tuple1 [(.e c__law_bent_2)]) mnil)))) mnil))) mnil))))) (.e (mslice sliceD (.v 3) (osome (mop addD (.v 4) (.e (mcst (.int 1))))) onone))) mnil))))) snil) (scons (sif (asB (mop eqD (.v 6) (.e (mcst (.int 7))))) (sret (mtup (mcons (mcst (.str "tied")) (mcons (mfn tuple1 [(.e c__law_bent_1)]) mnil)))) snil) (scons (sif (asB (mop eqD (.v 6) (.e (mcst (.int 8))))) (sret (mop addD (.v 2) (.e (mtup (mcons (mcst .non) mnil))))) snil) (sret (mcall 2 f__law_pick (mcons (mvar 0) (mcons (mlst (mcons (mcst .non) (mcons (mtup mnil) (mcons (mcst (.str "tied")) (mcons (mcst (.int 5)) (mcons (mlst (mcons (mcst (.str "tied")) (mcons (mvar 3) mnil))) (mcons (mcst (.dic [] [])) (mcons (mtup (mcons (mcst (.str "tied")) (mcons (mcst (.int 5)) mnil))) mnil)))))))) mnil))))))))))))) (bE (nsD N) (.tup [.str w, .tup ds]) (.tup ds) (nD a) (.str o) k) t = some (.rt d, e', t') ∧ Gd d := by
  have go : gd 0 (.str o) = true := gd_str (hN.un o ho) 0
  match k, hk with
  | 0, _ =>
    obtain ⟨d, e, t', q, g⟩ := b_0 (NN := nsD N) (W := .str w) (ds := ds) (a := a) (one := .str o) (k := 0) t h hl hw
    exact ⟨d, e, t', scons_rt (Z := tz) (sy rfl q), g⟩
  | 1, _ =>
    obtain ⟨d, e, t', q, g⟩ := b_1 (NN := nsD N) (W := .str w) (ds := ds) (a := a) (one := .str o) (k := 1) t h hl hw
    exact ⟨d, e, t', scons_nx (Z := tz) (sn (by decide)) (scons_rt (Z := tz) (sy rfl q)), g⟩
  | 2, _ =>
    obtain ⟨d, e, t', q, g⟩ := b_2 (NN := nsD N) (W := .str w) (ds := ds) (a := a) (one := .str o) (k := 2) t h hl
    exact ⟨d, e, t', scons_nx (Z := tz) (sn (by decide)) (scons_nx (Z := tz) (sn (by decide)) (scons_rt (Z := tz) (sy rfl q))), g⟩
  | 3, _ =>
    obtain ⟨d, e, t', q, g⟩ := b_3 (NN := nsD N) (W := .str w) (ds := ds) (a := a) (one := .str o) (k := 3) t h hl hw
    exact ⟨d, e, t', scons_nx (Z := tz) (sn (by decide)) (scons_nx (Z := tz) (sn (by decide)) (scons_nx (Z := tz) (sn (by decide)) (scons_rt (Z := tz) (sy rfl q)))), g⟩
  | 4, _ =>
    obtain ⟨d, e, t', q, g⟩ := b_4 (NN := nsD N) (W := .str w) (ds := ds) (a := a) (one := .str o) (k := 4) t h hl hw
    exact ⟨d, e, t', scons_nx (Z := tz) (sn (by decide)) (scons_nx (Z := tz) (sn (by decide)) (scons_nx (Z := tz) (sn (by decide)) (scons_nx (Z := tz) (sn (by decide)) (scons_rt (Z := tz) (sy rfl q))))), g⟩
  | 5, _ =>
    obtain ⟨d, e, t', q, g⟩ := b_5 (W := .str w) (ds := ds) (a := a) (one := .str o) (k := 5) t h hl hw hN h0 go
    exact ⟨d, e, t', scons_nx (Z := tz) (sn (by decide)) (scons_nx (Z := tz) (sn (by decide)) (scons_nx (Z := tz) (sn (by decide)) (scons_nx (Z := tz) (sn (by decide)) (scons_nx (Z := tz) (sn (by decide)) (scons_rt (Z := tz) (sy rfl q)))))), g⟩
  | 6, _ =>
    have i0 : idxD (.tup [.str w, .tup ds]) (.int 0) = some (.str w) := ix0 _ _
    have ew : eqD (.str w) (.str "families") = some (.bl (decide (w = "families"))) := by
      simp only [eqD, scalD, Bool.true_or, if_true, eqv_str_str]
    by_cases z : w = "families"
    · obtain ⟨Fs, rfl, hF⟩ := hf z
      subst z
      rw [List.length_map] at hl ha
      obtain ⟨d, e, t', q, g⟩ := b_6 (k := 6) t hN hF hl ha ho
      exact ⟨d, e, t', scons_nx (Z := tz) (sn (by decide)) (scons_nx (Z := tz) (sn (by decide)) (scons_nx (Z := tz) (sn (by decide)) (scons_nx (Z := tz) (sn (by decide)) (scons_nx (Z := tz) (sn (by decide)) (scons_nx (Z := tz) (sn (by decide)) (scons_rt (Z := tz) (s6w i0 ew (fun _ => q) (fun z => absurd z (by simp))))))))), g⟩
    · rw [decide_eq_false z] at ew
      obtain ⟨d, e, t', q, g⟩ := b_9 (NN := nsD N) (W := .str w) (ds := ds) (a := a) (one := .str o) (k := 6) t h hl
      exact ⟨d, e, t', scons_nx (Z := tz) (sn (by decide)) (scons_nx (Z := tz) (sn (by decide)) (scons_nx (Z := tz) (sn (by decide)) (scons_nx (Z := tz) (sn (by decide)) (scons_nx (Z := tz) (sn (by decide)) (scons_nx (Z := tz) (sn (by decide)) (scons_nx (Z := tz) (s6w i0 ew (fun z => by cases z) (fun _ => rfl)) (scons_nx (Z := tz) (sn (by decide)) (scons_nx (Z := tz) (sn (by decide)) q)))))))), g⟩
  | 7, _ =>
    obtain ⟨d, e, t', q, g⟩ := b_7 (W := .str w) (ds := ds) (a := a) (one := .str o) (k := 7) t hN
    exact ⟨d, e, t', scons_nx (Z := tz) (sn (by decide)) (scons_nx (Z := tz) (sn (by decide)) (scons_nx (Z := tz) (sn (by decide)) (scons_nx (Z := tz) (sn (by decide)) (scons_nx (Z := tz) (sn (by decide)) (scons_nx (Z := tz) (sn (by decide)) (scons_nx (Z := tz) (s6n (by decide)) (scons_rt (Z := tz) (sy rfl q)))))))), g⟩
  | 8, _ =>
    obtain ⟨d, e, t', q, g⟩ := b_8 (NN := nsD N) (W := .str w) (ds := ds) (a := a) (one := .str o) (k := 8) t h hl hw
    exact ⟨d, e, t', scons_nx (Z := tz) (sn (by decide)) (scons_nx (Z := tz) (sn (by decide)) (scons_nx (Z := tz) (sn (by decide)) (scons_nx (Z := tz) (sn (by decide)) (scons_nx (Z := tz) (sn (by decide)) (scons_nx (Z := tz) (sn (by decide)) (scons_nx (Z := tz) (s6n (by decide)) (scons_nx (Z := tz) (sn (by decide)) (scons_rt (Z := tz) (sy rfl q))))))))), g⟩
  | 9, _ =>
    obtain ⟨d, e, t', q, g⟩ := b_9 (NN := nsD N) (W := .str w) (ds := ds) (a := a) (one := .str o) (k := 9) t h hl
    exact ⟨d, e, t', scons_nx (Z := tz) (sn (by decide)) (scons_nx (Z := tz) (sn (by decide)) (scons_nx (Z := tz) (sn (by decide)) (scons_nx (Z := tz) (sn (by decide)) (scons_nx (Z := tz) (sn (by decide)) (scons_nx (Z := tz) (sn (by decide)) (scons_nx (Z := tz) (s6n (by decide)) (scons_nx (Z := tz) (sn (by decide)) (scons_nx (Z := tz) (sn (by decide)) q)))))))), g⟩
theorem bent_run {N : List Str} (hN : Nms N) (h3 : 3 ≤ N.length) {cs : List Cl} {v : D} (hv : Made N cs v) (t : Tp) : ∃ d t', f__law_bent [.tape, nsD N, v] t = some (d, t') ∧ Gd d := by
  have h7 := hN.len
  have h0 : N ≠ [] := fun z => by rw [z] at h3; simp at h3
  obtain ⟨w, ds, rfl, hw, gds, hl, hf⟩ : ∃ (w : Str) (ds : List D), v = .tup [.str w, .tup ds] ∧ gd 0 (.str w) = true ∧ gdl 5 ds ∧ ds.length ≤ 20 ∧ (w = "families" → ∃ Fs : List (List Str), ds = Fs.map nsD ∧ ∀ F ∈ Fs, Lot N F) := by
    rcases hv.sh with ⟨W, rfl, hW⟩ | ⟨Fs, rfl, hF, hl⟩
    · refine ⟨"tied", W.map .str, rfl, gd_str (by decide +kernel) 0, fun d hd => ?_, by have := hW.len; rw [List.length_map]; omega, fun z => absurd z (by decide +kernel)⟩
      obtain ⟨x, hx, rfl⟩ := List.mem_map.mp hd
      exact gd_str (hN.un x (hW.sub x hx)) 5
    · refine ⟨"families", Fs.map nsD, rfl, gd_str (by decide +kernel) 0, fun d hd => ?_, by rw [List.length_map]; omega, fun _ => ⟨Fs, rfl, hF⟩⟩
      obtain ⟨G, hG, rfl⟩ := List.mem_map.mp hd
      exact gd_nsD (fun x hx => hN.un x ((hF G hG).sub x hx)) (by have := (hF G hG).len; omega) 4
  have i1 : idxD (.tup [.str w, .tup ds]) (.int 1) = some (.tup ds) := ix1 _ _ _
  have i0 : idxD (.tup [.str w, .tup ds]) (.int 0) = some (.str w) := ix0 _ _
  have l1 : len1 [.tup ds] = some (nD ds.length) := rfl
  have e0 : eqD (nD ds.length) (.int 0) = some (.bl (decide ((ds.length : Int) = 0))) := eq_int ds.length 0
  have s3 : sset (Z := tz) 3 (mop idxD (.v 2) (.e (mcst (.int 1)))) [.sh .tape, .sh (nsD N), .sh (.tup [.str w, .tup ds]), .no, .no, .no, .no, .no, .no] t = some (.nx, [.sh .tape, .sh (nsD N), .sh (.tup [.str w, .tup ds]), .sh (.tup ds), .no, .no, .no, .no, .no], t) := by
    generalize D.tup [.str w, .tup ds] = V at i1 ⊢
    generalize D.tup ds = R at i1 ⊢
    generalize nsD N = NN
    simp [mop, ev2, ev1, evA, getA, look, slotOk, mcst, mvar, asB, mlst, mtup, mcons, mnil, mfn, mfnL, evN, evAs, getAs, mite, band, bor, bnot, mand, mor, mnot, mcall, iseq, irange1, irange2, sset, ssetO, sret, sdrop, snil, sif, gset, mmut, isL1, ssub, spar, evOs, setSls, slOf, sasg, gtup, gcons, gnil, mslice, osome, onone, mopL, mlensetA, misinst, mmt, kindD, saug, byes, i1]
  by_cases z : ds.length = 0
  · rw [decide_eq_true (by omega)] at e0
    obtain ⟨L1, s1, g1, l2⟩ := sl_ex (n := 4) (ds := N.map .str) (fun d hd => by
      obtain ⟨x, hx, rfl⟩ := List.mem_map.mp hd
      exact gd_str (hN.un x hx) 4) none (some 1)
    rw [List.length_map] at l2
    rw [show D.tup (N.map .str) = nsD N from rfl] at s1
    obtain ⟨x, t', p, hx⟩ := pick_any (.lst [.tup [.str "families", .tup [nsD N]], .tup [.str "families", .tup [.tup L1]], .tup [.str "tied", nsD N], .tup [.str "families", .tup [.tup []]], .tup [.str "tied", .tup []], .tup [.str "families", .non]]) _ (.inl rfl) (by simp) (by simp) t
    have u1 : gd 7 (.str "families") = true := gd_str (by decide +kernel) 7
    have u2 : gd 7 (.str "tied") = true := gd_str (by decide +kernel) 7
    have gN : ∀ n, gd (n + 1) (nsD N) = true := fun n => gd_nsD hN.un (by omega) n
    have gx : gd 8 x = true := by
      simp only [List.mem_cons, List.not_mem_nil, or_false] at hx
      rcases hx with rfl | rfl | rfl | rfl | rfl | rfl
      · exact gd_tup (by simp) (.cons u1 (.cons (gd_tup (by simp) (.cons (gN 5) .nil)) .nil))
      · exact gd_tup (by simp) (.cons u1 (.cons (gd_tup (by simp) (.cons (gd_tup (by omega) (g1.mono (m := 5) (by omega))) .nil)) .nil))
      · exact gd_tup (by simp) (.cons u2 (.cons (gN 6) .nil))
      · exact gd_tup (by simp) (.cons u1 (.cons (gd_tup (by simp) (.cons (gd_tup (n := 5) (by simp) .nil) .nil)) .nil))
      · exact gd_tup (by simp) (.cons u2 (.cons (gd_tup (n := 6) (by simp) .nil) .nil))
      · exact gd_tup (by simp) (.cons u1 (.cons rfl .nil))
    refine ⟨x, t', ?_, .of (n := 8) (by omega) gx⟩
    refine runFn_at (Z := tz) (e1 := [.sh .tape, .sh (nsD N), .sh (.tup [.str w, .tup ds]), .sh (.tup ds), .no, .no, .no, .no, .no]) [.sh .tape, .sh (nsD N), .sh (.tup [.str w, .tup ds]), .no, .no, .no, .no, .no, .no] rfl (scons_nx (Z := tz) s3 (scons_rt (Z := tz) ?_))
    generalize D.tup [.str w, .tup ds] = V
    generalize D.tup ds = R at l1 ⊢
    generalize nsD N = NN at s1 p ⊢
    generalize D.tup L1 = LL at s1 p
    obtain ⟨F, hF⟩ : ∃ z, z = f__law_pick := ⟨_, rfl⟩
    rw [← hF] at p ⊢
    clear hF
    simp [mop, ev2, ev1, evA, getA, look, slotOk, mcst, mvar, asB, mlst, mtup, mcons, mnil, mfn, mfnL, evN, evAs, getAs, mite, band, bor, bnot, mand, mor, mnot, mcall, iseq, irange1, irange2, sset, ssetO, sret, sdrop, snil, sif, gset, mmut, isL1, ssub, spar, evOs, setSls, slOf, sasg, gtup, gcons, gnil, mslice, osome, onone, mopL, mlensetA, misinst, mmt, kindD, saug, byes, l1, e0, s1, p]
  · rw [decide_eq_false (by omega)] at e0
    obtain ⟨a, t1, ta, ha⟩ := take_ex ds.length (by omega) (by omega) t
    obtain ⟨oD, t2, po, ho⟩ := pick_any (nsD N) (N.map .str) (.inr rfl) (by rw [List.length_map]; omega) (by rw [List.length_map]; omega) t1
    obtain ⟨o, hoN, rfl⟩ := List.mem_map.mp ho
    obtain ⟨k, t3, tk, hk⟩ := take_ex 10 (by omega) (by omega) t2
    have tk' : f__law_take [.tape, .int 10] t2 = some (nD k, t3) := tk
    have go : gd 0 (.str o) = true := gd_str (hN.un o hoN) 0
    suffices h : ∀ M : SM tz, (∃ d e' t', M (bE (nsD N) (.tup [.str w, .tup ds]) (.tup ds) (nD a) (.str o) k) t3 = some (.rt d, e', t') ∧ Gd d) → ∃ d e' t',
        scons (sset 3 (mop idxD (.v 2) (.e (mcst (.int 1))))) (scons (sif (asB (mop eqD (.e (mfn len1 [(.v 3)])) (.e (mcst (.int 0))))) (sret (mcall 2 f__law_pick (mcons (mvar 0) (mcons (mlst (mcons (mtup (mcons (mcst (.str "families")) (mcons (mtup (mcons (mvar 1) mnil)) mnil))) (mcons (mtup (mcons (mcst (.str "families")) (mcons (mtup (mcons (mslice sliceD (.v 1) onone (osome (mcst (.int 1)))) mnil)) mnil))) (mcons (mtup (mcons (mcst (.str "tied")) (mcons (mvar 1) mnil))) (mcons (mtup (mcons (mcst (.str "families")) (mcons (mtup (mcons (mtup mnil) mnil)) mnil))) (mcons (mtup (mcons (mcst (.str "tied")) (mcons (mtup mnil) mnil))) (mcons (mtup (mcons (mcst (.str "families")) (mcons (mcst .non) mnil))) mnil))))))) mnil)))) snil)
          (scons (sset 4 (mcall 2 f__law_take (mcons (mvar 0) (mcons (mfn len1 [(.v 3)]) mnil))))
          (scons (sset 5 (mcall 2 f__law_pick (mcons (mvar 0) (mcons (mvar 1) mnil))))
          (scons (sset 6 (mcall 2 f__law_take (mcons (mvar 0) (mcons (mcst (.int 10)) mnil)))) M)))) [.sh .tape, .sh (nsD N), .sh (.tup [.str w, .tup ds]), .no, .no, .no, .no, .no, .no] t = some (.rt d, e', t') ∧ Gd d by
      obtain ⟨d, e', t', q, g⟩ := h _ (chain hN h0 (w := w) (ds := ds) (a := a) (o := o) (k := k) hw gds hl hf ha hoN hk t3)
      exact ⟨d, t', runFn_at (Z := tz) (e1 := e') [.sh .tape, .sh (nsD N), .sh (.tup [.str w, .tup ds]), .no, .no, .no, .no, .no, .no] rfl q, g⟩
    rintro M ⟨d, e', t', hM, g⟩
    refine ⟨d, e', t', ?_, g⟩
    refine scons_nx (Z := tz) s3 (scons_nx (Z := tz) (e1 := [.sh .tape, .sh (nsD N), .sh (.tup [.str w, .tup ds]), .sh (.tup ds), .no, .no, .no, .no, .no]) (t1 := t) ?_
      (scons_nx (Z := tz) (e1 := [.sh .tape, .sh (nsD N), .sh (.tup [.str w, .tup ds]), .sh (.tup ds), .sh (nD a), .no, .no, .no, .no]) (t1 := t1) ?_
      (scons_nx (Z := tz) (e1 := [.sh .tape, .sh (nsD N), .sh (.tup [.str w, .tup ds]), .sh (.tup ds), .sh (nD a), .sh (.str o), .no, .no, .no]) (t1 := t2) ?_
      (scons_nx (Z := tz) (e1 := bE (nsD N) (.tup [.str w, .tup ds]) (.tup ds) (nD a) (.str o) k) (t1 := t3) ?_ hM))))
    · clear hM
      generalize D.tup [.str w, .tup ds] = V
      generalize D.tup ds = R at l1 ⊢
      generalize nsD N = NN
      simp [mop, ev2, ev1, evA, getA, look, slotOk, mcst, mvar, asB, mlst, mtup, mcons, mnil, mfn, mfnL, evN, evAs, getAs, mite, band, bor, bnot, mand, mor, mnot, mcall, iseq, irange1, irange2, sset, ssetO, sret, sdrop, snil, sif, gset, mmut, isL1, ssub, spar, evOs, setSls, slOf, sasg, gtup, gcons, gnil, mslice, osome, onone, mopL, mlensetA, misinst, mmt, kindD, saug, byes, l1, e0]
    · clear hM
      generalize D.tup [.str w, .tup ds] = V
      generalize D.tup ds = R at l1 ⊢
      generalize nsD N = NN
      generalize nD ds.length = n at l1 ta
      obtain ⟨F, hF⟩ : ∃ z, z = f__law_take := ⟨_, rfl⟩
      rw [← hF] at ta ⊢
      clear hF
      simp [mop, ev2, ev1, evA, getA, look, slotOk, mcst, mvar, asB, mlst, mtup, mcons, mnil, mfn, mfnL, evN, evAs, getAs, mite, band, bor, bnot, mand, mor, mnot, mcall, iseq, irange1, irange2, sset, ssetO, sret, sdrop, snil, sif, gset, mmut, isL1, ssub, spar, evOs, setSls, slOf, sasg, gtup, gcons, gnil, mslice, osome, onone, mopL, mlensetA, misinst, mmt, kindD, saug, byes, l1, ta]
    · clear hM
      generalize D.tup [.str w, .tup ds] = V
      generalize D.tup ds = R
      generalize nsD N = NN at po ⊢
      obtain ⟨F, hF⟩ : ∃ z, z = f__law_pick := ⟨_, rfl⟩
      rw [← hF] at po ⊢
      clear hF
      simp [mop, ev2, ev1, evA, getA, look, slotOk, mcst, mvar, asB, mlst, mtup, mcons, mnil, mfn, mfnL, evN, evAs, getAs, mite, band, bor, bnot, mand, mor, mnot, mcall, iseq, irange1, irange2, sset, ssetO, sret, sdrop, snil, sif, gset, mmut, isL1, ssub, spar, evOs, setSls, slOf, sasg, gtup, gcons, gnil, mslice, osome, onone, mopL, mlensetA, misinst, mmt, kindD, saug, byes, po]
    · clear hM
      generalize D.tup [.str w, .tup ds] = V
      generalize D.tup ds = R
      generalize nsD N = NN
      unfold bE
      generalize nD k = q at tk' ⊢
      obtain ⟨F, hF⟩ : ∃ z, z = f__law_take := ⟨_, rfl⟩
      rw [← hF] at tk' ⊢
      clear hF
      simp [mop, ev2, ev1, evA, getA, look, slotOk, mcst, mvar, asB, mlst, mtup, mcons, mnil, mfn, mfnL, evN, evAs, getAs, mite, band, bor, bnot, mand, mor, mnot, mcall, iseq, irange1, irange2, sset, ssetO, sret, sdrop, snil, sif, gset, mmut, isL1, ssub, spar, evOs, setSls, slOf, sasg, gtup, gcons, gnil, mslice, osome, onone, mopL, mlensetA, misinst, mmt, kindD, saug, byes, tk']
end K29

namespace K29
open PySem L2 DL

theorem eqv_refl : ∀ (n : Nat) (d : D), gd n d = true → eqvD d d = true := by
  intro n
  have hl : ∀ (m : Nat) (ds : List D), (∀ d, gd m d = true → eqvD d d = true) → gdl m ds → eqvL ds ds = true := by
    intro m ds h hd
    induction ds with
    | nil => rfl
    | cons a r ih =>
      simp only [eqvL, Bool.and_eq_true]
      exact ⟨h a (hd a List.mem_cons_self), ih fun d hd' => hd d (List.mem_cons_of_mem _ hd')⟩
  induction n with
  | zero => intro d h; cases d <;> first | (simp [eqvD]; done) | (simp [gd] at h)
  | succ n ih =>
    intro d h
    cases d with
    | tup xs =>
      simp only [gd, Bool.and_eq_true, List.all_eq_true] at h
      simp only [eqvD]
      exact hl n xs ih h.2
    | lst xs =>
      simp only [gd, Bool.and_eq_true, List.all_eq_true] at h
      simp only [eqvD]
      exact hl n xs ih h.2
    | _ => first | (simp [eqvD]; done) | (simp [gd] at h)
/-! ### claims_of -/
def sel (Fs : List (List Str)) (a b x : Str) : Bool := !decide (x ∈ [a, b]) && Fs.any (metB (a, b, x))
def cofI (N : List Str) (Fs : List (List Str)) (a b : Str) : List Cl := (N.filter (sel Fs a b)).map fun x => (a, b, x)
def nth (N : List Str) (i : Nat) : Str := N.getD i ""
def cofJ (N : List Str) (Fs : List (List Str)) (i : Nat) (js : List Nat) : List Cl := js.flatMap fun j => cofI N Fs (nth N i) (nth N j)
def cof (N : List Str) (Fs : List (List Str)) (is : List Nat) : List Cl := is.flatMap fun i => cofJ N Fs i (List.range' (i + 1) (N.length - (i + 1)))
theorem nth_get {N : List Str} {i : Nat} (h : i < N.length) : nth N i ∈ N ∧ idxD (nsD N) (nD i) = some (.str (nth N i)) := by
  have e : nth N i = N[i] := by simp [nth, List.getD_eq_getElem?_getD, h]
  refine ⟨by rw [e]; exact List.getElem_mem _, ?_⟩
  unfold nsD
  rw [idx_tup, List.getElem?_map, List.getElem?_eq_getElem h, e]; rfl
theorem cofI_len (N : List Str) (Fs : List (List Str)) (a b : Str) : (cofI N Fs a b).length ≤ N.length := by
  unfold cofI
  rw [List.length_map]
  exact List.length_filter_le _ _
theorem cofJ_len (N : List Str) (Fs : List (List Str)) (i : Nat) : ∀ js : List Nat, (cofJ N Fs i js).length ≤ js.length * N.length
  | [] => by simp [cofJ]
  | j :: js => by
    have := cofJ_len N Fs i js
    have := cofI_len N Fs (nth N i) (nth N j)
    simp only [cofJ, List.flatMap_cons, List.length_append, List.length_cons] at *
    rw [Nat.add_mul]
    omega
theorem cof_len {N : List Str} (h7 : N.length ≤ 7) (Fs : List (List Str)) : ∀ is : List Nat, (cof N Fs is).length ≤ is.length * 49
  | [] => by simp [cof]
  | i :: is => by
    have := cof_len h7 Fs is
    have h := cofJ_len N Fs i (List.range' (i + 1) (N.length - (i + 1)))
    rw [List.length_range'] at h
    have : (N.length - (i + 1)) * N.length ≤ 7 * 7 := Nat.mul_le_mul (by omega) h7
    simp only [cof, List.flatMap_cons, List.length_append, List.length_cons] at *
    omega
theorem ap_cl (xs : List Cl) (x : Cl) (h : xs.length ≤ 10000) : uAppend [clD x] (xs.map clD) = some (.non, (xs ++ [x]).map clD) := by
  have sl : (xs.map clD).length < sizeLine := by
    rw [List.length_map]
    exact Nat.lt_of_le_of_lt h (by decide)
  simp only [uAppend, sl, if_true]
  rw [List.map_append]; rfl
def oE (NN FF : D) (found : List Cl) (a b c d : Sl) : List Sl := [.sh NN, .sh FF, .ow 1 (.lst (found.map clD)), a, b, c, d]
theorem range1 (i n : Nat) : rangeD (i : Int) n = (List.range' i n).map nD := by
  unfold rangeD
  rw [List.range'_eq_map_range, List.map_map]
  apply List.map_congr_left
  intro j _
  show D.int _ = D.int _
  congr 1
theorem co_1 {N : List Str} (hN : Nms N) {Fs : List (List Str)} (hF : ∀ F ∈ Fs, OkS F) (hl : Fs.length ≤ 1000) {i j : Nat} (hi : i < N.length) (hj : j < N.length) (found : List Cl) (hz : found.length ≤ 5000) (c d : Sl) (t : Tp) :
    ∃ c' d', l_claims_of_1 (oE (nsD N) (fsD Fs) found (.sh (nD i)) (.sh (nD j)) c d) t = some (.nx, oE (nsD N) (fsD Fs) (found ++ cofI N Fs (nth N i) (nth N j)) (.sh (nD i)) (.sh (nD j)) c' d', t) := by
  have h7 := hN.len
  obtain ⟨mi, gi⟩ := nth_get hi
  obtain ⟨mj, gj⟩ := nth_get hj
  generalize nth N i = a at mi gi ⊢
  generalize nth N j = b at mj gj ⊢
  obtain ⟨e', t', l1, hinv⟩ := forL_nx (Z := tz) (g := gset 5) (b := lb_claims_of_1) (ds := N.map .str) (e := oE (nsD N) (fsD Fs) found (.sh (nD i)) (.sh (nD j)) c d) (t := t)
    (fun k e t1 => t1 = t ∧ ∃ c' d', e = oE (nsD N) (fsD Fs) (found ++ cofI (N.take k) Fs a b) (.sh (nD i)) (.sh (nD j)) c' d') ⟨rfl, c, d, by simp [cofI]⟩ fun k d0 e t1 hd hinv => by
      obtain ⟨rfl, c', d', rfl⟩ := hinv
      rw [List.getElem?_map] at hd
      cases z : N[k]? with
      | none => rw [z] at hd; simp at hd
      | some x =>
        rw [z] at hd
        simp at hd
        subst hd
        have hx := List.mem_of_getElem? z
        refine ⟨oE (nsD N) (fsD Fs) (found ++ cofI (N.take k) Fs a b) (.sh (nD i)) (.sh (nD j)) (.sh (.str x)) d', rfl, .nx, oE (nsD N) (fsD Fs) (found ++ cofI (N.take (k + 1)) Fs a b) (.sh (nD i)) (.sh (nD j)) (.sh (.str x)) (.sh (clD (a, b, x))), t1, ?_, .inl rfl, rfl, _, _, rfl⟩
        have le := cofI_len (N.take k) Fs a b
        rw [List.length_take] at le
        have e : cofI (N.take (k + 1)) Fs a b = cofI (N.take k) Fs a b ++ (if sel Fs a b x then [(a, b, x)] else []) := by
          rw [take_one z]
          unfold cofI
          rw [List.filter_append, List.map_append]
          congr 1
          by_cases q : sel Fs a b x = true
          · simp [q]
          · simp [q]
        rw [e]
        generalize cofI (N.take k) Fs a b = Q at le ⊢
        have sl : sliceD (clD (a, b, x)) none (some 2) = some (nsD [a, b]) := rfl
        have ni := (in_strs (hN.okS _ hx).1 (xs := [a, b]) (hN.okS.sub (by intro y hy; simp at hy; rcases hy with rfl | rfl; exact mi; exact mj))).2.1
        have m := meets_run hN.okS hF hl (c := (a, b, x)) ⟨mi, mj, hx⟩ t1
        have ap := ap_cl (found ++ Q) (a, b, x) (by rw [List.length_append]; omega)
        have cl : D.tup [.str a, .str b, .str x] = clD (a, b, x) := rfl
        have s1 : sset (Z := tz) 6 (mtup (mcons (mop idxD (.v 0) (.v 3)) (mcons (mop idxD (.v 0) (.v 4)) (mcons (mvar 5) mnil)))) (oE (nsD N) (fsD Fs) (found ++ Q) (.sh (nD i)) (.sh (nD j)) (.sh (.str x)) d') t1 = some (.nx, oE (nsD N) (fsD Fs) (found ++ Q) (.sh (nD i)) (.sh (nD j)) (.sh (.str x)) (.sh (clD (a, b, x))), t1) := by
          unfold oE
          rw [← cl]
          generalize nsD N = NN at gi gj ⊢
          generalize fsD Fs = FF
          generalize (found ++ Q).map clD = W
          generalize nD i = ii at gi ⊢
          generalize nD j = jj at gj ⊢
          simp [mop, ev2, ev1, evA, getA, look, slotOk, mcst, mvar, asB, mlst, mtup, mcons, mnil, mfn, mfnL, evN, evAs, getAs, mite, band, bor, bnot, mand, mor, mnot, mcall, iseq, irange1, irange2, sset, ssetO, sret, sdrop, snil, sif, gset, mmut, isL1, ssub, spar, evOs, setSls, slOf, sasg, gtup, gcons, gnil, mslice, osome, onone, mopL, mlensetA, misinst, mmt, kindD, saug, byes, gi, gj]
        unfold lb_claims_of_1
        refine scons_nx (Z := tz) s1 ?_
        unfold oE sel
        clear s1 e cl
        generalize decide (x ∈ [a, b]) = b1 at ni ⊢
        generalize Fs.any (metB (a, b, x)) = b2 at m ⊢
        rw [← List.append_assoc]
        cases b1 with
        | true =>
          simp only [Bool.not_true, Bool.false_and, Bool.false_eq_true, if_false, List.append_nil]
          generalize clD (a, b, x) = CL at sl ⊢
          generalize nsD [a, b] = AB at sl ni
          generalize nsD N = NN
          generalize fsD Fs = FF
          generalize (found ++ Q).map clD = W
          simp [mop, ev2, ev1, evA, getA, look, slotOk, mcst, mvar, asB, mlst, mtup, mcons, mnil, mfn, mfnL, evN, evAs, getAs, mite, band, bor, bnot, mand, mor, mnot, mcall, iseq, irange1, irange2, sset, ssetO, sret, sdrop, snil, sif, gset, mmut, isL1, ssub, spar, evOs, setSls, slOf, sasg, gtup, gcons, gnil, mslice, osome, onone, mopL, mlensetA, misinst, mmt, kindD, saug, byes, sl, ni]
        | false =>
          cases b2 with
          | false =>
            simp only [Bool.and_false, Bool.false_eq_true, if_false, List.append_nil]
            generalize clD (a, b, x) = CL at sl m ⊢
            generalize nsD [a, b] = AB at sl ni
            generalize nsD N = NN
            generalize fsD Fs = FF at m ⊢
            generalize (found ++ Q).map clD = W
            obtain ⟨F1, hF1⟩ : ∃ z, z = f_meets := ⟨_, rfl⟩
            rw [← hF1] at m ⊢
            clear hF1
            simp [mop, ev2, ev1, evA, getA, look, slotOk, mcst, mvar, asB, mlst, mtup, mcons, mnil, mfn, mfnL, evN, evAs, getAs, mite, band, bor, bnot, mand, mor, mnot, mcall, iseq, irange1, irange2, sset, ssetO, sret, sdrop, snil, sif, gset, mmut, isL1, ssub, spar, evOs, setSls, slOf, sasg, gtup, gcons, gnil, mslice, osome, onone, mopL, mlensetA, misinst, mmt, kindD, saug, byes, sl, ni, m]
          | true =>
            simp only [Bool.not_false, Bool.and_self, if_true]
            generalize (found ++ Q ++ [(a, b, x)]).map clD = W2 at ap ⊢
            generalize clD (a, b, x) = CL at sl m ap ⊢
            generalize nsD [a, b] = AB at sl ni
            generalize nsD N = NN
            generalize fsD Fs = FF at m ⊢
            generalize (found ++ Q).map clD = W at ap ⊢
            obtain ⟨F1, hF1⟩ : ∃ z, z = f_meets := ⟨_, rfl⟩
            rw [← hF1] at m ⊢
            clear hF1
            simp [mop, ev2, ev1, evA, getA, look, slotOk, mcst, mvar, asB, mlst, mtup, mcons, mnil, mfn, mfnL, evN, evAs, getAs, mite, band, bor, bnot, mand, mor, mnot, mcall, iseq, irange1, irange2, sset, ssetO, sret, sdrop, snil, sif, gset, mmut, isL1, ssub, spar, evOs, setSls, slOf, sasg, gtup, gcons, gnil, mslice, osome, onone, mopL, mlensetA, misinst, mmt, kindD, saug, byes, sl, ni, m, ap]
  obtain ⟨rfl, c', d', rfl⟩ := hinv
  rw [List.length_map, List.take_length] at l1
  refine ⟨c', d', ?_⟩
  unfold l_claims_of_1
  refine sfor_of (e1 := oE (nsD N) (fsD Fs) found (.sh (nD i)) (.sh (nD j)) c d) (t1 := t') (ds := N.map .str) ?_ l1
  unfold oE nsD
  generalize fsD Fs = FF
  generalize found.map clD = W
  simp [mop, ev2, ev1, evA, getA, look, slotOk, mcst, mvar, asB, mlst, mtup, mcons, mnil, mfn, mfnL, evN, evAs, getAs, mite, band, bor, bnot, mand, mor, mnot, mcall, iseq, irange1, irange2, sset, ssetO, sret, sdrop, snil, sif, gset, mmut, isL1, ssub, spar, evOs, setSls, slOf, sasg, gtup, gcons, gnil, mslice, osome, onone, mopL, mlensetA, misinst, mmt, kindD, saug, byes]
theorem rget {i n k : Nat} {d : D} (h : ((List.range' i n).map nD)[k]? = some d) : k < n ∧ d = nD (i + k) := by
  have hk : k < n := by
    have := (List.getElem?_eq_some_iff.mp h).1
    simpa using this
  rw [List.getElem?_map, List.getElem?_range' hk] at h
  exact ⟨hk, by simpa using h.symm⟩
theorem rtake (i n k : Nat) (hk : k < n) : (List.range' i n).take (k + 1) = (List.range' i n).take k ++ [i + k] := take_one (by rw [List.getElem?_range' hk]; simp)
theorem ltake (n k : Nat) (hk : k < n) : (List.range n).take (k + 1) = (List.range n).take k ++ [k] := take_one (by rw [List.getElem?_range hk])
theorem co_2 {N : List Str} (hN : Nms N) {Fs : List (List Str)} (hF : ∀ F ∈ Fs, OkS F) (hl : Fs.length ≤ 1000) {i : Nat} (hi : i < N.length) (found : List Cl) (hz : found.length ≤ 4000) (b c d : Sl) (t : Tp) :
    ∃ b' c' d', l_claims_of_2 (oE (nsD N) (fsD Fs) found (.sh (nD i)) b c d) t = some (.nx, oE (nsD N) (fsD Fs) (found ++ cofJ N Fs i (List.range' (i + 1) (N.length - (i + 1)))) (.sh (nD i)) b' c' d', t) := by
  have h7 := hN.len
  obtain ⟨e', t', l1, hinv⟩ := forL_nx (Z := tz) (g := gset 4) (b := lb_claims_of_2) (ds := (List.range' (i + 1) (N.length - (i + 1))).map nD) (e := oE (nsD N) (fsD Fs) found (.sh (nD i)) b c d) (t := t)
    (fun k e t1 => t1 = t ∧ ∃ b' c' d', e = oE (nsD N) (fsD Fs) (found ++ cofJ N Fs i ((List.range' (i + 1) (N.length - (i + 1))).take k)) (.sh (nD i)) b' c' d') ⟨rfl, b, c, d, by simp [cofJ]⟩ fun k d0 e t1 hd hinv => by
      obtain ⟨rfl, b', c', d', rfl⟩ := hinv
      obtain ⟨hk, rfl⟩ := rget hd
      have le := cofJ_len N Fs i ((List.range' (i + 1) (N.length - (i + 1))).take k)
      have le2 : ((List.range' (i + 1) (N.length - (i + 1))).take k).length * N.length ≤ 7 * 7 := Nat.mul_le_mul (by rw [List.length_take, List.length_range']; omega) h7
      obtain ⟨c2, d2, q⟩ := co_1 hN hF hl hi (j := i + 1 + k) (by omega) (found ++ cofJ N Fs i ((List.range' (i + 1) (N.length - (i + 1))).take k)) (by rw [List.length_append]; omega) c' d' t1
      refine ⟨oE (nsD N) (fsD Fs) (found ++ cofJ N Fs i ((List.range' (i + 1) (N.length - (i + 1))).take k)) (.sh (nD i)) (.sh (nD (i + 1 + k))) c' d', rfl, .nx, _, t1, q, .inl rfl, rfl, .sh (nD (i + 1 + k)), c2, d2, by rw [rtake _ _ _ hk]; simp [cofJ]⟩
  obtain ⟨rfl, b', c', d', rfl⟩ := hinv
  rw [List.length_map, List.take_length] at l1
  refine ⟨b', c', d', ?_⟩
  unfold l_claims_of_2
  refine sfor_of (e1 := oE (nsD N) (fsD Fs) found (.sh (nD i)) b c d) (t1 := t') (ds := (List.range' (i + 1) (N.length - (i + 1))).map nD) ?_ l1
  have l : len1 [nsD N] = some (nD N.length) := by simp [nsD, len1]
  have a1 : addD (nD i) (.int 1) = some (nD (i + 1)) := by simp [addD]
  have b1 : (((i + 1 : Nat)) : Int) < 4611686018427387904 := by omega
  have b2 : (((N.length : Nat)) : Int) < 4611686018427387904 := by omega
  have b3 : (-4611686018427387904 : Int) ≤ (((i + 1 : Nat)) : Int) := by omega
  have b4 : (-4611686018427387904 : Int) ≤ (((N.length : Nat)) : Int) := by omega
  have e1 : ((N.length : Int) - ((i + 1 : Nat) : Int)).toNat = N.length - (i + 1) := by omega
  have rr := range1 (i + 1) (N.length - (i + 1))
  generalize N.length - (i + 1) = m at e1 rr ⊢
  generalize N.length = n at l b2 b4 e1
  generalize i + 1 = i1 at a1 b1 b3 e1 rr ⊢
  generalize nsD N = NN at l ⊢
  generalize fsD Fs = FF
  unfold oE
  generalize found.map clD = W
  simp [mop, ev2, ev1, evA, getA, look, slotOk, mcst, mvar, asB, mlst, mtup, mcons, mnil, mfn, mfnL, evN, evAs, getAs, mite, band, bor, bnot, mand, mor, mnot, mcall, iseq, irange1, irange2, sset, ssetO, sret, sdrop, snil, sif, gset, mmut, isL1, ssub, spar, evOs, setSls, slOf, sasg, gtup, gcons, gnil, mslice, osome, onone, mopL, mlensetA, misinst, mmt, kindD, saug, byes, l, a1, irange2, b1, b2, b3, b4, e1, rr]
theorem claims_of_run {N : List Str} (hN : Nms N) {Fs : List (List Str)} (hF : ∀ F ∈ Fs, OkS F) (hl : Fs.length ≤ 1000) (t : Tp) :
    f_claims_of [nsD N, fsD Fs] t = some (.lst ((cof N Fs (List.range N.length)).map clD), t) := by
  have h7 := hN.len
  obtain ⟨e', t', l1, hinv⟩ := forL_nx (Z := tz) (g := gset 3) (b := lb_claims_of_3) (ds := (List.range N.length).map nD) (e := oE (nsD N) (fsD Fs) [] .no .no .no .no) (t := t)
    (fun k e t1 => t1 = t ∧ ∃ a' b' c' d', e = oE (nsD N) (fsD Fs) (cof N Fs ((List.range N.length).take k)) a' b' c' d') ⟨rfl, .no, .no, .no, .no, by simp [cof]⟩ fun k d0 e t1 hd hinv => by
      obtain ⟨rfl, a', b', c', d', rfl⟩ := hinv
      obtain ⟨hk, rfl⟩ := range_get hd
      have le := cof_len h7 Fs ((List.range N.length).take k)
      rw [List.length_take, List.length_range] at le
      obtain ⟨b2, c2, d2, q⟩ := co_2 hN hF hl hk (cof N Fs ((List.range N.length).take k)) (by omega) b' c' d' t1
      refine ⟨oE (nsD N) (fsD Fs) (cof N Fs ((List.range N.length).take k)) (.sh (nD k)) b' c' d', rfl, .nx, _, t1, q, .inl rfl, rfl, .sh (nD k), b2, c2, d2, by rw [ltake _ _ hk]; simp [cof]⟩
  obtain ⟨rfl, a', b', c', d', rfl⟩ := hinv
  rw [List.length_map, List.length_range, List.take_of_length_le (by simp)] at l1
  have src : l_claims_of_3 (oE (nsD N) (fsD Fs) [] .no .no .no .no) t' = some (.nx, oE (nsD N) (fsD Fs) (cof N Fs (List.range N.length)) a' b' c' d', t') := by
    unfold l_claims_of_3
    refine sfor_of (e1 := oE (nsD N) (fsD Fs) [] .no .no .no .no) (t1 := t') (ds := (List.range N.length).map nD) ?_ l1
    have l : len1 [nsD N] = some (nD N.length) := by simp [nsD, len1]
    have b1 : ((N.length : Nat) : Int) < 4611686018427387904 := by omega
    have rr := range0 N.length
    generalize N.length = n at l b1 rr ⊢
    generalize nsD N = NN at l ⊢
    generalize fsD Fs = FF
    unfold oE
    generalize ([] : List Cl).map clD = W
    simp [mop, ev2, ev1, evA, getA, look, slotOk, mcst, mvar, asB, mlst, mtup, mcons, mnil, mfn, mfnL, evN, evAs, getAs, mite, band, bor, bnot, mand, mor, mnot, mcall, iseq, irange1, irange2, sset, ssetO, sret, sdrop, snil, sif, gset, mmut, isL1, ssub, spar, evOs, setSls, slOf, sasg, gtup, gcons, gnil, mslice, osome, onone, mopL, mlensetA, misinst, mmt, kindD, saug, byes, l, b1, rr]
  refine runFn_at (Z := tz) (e1 := [.sh (nsD N), .sh (fsD Fs), .sh (.lst ((cof N Fs (List.range N.length)).map clD)), a', b', c', d']) [.sh (nsD N), .sh (fsD Fs), .no, .no, .no, .no, .no] rfl (scons_nx (Z := tz) (e1 := oE (nsD N) (fsD Fs) [] .no .no .no .no) (t1 := t') ?_ (scons_nx (Z := tz) src ?_))
  · generalize nsD N = NN
    generalize fsD Fs = FF
    rfl
  · unfold oE
    generalize (cof N Fs (List.range N.length)).map clD = W
    generalize nsD N = NN
    generalize fsD Fs = FF
    simp [mop, ev2, ev1, evA, getA, look, slotOk, mcst, mvar, asB, mlst, mtup, mcons, mnil, mfn, mfnL, evN, evAs, getAs, mite, band, bor, bnot, mand, mor, mnot, mcall, iseq, irange1, irange2, sset, ssetO, sret, sdrop, snil, sif, gset, mmut, isL1, ssub, spar, evOs, setSls, slOf, sasg, gtup, gcons, gnil, mslice, osome, onone, mopL, mlensetA, misinst, mmt, kindD, saug, byes]
end K29

namespace K29
open PySem L2 DL

theorem says_run (a b : Bool) (t : Tp) : f__law_says [.bl a, .bl b] t = some (.bl (a == b), t) := by
  cases a <;> cases b <;> rfl
def lE (s2 s3 s4 s5 s6 s7 s8 s9 s10 s11 s12 s13 s14 : Sl) : List Sl := [.no, .sh .tape, s2, s3, s4, s5, s6, s7, s8, s9, s10, s11, s12, s13, s14, .no, .no]
theorem ne_str (x y : Str) : neD (.str x) (.str y) = some (.bl (!decide (x = y))) := by
  simp only [neD, scalD, Bool.true_or, if_true, eqv_str_str]
section
variable {N : List Str} {Fs : List (List Str)} {s2 s4 s5 s6 s7 s8 s10 s12 s13 s14 : Sl}
theorem du_1 (hN : Nms N) (hF : ∀ F ∈ Fs, OkS F) (hl : Fs.length ≤ 1000) {i j : Nat} (hi : i < N.length) (hj : j < N.length) (due : List Cl) (t : Tp) :
    c_law_1 (lE s2 (.sh (nsD N)) s4 s5 s6 s7 s8 (.sh (fsD Fs)) s10 (.sh (.lst (due.map clD))) (.sh (nD i)) (.sh (nD j)) s14) t = some (.lst ((cofI N Fs (nth N i) (nth N j)).map clD), lE s2 (.sh (nsD N)) s4 s5 s6 s7 s8 (.sh (fsD Fs)) s10 (.sh (.lst (due.map clD))) (.sh (nD i)) (.sh (nD j)) s14, t) := by
  have h7 := hN.len
  obtain ⟨mi, gi⟩ := nth_get hi
  obtain ⟨mj, gj⟩ := nth_get hj
  generalize nth N i = a at mi gi ⊢
  generalize nth N j = b at mj gj ⊢
  have e : (cofI N Fs a b).map clD = (N.filter (sel Fs a b)).map fun x => clD (a, b, x) := by unfold cofI; rw [List.map_map]; rfl
  rw [e]
  generalize due.map clD = W
  unfold c_law_1 lE
  refine mlc_map (Z := tz) (e1 := lE s2 (.sh (nsD N)) s4 s5 s6 s7 s8 (.sh (fsD Fs)) s10 (.sh (.lst W)) (.sh (nD i)) (.sh (nD j)) s14) (t1 := t) D.str (sel Fs a b) (fun x => clD (a, b, x)) N ?_ rfl (by omega) fun x hx => ⟨[.no, .sh .tape, s2, .sh (nsD N), s4, s5, s6, s7, s8, .sh (fsD Fs), s10, .sh (.lst W), .sh (nD i), .sh (nD j), s14, .no, .sh (.str x)], rfl, rfl, ?_, fun _ => ⟨[.no, .sh .tape, s2, .sh (nsD N), s4, s5, s6, s7, s8, .sh (fsD Fs), s10, .sh (.lst W), .sh (nD i), .sh (nD j), s14, .no, .sh (.str x)], ?_, rfl⟩⟩
  · generalize fsD Fs = FF
    unfold nsD lE
    simp [mop, ev2, ev1, evA, getA, look, slotOk, mcst, mvar, asB, mlst, mtup, mcons, mnil, mfn, mfnL, evN, evAs, getAs, mite, band, bor, bnot, mand, mor, mnot, mcall, iseq, irange1, irange2, sset, ssetO, sret, sdrop, snil, sif, gset, mmut, isL1, ssub, spar, evOs, setSls, slOf, sasg, gtup, gcons, gnil, mslice, osome, onone, mopL, mlensetA, misinst, mmt, kindD, saug, byes]
  · have m := law_meets_run hN.okS hF hl (c := (a, b, x)) ⟨mi, mj, hx⟩ t
    have cl : D.tup [.str a, .str b, .str x] = clD (a, b, x) := rfl
    have n1 := ne_str x a
    have n2 := ne_str x b
    have se : sel Fs a b x = (!decide (x = a) && (!decide (x = b) && Fs.any (metB (a, b, x)))) := by
      unfold sel
      by_cases z1 : x = a
      · simp [z1]
      · by_cases z2 : x = b
        · simp [z2]
        · simp [z1, z2]
    rw [se]
    rw [← cl] at m
    generalize Fs.any (metB (a, b, x)) = b3 at m ⊢
    generalize (!decide (x = a)) = b1 at n1 ⊢
    generalize (!decide (x = b)) = b2 at n2 ⊢
    generalize nsD N = NN at gi gj ⊢
    generalize fsD Fs = FF at m ⊢
    generalize nD i = ii at gi ⊢
    generalize nD j = jj at gj ⊢
    unfold ct_law_1
    clear cl se e
    obtain ⟨F1, hF1⟩ : ∃ z, z = f__law_meets := ⟨_, rfl⟩
    rw [← hF1] at m ⊢
    clear hF1
    cases b1 <;> cases b2 <;> simp [mop, ev2, ev1, evA, getA, look, slotOk, mcst, mvar, asB, mlst, mtup, mcons, mnil, mfn, mfnL, evN, evAs, getAs, mite, band, bor, bnot, mand, mor, mnot, mcall, iseq, irange1, irange2, sset, ssetO, sret, sdrop, snil, sif, gset, mmut, isL1, ssub, spar, evOs, setSls, slOf, sasg, gtup, gcons, gnil, mslice, osome, onone, mopL, mlensetA, misinst, mmt, kindD, saug, byes, gi, gj, n1, n2, m]
  · have cl : D.tup [.str a, .str b, .str x] = clD (a, b, x) := rfl
    rw [← cl]
    generalize nsD N = NN at gi gj ⊢
    generalize fsD Fs = FF
    generalize nD i = ii at gi ⊢
    generalize nD j = jj at gj ⊢
    unfold ce_law_1
    simp [mop, ev2, ev1, evA, getA, look, slotOk, mcst, mvar, asB, mlst, mtup, mcons, mnil, mfn, mfnL, evN, evAs, getAs, mite, band, bor, bnot, mand, mor, mnot, mcall, iseq, irange1, irange2, sset, ssetO, sret, sdrop, snil, sif, gset, mmut, isL1, ssub, spar, evOs, setSls, slOf, sasg, gtup, gcons, gnil, mslice, osome, onone, mopL, mlensetA, misinst, mmt, kindD, saug, byes, gi, gj]
theorem add_lst {a b : List D} (h : a.length + b.length ≤ 20000) : addD (.lst a) (.lst b) = some (.lst (a ++ b)) := by
  have : a.length + b.length ≤ sizeLine := Nat.le_trans h (by decide)
  simp only [addD, this, if_true]
theorem du_2 (hN : Nms N) (hF : ∀ F ∈ Fs, OkS F) (hl : Fs.length ≤ 1000) {i : Nat} (hi : i < N.length) (due : List Cl) (hz : due.length ≤ 4000) (t : Tp) :
    ∃ r13, l_law_2 (lE s2 (.sh (nsD N)) s4 s5 s6 s7 s8 (.sh (fsD Fs)) s10 (.sh (.lst (due.map clD))) (.sh (nD i)) s13 s14) t = some (.nx, lE s2 (.sh (nsD N)) s4 s5 s6 s7 s8 (.sh (fsD Fs)) s10 (.sh (.lst ((due ++ cofJ N Fs i (List.range' (i + 1) (N.length - (i + 1)))).map clD))) (.sh (nD i)) r13 s14, t) := by
  have h7 := hN.len
  obtain ⟨e', t', l1, hinv⟩ := forL_nx (Z := tz) (g := gset 13) (b := lb_law_2) (ds := (List.range' (i + 1) (N.length - (i + 1))).map nD) (e := lE s2 (.sh (nsD N)) s4 s5 s6 s7 s8 (.sh (fsD Fs)) s10 (.sh (.lst (due.map clD))) (.sh (nD i)) s13 s14) (t := t)
    (fun k e t1 => t1 = t ∧ ∃ r13, e = lE s2 (.sh (nsD N)) s4 s5 s6 s7 s8 (.sh (fsD Fs)) s10 (.sh (.lst ((due ++ cofJ N Fs i ((List.range' (i + 1) (N.length - (i + 1))).take k)).map clD))) (.sh (nD i)) r13 s14) ⟨rfl, s13, by simp [cofJ]⟩ fun k d0 e t1 hd hinv => by
      obtain ⟨rfl, r13, rfl⟩ := hinv
      obtain ⟨hk, rfl⟩ := rget hd
      have le := cofJ_len N Fs i ((List.range' (i + 1) (N.length - (i + 1))).take k)
      have le2 : ((List.range' (i + 1) (N.length - (i + 1))).take k).length * N.length ≤ 7 * 7 := Nat.mul_le_mul (by rw [List.length_take, List.length_range']; omega) h7
      have le3 := cofI_len N Fs (nth N i) (nth N (i + 1 + k))
      have c := du_1 (s2 := s2) (s4 := s4) (s5 := s5) (s6 := s6) (s7 := s7) (s8 := s8) (s10 := s10) (s14 := s14) hN hF hl hi (j := i + 1 + k) (by omega) (due ++ cofJ N Fs i ((List.range' (i + 1) (N.length - (i + 1))).take k)) t1
      have e2 : cofJ N Fs i ((List.range' (i + 1) (N.length - (i + 1))).take (k + 1)) = cofJ N Fs i ((List.range' (i + 1) (N.length - (i + 1))).take k) ++ cofI N Fs (nth N i) (nth N (i + 1 + k)) := by
        rw [rtake _ _ _ hk]; simp [cofJ]
      refine ⟨lE s2 (.sh (nsD N)) s4 s5 s6 s7 s8 (.sh (fsD Fs)) s10 (.sh (.lst ((due ++ cofJ N Fs i ((List.range' (i + 1) (N.length - (i + 1))).take k)).map clD))) (.sh (nD i)) (.sh (nD (i + 1 + k))) s14, rfl, .nx, lE s2 (.sh (nsD N)) s4 s5 s6 s7 s8 (.sh (fsD Fs)) s10 (.sh (.lst ((due ++ cofJ N Fs i ((List.range' (i + 1) (N.length - (i + 1))).take (k + 1))).map clD))) (.sh (nD i)) (.sh (nD (i + 1 + k))) s14, t1, ?_, .inl rfl, rfl, .sh (nD (i + 1 + k)), rfl⟩
      rw [e2, ← List.append_assoc]
      generalize cofJ N Fs i ((List.range' (i + 1) (N.length - (i + 1))).take k) = Q at le c ⊢
      generalize cofI N Fs (nth N i) (nth N (i + 1 + k)) = Q2 at le3 c ⊢
      have ad : addD (.lst ((due ++ Q).map clD)) (.lst (Q2.map clD)) = some (.lst ((due ++ Q ++ Q2).map clD)) := by
        rw [add_lst (by simp only [List.length_map, List.length_append]; omega), ← List.map_append]
      generalize D.lst ((due ++ Q ++ Q2).map clD) = A3 at ad ⊢
      generalize D.lst ((due ++ Q).map clD) = A1 at ad c ⊢
      generalize D.lst (Q2.map clD) = A2 at ad c
      generalize nsD N = NN at c ⊢
      generalize fsD Fs = FF at c ⊢
      generalize nD i = ii at c ⊢
      generalize nD (i + 1 + k) = jj at c ⊢
      unfold lb_law_2 lE at *
      obtain ⟨C, hC⟩ : ∃ z, z = c_law_1 := ⟨_, rfl⟩
      rw [← hC] at c ⊢
      clear hC
      simp [mop, ev2, ev1, evA, getA, look, slotOk, mcst, mvar, asB, mlst, mtup, mcons, mnil, mfn, mfnL, evN, evAs, getAs, mite, band, bor, bnot, mand, mor, mnot, mcall, iseq, irange1, irange2, sset, ssetO, sret, sdrop, snil, sif, gset, mmut, isL1, ssub, spar, evOs, setSls, slOf, sasg, gtup, gcons, gnil, mslice, osome, onone, mopL, mlensetA, misinst, mmt, kindD, saug, byes, c, ad]
  obtain ⟨rfl, r13, rfl⟩ := hinv
  rw [List.length_map, List.take_length] at l1
  refine ⟨r13, ?_⟩
  unfold l_law_2
  refine sfor_of (e1 := lE s2 (.sh (nsD N)) s4 s5 s6 s7 s8 (.sh (fsD Fs)) s10 (.sh (.lst (due.map clD))) (.sh (nD i)) s13 s14) (t1 := t') (ds := (List.range' (i + 1) (N.length - (i + 1))).map nD) ?_ l1
  have l : len1 [nsD N] = some (nD N.length) := by simp [nsD, len1]
  have a1 : addD (nD i) (.int 1) = some (nD (i + 1)) := by simp [addD]
  have b1 : (((i + 1 : Nat)) : Int) < 4611686018427387904 := by omega
  have b2 : (((N.length : Nat)) : Int) < 4611686018427387904 := by omega
  have b3 : (-4611686018427387904 : Int) ≤ (((i + 1 : Nat)) : Int) := by omega
  have b4 : (-4611686018427387904 : Int) ≤ (((N.length : Nat)) : Int) := by omega
  have e1 : ((N.length : Int) - ((i + 1 : Nat) : Int)).toNat = N.length - (i + 1) := by omega
  have rr := range1 (i + 1) (N.length - (i + 1))
  generalize N.length - (i + 1) = m at e1 rr ⊢
  generalize N.length = n at l b2 b4 e1
  generalize i + 1 = i1 at a1 b1 b3 e1 rr ⊢
  generalize nsD N = NN at l ⊢
  generalize fsD Fs = FF
  unfold lE
  generalize due.map clD = W
  simp [mop, ev2, ev1, evA, getA, look, slotOk, mcst, mvar, asB, mlst, mtup, mcons, mnil, mfn, mfnL, evN, evAs, getAs, mite, band, bor, bnot, mand, mor, mnot, mcall, iseq, irange1, irange2, sset, ssetO, sret, sdrop, snil, sif, gset, mmut, isL1, ssub, spar, evOs, setSls, slOf, sasg, gtup, gcons, gnil, mslice, osome, onone, mopL, mlensetA, misinst, mmt, kindD, saug, byes, l, a1, irange2, b1, b2, b3, b4, e1, rr]
theorem du_3 (hN : Nms N) (hF : ∀ F ∈ Fs, OkS F) (hl : Fs.length ≤ 1000) (t : Tp) :
    ∃ r12 r13, l_law_3 (lE s2 (.sh (nsD N)) s4 s5 s6 s7 s8 (.sh (fsD Fs)) s10 (.sh (.lst [])) s12 s13 s14) t = some (.nx, lE s2 (.sh (nsD N)) s4 s5 s6 s7 s8 (.sh (fsD Fs)) s10 (.sh (.lst ((cof N Fs (List.range N.length)).map clD))) r12 r13 s14, t) := by
  have h7 := hN.len
  obtain ⟨e', t', l1, hinv⟩ := forL_nx (Z := tz) (g := gset 12) (b := lb_law_3) (ds := (List.range N.length).map nD) (e := lE s2 (.sh (nsD N)) s4 s5 s6 s7 s8 (.sh (fsD Fs)) s10 (.sh (.lst [])) s12 s13 s14) (t := t)
    (fun k e t1 => t1 = t ∧ ∃ r12 r13, e = lE s2 (.sh (nsD N)) s4 s5 s6 s7 s8 (.sh (fsD Fs)) s10 (.sh (.lst ((cof N Fs ((List.range N.length).take k)).map clD))) r12 r13 s14) ⟨rfl, s12, s13, by simp [cof]⟩ fun k d0 e t1 hd hinv => by
      obtain ⟨rfl, r12, r13, rfl⟩ := hinv
      obtain ⟨hk, rfl⟩ := range_get hd
      have le := cof_len h7 Fs ((List.range N.length).take k)
      rw [List.length_take, List.length_range] at le
      obtain ⟨q13, q⟩ := du_2 (s2 := s2) (s4 := s4) (s5 := s5) (s6 := s6) (s7 := s7) (s8 := s8) (s10 := s10) (s13 := r13) (s14 := s14) hN hF hl hk (cof N Fs ((List.range N.length).take k)) (by omega) t1
      refine ⟨lE s2 (.sh (nsD N)) s4 s5 s6 s7 s8 (.sh (fsD Fs)) s10 (.sh (.lst ((cof N Fs ((List.range N.length).take k)).map clD))) (.sh (nD k)) r13 s14, rfl, .nx, _, t1, q, .inl rfl, rfl, .sh (nD k), q13, by rw [ltake _ _ hk]; simp [cof]⟩
  obtain ⟨rfl, r12, r13, rfl⟩ := hinv
  rw [List.length_map, List.length_range, List.take_of_length_le (by simp)] at l1
  refine ⟨r12, r13, ?_⟩
  unfold l_law_3
  refine sfor_of (e1 := lE s2 (.sh (nsD N)) s4 s5 s6 s7 s8 (.sh (fsD Fs)) s10 (.sh (.lst [])) s12 s13 s14) (t1 := t') (ds := (List.range N.length).map nD) ?_ l1
  have l : len1 [nsD N] = some (nD N.length) := by simp [nsD, len1]
  have b1 : ((N.length : Nat) : Int) < 4611686018427387904 := by omega
  have rr := range0 N.length
  generalize N.length = n at l b1 rr ⊢
  generalize nsD N = NN at l ⊢
  generalize fsD Fs = FF
  unfold lE
  simp [mop, ev2, ev1, evA, getA, look, slotOk, mcst, mvar, asB, mlst, mtup, mcons, mnil, mfn, mfnL, evN, evAs, getAs, mite, band, bor, bnot, mand, mor, mnot, mcall, iseq, irange1, irange2, sset, ssetO, sret, sdrop, snil, sif, gset, mmut, isL1, ssub, spar, evOs, setSls, slOf, sasg, gtup, gcons, gnil, mslice, osome, onone, mopL, mlensetA, misinst, mmt, kindD, saug, byes, l, b1, rr]
end
theorem cut_take (xs : List D) (k : Nat) : cutD xs none (some (k : Int)) = xs.take k := by
  unfold cutD
  rw [HT.sIx_none, HT.sIx_nat, List.drop_zero, Nat.sub_zero]
  by_cases h : k ≤ xs.length
  · rw [Nat.min_eq_left h]
  · rw [Nat.min_eq_right (by omega), List.take_length, List.take_of_length_le (by omega)]
theorem sl_tup (xs : List D) (k : Nat) : sliceD (.tup xs) none (some (k : Int)) = some (.tup (xs.take k)) := by
  show some (D.tup (cutD xs none (some (k : Int)))) = _
  rw [cut_take]
theorem sl_ns (xs : List Str) (k : Nat) : sliceD (nsD xs) none (some (k : Int)) = some (nsD (xs.take k)) := by
  unfold nsD
  rw [sl_tup, List.map_take]
/-! ### what is met -/
section
variable {N : List Str} {Fs : List (List Str)} {s2 s5 s6 s7 s8 s10 s11 s12 s13 s14 : Sl}
theorem lo_4 (hN : Nms N) (h3 : 3 ≤ N.length) (hF : ∀ F ∈ Fs, OkS F) (hl : Fs.length ≤ 1000) {cs : List Cl} (hc : ∀ c ∈ cs, ClOk N c) (hz : cs.length ≤ 100) (t : Tp) :
    ∃ r10 t', l_law_4 (lE s2 (.sh (nsD N)) (.sh (csD cs)) s5 s6 s7 s8 (.sh (fsD Fs)) s10 s11 s12 s13 s14) t = some (.nx, lE s2 (.sh (nsD N)) (.sh (csD cs)) s5 s6 s7 s8 (.sh (fsD Fs)) r10 s11 s12 s13 s14, t') := by
  obtain ⟨c, t1, hcl, lc⟩ := claim_run hN h3 t
  have hall : ∀ x ∈ cs.take 3 ++ [c], ClOk N x := fun x hx => by
    rcases List.mem_append.mp hx with hx | hx
    · exact hc x (List.mem_of_mem_take hx)
    · simp at hx; subst hx; exact hcl
  obtain ⟨e', t', l1, hinv⟩ := forL_nx (Z := tz) (g := gset 10) (b := lb_law_4) (ds := (cs.take 3 ++ [c]).map clD) (e := lE s2 (.sh (nsD N)) (.sh (csD cs)) s5 s6 s7 s8 (.sh (fsD Fs)) s10 s11 s12 s13 s14) (t := t1)
    (fun k e t2 => t2 = t1 ∧ ∃ r10, e = lE s2 (.sh (nsD N)) (.sh (csD cs)) s5 s6 s7 s8 (.sh (fsD Fs)) r10 s11 s12 s13 s14) ⟨rfl, s10, rfl⟩ fun k d0 e t2 hd hinv => by
      obtain ⟨rfl, r10, rfl⟩ := hinv
      rw [List.getElem?_map] at hd
      cases z : (cs.take 3 ++ [c])[k]? with
      | none => rw [z] at hd; simp at hd
      | some x =>
        rw [z] at hd
        simp at hd
        subst hd
        have hx := hall x (List.mem_of_getElem? z)
        have m1 := meets_run hN.okS hF hl hx.i t2
        have m2 := law_meets_run hN.okS hF hl hx.i t2
        have ic := is_claim_run hN (.of (n := 1) (by omega) (gd_clD hN hx.i 0)) t2
        rw [clB_ok hN hx] at ic
        have sa := says_run (Fs.any (metB x)) (Fs.any (metB x)) t2
        have sb := says_run true true t2
        rw [show ((Fs.any (metB x)) == (Fs.any (metB x))) = true by simp] at sa
        rw [show (true == true) = true from rfl] at sb
        refine ⟨lE s2 (.sh (nsD N)) (.sh (csD cs)) s5 s6 s7 s8 (.sh (fsD Fs)) (.sh (clD x)) s11 s12 s13 s14, rfl, .nx, lE s2 (.sh (nsD N)) (.sh (csD cs)) s5 s6 s7 s8 (.sh (fsD Fs)) (.sh (clD x)) s11 s12 s13 s14, t2, ?_, .inl rfl, rfl, _, rfl⟩
        generalize Fs.any (metB x) = b at m1 m2 sa
        generalize nsD N = NN at ic ⊢
        generalize csD cs = CC
        generalize fsD Fs = FF at m1 m2 ⊢
        generalize clD x = XX at m1 m2 ic ⊢
        unfold lb_law_4 lE
        obtain ⟨F1, hF1⟩ : ∃ z, z = f_meets := ⟨_, rfl⟩
        rw [← hF1] at m1 ⊢
        clear hF1
        obtain ⟨F2, hF2⟩ : ∃ z, z = f__law_meets := ⟨_, rfl⟩
        rw [← hF2] at m2 ⊢
        clear hF2
        obtain ⟨F3, hF3⟩ : ∃ z, z = f_is_claim := ⟨_, rfl⟩
        rw [← hF3] at ic ⊢
        clear hF3
        obtain ⟨F4, h4⟩ : ∃ z, z = f__law_says := ⟨_, rfl⟩
        rw [← h4] at sa sb ⊢
        clear h4
        simp [mop, ev2, ev1, evA, getA, look, slotOk, mcst, mvar, asB, mlst, mtup, mcons, mnil, mfn, mfnL, evN, evAs, getAs, mite, band, bor, bnot, mand, mor, mnot, mcall, iseq, irange1, irange2, sset, ssetO, sret, sdrop, snil, sif, gset, mmut, isL1, ssub, spar, evOs, setSls, slOf, sasg, gtup, gcons, gnil, mslice, osome, onone, mopL, mlensetA, misinst, mmt, kindD, saug, byes, m1, m2, ic, sa, sb]
  obtain ⟨rfl, r10, rfl⟩ := hinv
  refine ⟨r10, t', ?_⟩
  unfold l_law_4
  refine sfor_of (e1 := lE s2 (.sh (nsD N)) (.sh (csD cs)) s5 s6 s7 s8 (.sh (fsD Fs)) s10 s11 s12 s13 s14) (t1 := t') (ds := (cs.take 3 ++ [c]).map clD) ?_ l1
  have s1 : sliceD (csD cs) none (some 3) = some (csD (cs.take 3)) := by
    unfold csD
    rw [show (3 : Int) = ((3 : Nat) : Int) from rfl, sl_tup, List.map_take]
  have ad : addD (csD (cs.take 3)) (.tup [clD c]) = some (.tup ((cs.take 3 ++ [c]).map clD)) := by
    unfold csD
    rw [add_tup (by rw [List.length_map, List.length_take]; simp; omega), List.map_append]; rfl
  clear l1
  generalize (cs.take 3 ++ [c]).map clD = A at ad ⊢
  generalize csD (cs.take 3) = B at s1 ad
  generalize csD cs = CC at s1 ⊢
  generalize nsD N = NN at lc ⊢
  generalize fsD Fs = FF
  generalize clD c = C at lc ad
  unfold lE
  obtain ⟨F, hF⟩ : ∃ z, z = f__law_claim := ⟨_, rfl⟩
  rw [← hF] at lc ⊢
  clear hF
  simp [mop, ev2, ev1, evA, getA, look, slotOk, mcst, mvar, asB, mlst, mtup, mcons, mnil, mfn, mfnL, evN, evAs, getAs, mite, band, bor, bnot, mand, mor, mnot, mcall, iseq, irange1, irange2, sset, ssetO, sret, sdrop, snil, sif, gset, mmut, isL1, ssub, spar, evOs, setSls, slOf, sasg, gtup, gcons, gnil, mslice, osome, onone, mopL, mlensetA, misinst, mmt, kindD, saug, byes, s1, lc, ad]
end
end K29

namespace K29
open PySem L2 DL

theorem beq_self' (b : Bool) : (b == b) = true := by simp
section
variable {N : List Str} {s2 s6 s7 s8 s9 s10 s11 s12 s13 s14 : Sl}
/-! ### bent answers -/
theorem lo_5 (hN : Nms N) (h3 : 3 ≤ N.length) {cs : List Cl} (hc : ∀ c ∈ cs, ClOk N c) (hz : cs.length ≤ 100) {v : D} (hv : Made N cs v) (t : Tp) :
    ∃ r6 r7 r8 t', l_law_5 (lE s2 (.sh (nsD N)) (.sh (csD cs)) (.sh v) s6 s7 s8 s9 s10 s11 s12 s13 s14) t = some (.nx, lE s2 (.sh (nsD N)) (.sh (csD cs)) (.sh v) r6 r7 r8 s9 s10 s11 s12 s13 s14, t') := by
  have h0 : N ≠ [] := fun z => by rw [z] at h3; simp at h3
  have hci : ∀ c ∈ cs, ClIn N c := fun c h => (hc c h).i
  obtain ⟨e', t', l1, r6, r7, r8, rfl⟩ := forL_nx (Z := tz) (g := gset 6) (b := lb_law_5) (ds := (List.range 8).map nD) (e := lE s2 (.sh (nsD N)) (.sh (csD cs)) (.sh v) s6 s7 s8 s9 s10 s11 s12 s13 s14) (t := t)
    (fun k e _ => ∃ r6 r7 r8, e = lE s2 (.sh (nsD N)) (.sh (csD cs)) (.sh v) r6 r7 r8 s9 s10 s11 s12 s13 s14) ⟨s6, s7, s8, rfl⟩ fun k d0 e t1 hd hinv => by
      obtain ⟨r6, r7, r8, rfl⟩ := hinv
      obtain ⟨d, t2, bt, gd⟩ := bent_run hN h3 hv t1
      obtain ⟨b, _, ab⟩ := accepts_run hN h0 hc (by omega) gd
      obtain ⟨a1, a2⟩ := ab t2
      have sa := says_run b b t2
      rw [beq_self'] at sa
      obtain ⟨p, hp, gp⟩ : ∃ p, (∀ NN CC V : D, ∀ r6 r8 : Sl, mite (Z := tz) (band (asB (misinst "tuple" (.v 7))) (asB (mop eqD (.e (mfn len1 [(.v 7)])) (.e (mcst (.int 2)))))) (mop idxD (.v 7) (.e (mcst (.int 1)))) (mvar 7) (lE s2 (.sh NN) (.sh CC) (.sh V) r6 (.sh d) r8 s9 s10 s11 s12 s13 s14) t2 = some (p, lE s2 (.sh NN) (.sh CC) (.sh V) r6 (.sh d) r8 s9 s10 s11 s12 s13 s14, t2)) ∧ Gd p := by
        by_cases ht : ∃ ds, d = .tup ds
        · obtain ⟨ds, rfl⟩ := ht
          have i : isinstD "tuple" (.tup ds) = some true := rfl
          have l1 : len1 [.tup ds] = some (nD ds.length) := rfl
          have e : eqD (nD ds.length) (.int 2) = some (.bl (decide ((ds.length : Int) = 2))) := eq_int _ _
          by_cases q : ds.length = 2
          · obtain ⟨x, y, rfl⟩ : ∃ x y, ds = [x, y] := by
              match ds, q with
              | [x, y], _ => exact ⟨x, y, rfl⟩
            have i1 : idxD (.tup [x, y]) (.int 1) = some y := ix1 _ _ _
            refine ⟨y, fun NN CC V r6 r8 => ?_, (gd_mem gd).2.2⟩
            rw [decide_eq_true (by omega)] at e
            generalize D.tup [x, y] = T at i i1 l1 ⊢
            generalize nD (List.length [x, y]) = k at l1 e
            unfold lE
            simp [mop, ev2, ev1, evA, getA, look, slotOk, mcst, mvar, asB, mlst, mtup, mcons, mnil, mfn, mfnL, evN, evAs, getAs, mite, band, bor, bnot, mand, mor, mnot, mcall, iseq, irange1, irange2, sset, ssetO, sret, sdrop, snil, sif, gset, mmut, isL1, ssub, spar, evOs, setSls, slOf, sasg, gtup, gcons, gnil, mslice, osome, onone, mopL, mlensetA, misinst, mmt, kindD, saug, byes, i, i1, l1, e]
          · refine ⟨.tup ds, fun NN CC V r6 r8 => ?_, gd⟩
            rw [decide_eq_false (by omega)] at e
            generalize D.tup ds = T at i l1 ⊢
            generalize nD ds.length = k at l1 e
            unfold lE
            simp [mop, ev2, ev1, evA, getA, look, slotOk, mcst, mvar, asB, mlst, mtup, mcons, mnil, mfn, mfnL, evN, evAs, getAs, mite, band, bor, bnot, mand, mor, mnot, mcall, iseq, irange1, irange2, sset, ssetO, sret, sdrop, snil, sif, gset, mmut, isL1, ssub, spar, evOs, setSls, slOf, sasg, gtup, gcons, gnil, mslice, osome, onone, mopL, mlensetA, misinst, mmt, kindD, saug, byes, i, l1, e]
        · have i : isinstD "tuple" d = some false := isT_no gd.noTape fun ds e => ht ⟨ds, e⟩
          refine ⟨d, fun NN CC V r6 r8 => ?_, gd⟩
          unfold lE
          simp [mop, ev2, ev1, evA, getA, look, slotOk, mcst, mvar, asB, mlst, mtup, mcons, mnil, mfn, mfnL, evN, evAs, getAs, mite, band, bor, bnot, mand, mor, mnot, mcall, iseq, irange1, irange2, sset, ssetO, sret, sdrop, snil, sif, gset, mmut, isL1, ssub, spar, evOs, setSls, slOf, sasg, gtup, gcons, gnil, mslice, osome, onone, mopL, mlensetA, misinst, mmt, kindD, saug, byes, i]
      obtain ⟨b2, _, tr⟩ := tied_run hN hci (by omega) gp
      obtain ⟨t3a, t3b⟩ := tr t2
      obtain ⟨b3, hb3, fr⟩ := fams_run hN gp
      obtain ⟨b4, hb4, gr⟩ := law_fams_run hN gp
      have e34 : b4 = b3 := Bool.eq_iff_iff.mpr (hb4.trans hb3.symm)
      subst e34
      have fr := fr t2
      have gr := gr t2
      have sb := says_run b2 b2 t2
      have sc := says_run b4 b4 t2
      rw [beq_self'] at sb sc
      refine ⟨lE s2 (.sh (nsD N)) (.sh (csD cs)) (.sh v) (.sh d0) r7 r8 s9 s10 s11 s12 s13 s14, rfl, .nx, lE s2 (.sh (nsD N)) (.sh (csD cs)) (.sh v) (.sh d0) (.sh d) (.sh p) s9 s10 s11 s12 s13 s14, t2, ?_, .inl rfl, .sh d0, .sh d, .sh p, rfl⟩
      have hp := hp (nsD N) (csD cs) v (.sh d0) r8
      unfold lb_law_5
      refine scons_nx (Z := tz) (e1 := lE s2 (.sh (nsD N)) (.sh (csD cs)) (.sh v) (.sh d0) (.sh d) r8 s9 s10 s11 s12 s13 s14) (t1 := t2) ?_ (scons_nx (Z := tz) (e1 := lE s2 (.sh (nsD N)) (.sh (csD cs)) (.sh v) (.sh d0) (.sh d) r8 s9 s10 s11 s12 s13 s14) (t1 := t2) ?_ (scons_nx (Z := tz) (sset_ev (Z := tz) hp) ?_))
      · clear hp a1 a2 ab tr t3a t3b fr gr
        generalize nsD N = NN at bt ⊢
        generalize csD cs = CC
        unfold lE
        obtain ⟨F, hF⟩ : ∃ z, z = f__law_bent := ⟨_, rfl⟩
        rw [← hF] at bt ⊢
        clear hF
        simp [mop, ev2, ev1, evA, getA, look, slotOk, mcst, mvar, asB, mlst, mtup, mcons, mnil, mfn, mfnL, evN, evAs, getAs, mite, band, bor, bnot, mand, mor, mnot, mcall, iseq, irange1, irange2, sset, ssetO, sret, sdrop, snil, sif, gset, mmut, isL1, ssub, spar, evOs, setSls, slOf, sasg, gtup, gcons, gnil, mslice, osome, onone, mopL, mlensetA, misinst, mmt, kindD, saug, byes, bt]
      · clear hp bt tr t3a t3b fr gr ab
        generalize nsD N = NN at a1 a2 ⊢
        generalize csD cs = CC at a1 a2 ⊢
        unfold lE
        obtain ⟨F1, hF1⟩ : ∃ z, z = f_accepts_grouping := ⟨_, rfl⟩
        rw [← hF1] at a1 ⊢
        clear hF1
        obtain ⟨F2, hF2⟩ : ∃ z, z = f__law_due := ⟨_, rfl⟩
        rw [← hF2] at a2 ⊢
        clear hF2
        obtain ⟨F3, hF3⟩ : ∃ z, z = f__law_says := ⟨_, rfl⟩
        rw [← hF3] at sa ⊢
        clear hF3
        simp [mop, ev2, ev1, evA, getA, look, slotOk, mcst, mvar, asB, mlst, mtup, mcons, mnil, mfn, mfnL, evN, evAs, getAs, mite, band, bor, bnot, mand, mor, mnot, mcall, iseq, irange1, irange2, sset, ssetO, sret, sdrop, snil, sif, gset, mmut, isL1, ssub, spar, evOs, setSls, slOf, sasg, gtup, gcons, gnil, mslice, osome, onone, mopL, mlensetA, misinst, mmt, kindD, saug, byes, a1, a2, sa]
      · clear hp bt tr ab a1 a2 sa
        generalize nsD N = NN at t3a t3b fr gr ⊢
        generalize csD cs = CC at t3a t3b ⊢
        unfold lE
        obtain ⟨F1, hF1⟩ : ∃ z, z = f_is_tied := ⟨_, rfl⟩
        rw [← hF1] at t3a ⊢
        clear hF1
        obtain ⟨F2, hF2⟩ : ∃ z, z = f__law_is_tied := ⟨_, rfl⟩
        rw [← hF2] at t3b ⊢
        clear hF2
        obtain ⟨F3, hF3⟩ : ∃ z, z = f_are_families := ⟨_, rfl⟩
        rw [← hF3] at fr ⊢
        clear hF3
        obtain ⟨F4, hF4⟩ : ∃ z, z = f__law_are_families := ⟨_, rfl⟩
        rw [← hF4] at gr ⊢
        clear hF4
        obtain ⟨F5, h5⟩ : ∃ z, z = f__law_says := ⟨_, rfl⟩
        rw [← h5] at sb sc ⊢
        clear h5
        simp [mop, ev2, ev1, evA, getA, look, slotOk, mcst, mvar, asB, mlst, mtup, mcons, mnil, mfn, mfnL, evN, evAs, getAs, mite, band, bor, bnot, mand, mor, mnot, mcall, iseq, irange1, irange2, sset, ssetO, sret, sdrop, snil, sif, gset, mmut, isL1, ssub, spar, evOs, setSls, slOf, sasg, gtup, gcons, gnil, mslice, osome, onone, mopL, mlensetA, misinst, mmt, kindD, saug, byes, t3a, t3b, fr, gr, sb, sc]
  refine ⟨r6, r7, r8, t', ?_⟩
  unfold l_law_5
  refine sfor_of (e1 := lE s2 (.sh (nsD N)) (.sh (csD cs)) (.sh v) s6 s7 s8 s9 s10 s11 s12 s13 s14) (t1 := t) (ds := (List.range 8).map nD) ?_ l1
  clear l1
  have rr : rangeD 0 8 = (List.range 8).map nD := range0 8
  generalize (List.range 8).map nD = R at rr ⊢
  generalize nsD N = NN
  generalize csD cs = CC
  unfold lE
  simp [mop, ev2, ev1, evA, getA, look, slotOk, mcst, mvar, asB, mlst, mtup, mcons, mnil, mfn, mfnL, evN, evAs, getAs, mite, band, bor, bnot, mand, mor, mnot, mcall, iseq, irange1, irange2, sset, ssetO, sret, sdrop, snil, sif, gset, mmut, isL1, ssub, spar, evOs, setSls, slOf, sasg, gtup, gcons, gnil, mslice, osome, onone, mopL, mlensetA, misinst, mmt, kindD, saug, byes, rr]
/-! ### wrong claims -/
theorem accepts_no {N : List Str} (hN : Nms N) {w v : D} (hw : Gd w) (h : clsB N w = false) (t : Tp) : f_accepts_grouping [nsD N, w, v] t = some (.bl false, t) := by
  have n := names_run (gd_N hN) t
  have a := are_claims_run hN hw t
  rw [h] at a
  generalize namesB (nsD N) = b at n
  generalize nsD N = NN at n a ⊢
  refine runFn_at (Z := tz) (e1 := [.sh NN, .sh w, .sh v, .no]) [.sh NN, .sh w, .sh v, .no] rfl (scons_rt (Z := tz) ?_)
  obtain ⟨F1, hF1⟩ : ∃ z, z = f_is_names := ⟨_, rfl⟩
  rw [← hF1] at n ⊢
  clear hF1
  obtain ⟨F2, hF2⟩ : ∃ z, z = f_are_claims := ⟨_, rfl⟩
  rw [← hF2] at a ⊢
  clear hF2
  cases b <;> simp [mop, ev2, ev1, evA, getA, look, slotOk, mcst, mvar, asB, mlst, mtup, mcons, mnil, mfn, mfnL, evN, evAs, getAs, mite, band, bor, bnot, mand, mor, mnot, mcall, iseq, irange1, irange2, sset, ssetO, sret, sdrop, snil, sif, gset, mmut, isL1, ssub, spar, evOs, setSls, slOf, sasg, gtup, gcons, gnil, mslice, osome, onone, mopL, mlensetA, misinst, mmt, kindD, saug, byes, n, a]
theorem accepts_none {c v : D} (t : Tp) : f_accepts_grouping [.non, c, v] t = some (.bl false, t) := by
  have n : f_is_names [.non] t = some (.bl false, t) := names_run (.inl rfl) t
  refine runFn_at (Z := tz) (e1 := [.sh .non, .sh c, .sh v, .no]) [.sh .non, .sh c, .sh v, .no] rfl (scons_rt (Z := tz) ?_)
  obtain ⟨F1, hF1⟩ : ∃ z, z = f_is_names := ⟨_, rfl⟩
  rw [← hF1] at n ⊢
  clear hF1
  simp [mop, ev2, ev1, evA, getA, look, slotOk, mcst, mvar, asB, mlst, mtup, mcons, mnil, mfn, mfnL, evN, evAs, getAs, mite, band, bor, bnot, mand, mor, mnot, mcall, iseq, irange1, irange2, sset, ssetO, sret, sdrop, snil, sif, gset, mmut, isL1, ssub, spar, evOs, setSls, slOf, sasg, gtup, gcons, gnil, mslice, osome, onone, mopL, mlensetA, misinst, mmt, kindD, saug, byes, n]
structure Wrong (N : List Str) (w : D) : Prop where
  g : gd 5 w = true
  f : clB N w = false
theorem clB_len {N : List Str} {xs : List Str} (h : xs.length ≠ 3) : clB N (nsD xs) = false := by
  simp [nsD, clB, h]
theorem wrongs {N : List Str} (hN : Nms N) (h3 : 3 ≤ N.length) {a : Str} (ha : a ∈ N) : ∀ w ∈ [nsD (N.take 2), nsD (N.take 2 ++ [("Q9" : Str)]), nsD [a, a, a], lsD (N.take 3), .non, nsD (N.take 3 ++ N.take 1), .str "ABC", .int 5], Wrong N w := by
  have h7 := hN.len
  have un : ∀ k, ∀ x ∈ N.take k, x ∈ univ := fun k x hx => hN.un x (List.mem_of_mem_take hx)
  have q9 : ("Q9" : Str) ∈ univ := by decide +kernel
  have q9n : ("Q9" : Str) ∉ N := fun z => absurd (hN.ok _ z) (by decide +kernel)
  intro w hw
  simp only [List.mem_cons, List.not_mem_nil, or_false] at hw
  rcases hw with rfl | rfl | rfl | rfl | rfl | rfl | rfl | rfl
  · exact ⟨gd_nsD (un 2) (by rw [List.length_take]; omega) 4, clB_len (by rw [List.length_take]; omega)⟩
  · refine ⟨gd_nsD (fun x hx => ?_) (by rw [List.length_append, List.length_take]; simp; omega) 4, ?_⟩
    · rcases List.mem_append.mp hx with hx | hx
      · exact un 2 x hx
      · simp at hx; rw [hx]; exact q9
    · simp only [nsD, clB, List.map_append, List.all_append]
      simp [q9n]
  · refine ⟨gd_nsD (fun x hx => ?_) (by simp) 4, ?_⟩
    · simp at hx; rw [hx]; exact hN.un a ha
    · have e : dedS [a, a, a] = [a] := by simp [dedS]
      have nb : namesB (.tup [.str a, .str a, .str a]) = false := by
        have e2 : strsD [.str a, .str a, .str a] = some [a, a, a] := rfl
        simp only [namesB, e2, e]
        simp
      simp only [nsD, clB, List.map_cons, List.map_nil, nb, Bool.false_and]
  · refine ⟨gd_lst (by rw [List.length_map, List.length_take]; omega) (fun d hd => ?_), rfl⟩
    obtain ⟨x, hx, rfl⟩ := List.mem_map.mp hd
    exact gd_str (un 3 x hx) 4
  · exact ⟨rfl, rfl⟩
  · refine ⟨gd_nsD (fun x hx => ?_) (by rw [List.length_append, List.length_take, List.length_take]; omega) 4, clB_len (by rw [List.length_append, List.length_take, List.length_take]; omega)⟩
    rcases List.mem_append.mp hx with hx | hx
    · exact un 3 x hx
    · exact un 1 x hx
  · exact ⟨gd_str (by decide +kernel) 5, rfl⟩
  · exact ⟨rfl, rfl⟩
theorem lo_1 (hN : Nms N) (h3 : 3 ≤ N.length) {cs : List Cl} (hc : ∀ c ∈ cs, ClOk N c) (hz : cs.length ≤ 100) {v : D} (t : Tp) :
    ∃ r14, l_law_1 (lE s2 (.sh (nsD N)) (.sh (csD cs)) (.sh v) s6 s7 s8 s9 s10 s11 s12 s13 s14) t = some (.nx, lE s2 (.sh (nsD N)) (.sh (csD cs)) (.sh v) s6 s7 s8 s9 s10 s11 s12 s13 r14, t) := by
  have h7 := hN.len
  have hci : ∀ c ∈ cs, ClIn N c := fun c h => (hc c h).i
  obtain ⟨a, ha, e0⟩ : ∃ x ∈ N, idxD (nsD N) (.int 0) = some (.str x) := by
    cases N with
    | nil => simp at h3
    | cons x r => exact ⟨x, List.mem_cons_self, ix0 _ _⟩
  have W := wrongs hN h3 ha
  obtain ⟨e', t', l1, rfl, r14, rfl⟩ := forL_nx (Z := tz) (g := gset 14) (b := lb_law_1) (ds := [nsD (N.take 2), nsD (N.take 2 ++ [("Q9" : Str)]), nsD [a, a, a], lsD (N.take 3), .non, nsD (N.take 3 ++ N.take 1), .str "ABC", .int 5]) (e := lE s2 (.sh (nsD N)) (.sh (csD cs)) (.sh v) s6 s7 s8 s9 s10 s11 s12 s13 s14) (t := t)
    (fun k e t1 => t1 = t ∧ ∃ r14, e = lE s2 (.sh (nsD N)) (.sh (csD cs)) (.sh v) s6 s7 s8 s9 s10 s11 s12 s13 r14) ⟨rfl, s14, rfl⟩ fun k w e t1 hd hinv => by
      obtain ⟨rfl, r14, rfl⟩ := hinv
      have hw := W w (List.mem_of_getElem? hd)
      have gw : Gd w := .of (n := 5) (by omega) hw.g
      have c1 := is_claim_run hN gw t1
      rw [hw.f] at c1
      have gcw : Gd (.tup (cs.map clD ++ [w])) := by
        refine .of (n := 6) (by omega) (gd_tup (by rw [List.length_append, List.length_map]; simp; omega) (gdl.app (fun d hd => ?_) (.cons hw.g .nil)))
        obtain ⟨c, hcm, rfl⟩ := List.mem_map.mp hd
        exact gd_clD hN (hci c hcm) 4
      have c2 := are_claims_run hN gcw t1
      have f2 : clsB N (.tup (cs.map clD ++ [w])) = false := by
        simp [clsB, hw.f]
      rw [f2] at c2
      have gw1 : Gd (.tup [w]) := .of (n := 6) (by omega) (gd_tup (by simp) (.cons hw.g .nil))
      have f3 : clsB N (.tup [w]) = false := by
        simp [clsB, hw.f]
      have c3 := accepts_no (v := v) hN gw1 f3 t1
      have ad : addD (csD cs) (.tup [w]) = some (.tup (cs.map clD ++ [w])) := add_tup (by rw [List.length_map]; simp; omega)
      have sa := says_run false false t1
      rw [show (false == false) = true from rfl] at sa
      refine ⟨lE s2 (.sh (nsD N)) (.sh (csD cs)) (.sh v) s6 s7 s8 s9 s10 s11 s12 s13 (.sh w), rfl, .nx, lE s2 (.sh (nsD N)) (.sh (csD cs)) (.sh v) s6 s7 s8 s9 s10 s11 s12 s13 (.sh w), t1, ?_, .inl rfl, rfl, _, rfl⟩
      clear hd W hw gw gcw gw1 f2 f3
      generalize D.tup (cs.map clD ++ [w]) = CW at c2 ad
      generalize nsD N = NN at c1 c2 c3 ⊢
      generalize csD cs = CC at ad ⊢
      unfold lb_law_1 lE
      obtain ⟨F1, hF1⟩ : ∃ z, z = f_is_claim := ⟨_, rfl⟩
      rw [← hF1] at c1 ⊢
      clear hF1
      obtain ⟨F2, hF2⟩ : ∃ z, z = f_are_claims := ⟨_, rfl⟩
      rw [← hF2] at c2 ⊢
      clear hF2
      obtain ⟨F3, hF3⟩ : ∃ z, z = f_accepts_grouping := ⟨_, rfl⟩
      rw [← hF3] at c3 ⊢
      clear hF3
      obtain ⟨F4, hF4⟩ : ∃ z, z = f__law_says := ⟨_, rfl⟩
      rw [← hF4] at sa ⊢
      clear hF4
      simp [mop, ev2, ev1, evA, getA, look, slotOk, mcst, mvar, asB, mlst, mtup, mcons, mnil, mfn, mfnL, evN, evAs, getAs, mite, band, bor, bnot, mand, mor, mnot, mcall, iseq, irange1, irange2, sset, ssetO, sret, sdrop, snil, sif, gset, mmut, isL1, ssub, spar, evOs, setSls, slOf, sasg, gtup, gcons, gnil, mslice, osome, onone, mopL, mlensetA, misinst, mmt, kindD, saug, byes, scons, c1, c2, c3, ad, sa]
  refine ⟨r14, ?_⟩
  unfold l_law_1
  refine sfor_of (e1 := lE s2 (.sh (nsD N)) (.sh (csD cs)) (.sh v) s6 s7 s8 s9 s10 s11 s12 s13 s14) (t1 := t') (ds := [nsD (N.take 2), nsD (N.take 2 ++ [("Q9" : Str)]), nsD [a, a, a], lsD (N.take 3), .non, nsD (N.take 3 ++ N.take 1), .str "ABC", .int 5]) ?_ l1
  clear l1 W
  have s1 : sliceD (nsD N) none (some 1) = some (nsD (N.take 1)) := sl_ns N 1
  have s2' : sliceD (nsD N) none (some 2) = some (nsD (N.take 2)) := sl_ns N 2
  have s3 : sliceD (nsD N) none (some 3) = some (nsD (N.take 3)) := sl_ns N 3
  have a1 : addD (nsD (N.take 2)) (.tup [.str "Q9"]) = some (nsD (N.take 2 ++ [("Q9" : Str)])) := by
    unfold nsD
    rw [add_tup (by rw [List.length_map, List.length_take]; simp; omega), List.map_append]; rfl
  have a2 : addD (nsD (N.take 3)) (nsD (N.take 1)) = some (nsD (N.take 3 ++ N.take 1)) := by
    unfold nsD
    rw [add_tup (by rw [List.length_map, List.length_take, List.length_map, List.length_take]; omega), List.map_append]
  have m1 : mulD (.tup [.str a]) (.int 3) = some (nsD [a, a, a]) := rfl
  have li : list1 [nsD (N.take 3)] = some ((N.take 3).map .str) := rfl
  rw [show lsD (N.take 3) = .lst ((N.take 3).map .str) from rfl]
  generalize nsD (N.take 2 ++ [("Q9" : Str)]) = A1 at a1 ⊢
  generalize nsD (N.take 3 ++ N.take 1) = A2 at a2 ⊢
  generalize nsD [a, a, a] = A3 at m1 ⊢
  generalize (N.take 3).map D.str = A4 at li ⊢
  generalize nsD (N.take 1) = T1 at s1 a2
  generalize nsD (N.take 2) = T2 at s2' a1 ⊢
  generalize nsD (N.take 3) = T3 at s3 a2 li
  generalize nsD N = NN at s1 s2' s3 e0 ⊢
  generalize csD cs = CC
  unfold lE
  simp [mop, ev2, ev1, evA, getA, look, slotOk, mcst, mvar, asB, mlst, mtup, mcons, mnil, mfn, mfnL, evN, evAs, getAs, mite, band, bor, bnot, mand, mor, mnot, mcall, iseq, irange1, irange2, sset, ssetO, sret, sdrop, snil, sif, gset, mmut, isL1, ssub, spar, evOs, setSls, slOf, sasg, gtup, gcons, gnil, mslice, osome, onone, mopL, mlensetA, misinst, mmt, kindD, saug, byes, s1, s2', s3, a1, a2, m1, li, e0]
end
end K29

namespace K29
open PySem L2 DL

theorem names_take (r : Nat) (h : r < 5) : Nms (names7.take (3 + r)) ∧ 3 ≤ (names7.take (3 + r)).length := by
  have l : names7.length = 7 := rfl
  refine ⟨⟨List.Sublist.nodup (List.take_sublist _ _) n7_nodup, fun x hx => List.mem_of_mem_take hx, by rw [List.length_take]; omega⟩, by rw [List.length_take]; omega⟩
section
variable {s2 s3 s4 s5 s6 s7 s8 s9 s10 s11 s12 s13 s14 : Sl}
theorem law_claims {N : List Str} (hN : Nms N) (h3 : 3 ≤ N.length) (t : Tp) : ∃ (cs : List Cl) (t' : Tp), (∀ c ∈ cs, ClOk N c) ∧ cs.length ≤ 100 ∧ c_law_2 (lE s2 (.sh (nsD N)) s4 s5 s6 s7 s8 s9 s10 s11 s12 s13 s14) t = some (.lst (cs.map clD), lE s2 (.sh (nsD N)) s4 s5 s6 s7 s8 s9 s10 s11 s12 s13 s14, t') := by
  obtain ⟨r, t1, tk, hr⟩ := take_ex 10 (by omega) (by omega) t
  have tk' : f__law_take [.tape, .int 10] t = some (nD r, t1) := tk
  have src : irange1 (Z := tz) (mcons (mcall 2 f__law_take (mcons (mvar 1) (mcons (mcst (.int 10)) mnil))) mnil) (lE s2 (.sh (nsD N)) s4 s5 s6 s7 s8 s9 s10 s11 s12 s13 s14) t = some ((List.range r).map nD, lE s2 (.sh (nsD N)) s4 s5 s6 s7 s8 s9 s10 s11 s12 s13 s14, t1) := by
    have b1 : ((r : Nat) : Int) < 4611686018427387904 := by omega
    have rr := range0 r
    generalize nsD N = NN
    clear tk
    unfold lE
    obtain ⟨F, hF⟩ : ∃ z, z = f__law_take := ⟨_, rfl⟩
    rw [← hF] at tk' ⊢
    clear hF
    simp [mop, ev2, ev1, evA, getA, look, slotOk, mcst, mvar, asB, mlst, mtup, mcons, mnil, mfn, mfnL, evN, evAs, getAs, mite, band, bor, bnot, mand, mor, mnot, mcall, iseq, irange1, irange2, sset, ssetO, sret, sdrop, snil, sif, gset, mmut, isL1, ssub, spar, evOs, setSls, slOf, sasg, gtup, gcons, gnil, mslice, osome, onone, mopL, mlensetA, misinst, mmt, kindD, saug, byes, tk', b1, rr]
  obtain ⟨acc, t', c, cs, rfl, hc, hz⟩ := mlc_inv (Z := tz) (own := [15]) (g := gset 15) (el := ce_law_2) (e := lE s2 (.sh (nsD N)) s4 s5 s6 s7 s8 s9 s10 s11 s12 s13 s14) (t := t) (fun i acc _ => ∃ cs : List Cl, acc = cs.map clD ∧ (∀ c ∈ cs, ClOk N c) ∧ cs.length = i) src rfl (by rw [List.length_map, List.length_range]; omega) ⟨[], rfl, by simp, rfl⟩ fun i d acc t hd hi => by
    obtain ⟨cs, rfl, hc, hl⟩ := hi
    obtain ⟨c, t2, hcl, lc⟩ := claim_run hN h3 t
    refine ⟨[.no, .sh .tape, s2, .sh (nsD N), s4, s5, s6, s7, s8, s9, s10, s11, s12, s13, s14, .sh d, .no], rfl, clD c, [.no, .sh .tape, s2, .sh (nsD N), s4, s5, s6, s7, s8, s9, s10, s11, s12, s13, s14, .sh d, .no], t2, ?_, rfl, cs ++ [c], by rw [List.map_append]; rfl, fun x hx => ?_, by simp [hl]⟩
    · generalize nsD N = NN at lc ⊢
      generalize clD c = C at lc ⊢
      unfold ce_law_2
      obtain ⟨F, hF⟩ : ∃ z, z = f__law_claim := ⟨_, rfl⟩
      rw [← hF] at lc ⊢
      clear hF
      simp [mop, ev2, ev1, evA, getA, look, slotOk, mcst, mvar, asB, mlst, mtup, mcons, mnil, mfn, mfnL, evN, evAs, getAs, mite, band, bor, bnot, mand, mor, mnot, mcall, iseq, irange1, irange2, sset, ssetO, sret, sdrop, snil, sif, gset, mmut, isL1, ssub, spar, evOs, setSls, slOf, sasg, gtup, gcons, gnil, mslice, osome, onone, mopL, mlensetA, misinst, mmt, kindD, saug, byes, lc]
    · rcases List.mem_append.mp hx with hx | hx
      · exact hc x hx
      · simp at hx; subst hx; exact hcl
  rw [List.length_map, List.length_range] at hz
  exact ⟨cs, t', hc, by omega, c⟩
theorem eqv_cls (cs : List Cl) (h : ∀ c ∈ cs, gd 5 (clD c) = true) (hz : cs.length ≤ 1000) : neD (.lst (cs.map clD)) (.lst (cs.map clD)) = some (.bl false) := by
  have g : gd 6 (.lst (cs.map clD)) = true := gd_lst (by rw [List.length_map]; exact hz) fun d hd => by
    obtain ⟨c, hc, rfl⟩ := List.mem_map.mp hd
    exact h c hc
  have o := gd_okD 6 _ (by omega) g
  have e := eqv_refl 6 _ g
  simp only [neD, o, e, Bool.and_self, Bool.or_true, if_true, Bool.not_true]
theorem cof_in {N : List Str} {Fs : List (List Str)} : ∀ c ∈ cof N Fs (List.range N.length), ClIn N c := by
  intro c hc
  unfold cof at hc
  obtain ⟨i, hi, hc⟩ := List.mem_flatMap.mp hc
  unfold cofJ at hc
  obtain ⟨j, hj, hc⟩ := List.mem_flatMap.mp hc
  unfold cofI at hc
  obtain ⟨x, hx, rfl⟩ := List.mem_map.mp hc
  have hi := List.mem_range.mp hi
  have hj := List.mem_range'_1.mp hj
  exact ⟨(nth_get hi).1, (nth_get (by omega)).1, (List.mem_filter.mp hx).1⟩
theorem fams_of {N : List Str} (hN : Nms N) {cs : List Cl} {v : D} (hv : Made N cs v) (CC : D) (t : Tp) : ∃ Fs : List (List Str), (∀ F ∈ Fs, OkS F) ∧ Fs.length ≤ 1000 ∧
    sset (Z := tz) 9 (mite (asB (mop eqD (.e (mop idxD (.v 5) (.e (mcst (.int 0))))) (.e (mcst (.str "families"))))) (mop idxD (.v 5) (.e (mcst (.int 1)))) (mtup (mcons (mslice sliceD (.v 3) onone (osome (mcst (.int 2)))) mnil))) (lE s2 (.sh (nsD N)) (.sh CC) (.sh v) s6 s7 s8 s9 s10 s11 s12 s13 s14) t = some (.nx, lE s2 (.sh (nsD N)) (.sh CC) (.sh v) s6 s7 s8 (.sh (fsD Fs)) s10 s11 s12 s13 s14, t) := by
  rcases hv.sh with ⟨W, rfl, hW⟩ | ⟨Fs, rfl, hF, hl⟩
  · refine ⟨[N.take 2], fun F hF => ?_, by simp, ?_⟩
    · simp at hF; subst hF; exact hN.okS.sub fun x hx => List.mem_of_mem_take hx
    · have i0 : idxD (.tup [.str "tied", nsD W]) (.int 0) = some (.str "tied") := ix0 _ _
      have e : eqD (.str "tied") (.str "families") = some (.bl false) := by
        have : decide (("tied" : Str) = "families") = false := by decide +kernel
        simp only [eqD, scalD, Bool.true_or, if_true, eqv_str_str, this]
      have s1 : sliceD (nsD N) none (some 2) = some (nsD (N.take 2)) := sl_ns N 2
      unfold fsD
      rw [List.map_cons, List.map_nil]
      generalize nsD (N.take 2) = T at s1 ⊢
      generalize D.tup [.str "tied", nsD W] = V at i0 ⊢
      generalize nsD N = NN at s1 ⊢
      unfold lE
      simp [mop, ev2, ev1, evA, getA, look, slotOk, mcst, mvar, asB, mlst, mtup, mcons, mnil, mfn, mfnL, evN, evAs, getAs, mite, band, bor, bnot, mand, mor, mnot, mcall, iseq, irange1, irange2, sset, ssetO, sret, sdrop, snil, sif, gset, mmut, isL1, ssub, spar, evOs, setSls, slOf, sasg, gtup, gcons, gnil, mslice, osome, onone, mopL, mlensetA, misinst, mmt, kindD, saug, byes, i0, e, s1]
  · refine ⟨Fs, fun F hF' => (hF F hF').okS hN, by omega, ?_⟩
    have i0 : idxD (.tup [.str "families", fsD Fs]) (.int 0) = some (.str "families") := ix0 _ _
    have i1 : idxD (.tup [.str "families", fsD Fs]) (.int 1) = some (fsD Fs) := ix1 _ _ _
    have e : eqD (.str "families") (.str "families") = some (.bl true) := by
      simp only [eqD, scalD, Bool.true_or, if_true, eqv_str_str, decide_true]
    generalize D.tup [.str "families", fsD Fs] = V at i0 i1 ⊢
    generalize fsD Fs = FF at i1 ⊢
    generalize nsD N = NN
    unfold lE
    simp [mop, ev2, ev1, evA, getA, look, slotOk, mcst, mvar, asB, mlst, mtup, mcons, mnil, mfn, mfnL, evN, evAs, getAs, mite, band, bor, bnot, mand, mor, mnot, mcall, iseq, irange1, irange2, sset, ssetO, sret, sdrop, snil, sif, gset, mmut, isL1, ssub, spar, evOs, setSls, slOf, sasg, gtup, gcons, gnil, mslice, osome, onone, mopL, mlensetA, misinst, mmt, kindD, saug, byes, i0, i1, e]
theorem turn_run (t : Tp) : ∃ r2 r3 r4 r5 r6 r7 r8 r9 r10 r11 r12 r13 r14 t', lb_law_6 (lE s2 s3 s4 s5 s6 s7 s8 s9 s10 s11 s12 s13 s14) t = some (.nx, lE r2 r3 r4 r5 r6 r7 r8 r9 r10 r11 r12 r13 r14, t') := by
  obtain ⟨r, t1, tk, hr⟩ := take_ex 5 (by omega) (by omega) t
  have tk' : f__law_take [.tape, .int 5] t = some (nD r, t1) := tk
  clear tk
  obtain ⟨hN, h3⟩ := names_take r hr
  have q1 : sset (Z := tz) 3 (mslice sliceD (.e (mtup (mcons (mcst (.str "A")) (mcons (mcst (.str "B2")) (mcons (mcst (.str "C")) (mcons (mcst (.str "Dx")) (mcons (mcst (.str "E")) (mcons (mcst (.str "F7")) (mcons (mcst (.str "G")) mnil))))))))) onone (osome (mop addD (.e (mcst (.int 3))) (.e (mcall 2 f__law_take (mcons (mvar 1) (mcons (mcst (.int 5)) mnil))))))) (lE s2 s3 s4 s5 s6 s7 s8 s9 s10 s11 s12 s13 s14) t = some (.nx, lE s2 (.sh (nsD (names7.take (3 + r)))) s4 s5 s6 s7 s8 s9 s10 s11 s12 s13 s14, t1) := by
    have ad : addD (.int 3) (nD r) = some (.int ((3 + r : Nat) : Int)) := by simp [addD]
    have sl : sliceD (.tup [.str "A", .str "B2", .str "C", .str "Dx", .str "E", .str "F7", .str "G"]) none (some ((3 + r : Nat) : Int)) = some (nsD (names7.take (3 + r))) := sl_ns names7 (3 + r)
    generalize nsD (names7.take (3 + r)) = NN at sl ⊢
    generalize ((3 + r : Nat) : Int) = z at ad sl
    generalize nD r = y at tk' ad
    unfold lE
    obtain ⟨F, hF⟩ : ∃ z, z = f__law_take := ⟨_, rfl⟩
    rw [← hF] at tk' ⊢
    clear hF
    simp [mop, ev2, ev1, evA, getA, look, slotOk, mcst, mvar, asB, mlst, mtup, mcons, mnil, mfn, mfnL, evN, evAs, getAs, mite, band, bor, bnot, mand, mor, mnot, mcall, iseq, irange1, irange2, sset, ssetO, sret, sdrop, snil, sif, gset, mmut, isL1, ssub, spar, evOs, setSls, slOf, sasg, gtup, gcons, gnil, mslice, osome, onone, mopL, mlensetA, misinst, mmt, kindD, saug, byes, tk', ad, sl]
  clear tk'
  generalize names7.take (3 + r) = N at hN h3 q1
  have h0 : N ≠ [] := fun z => by rw [z] at h3; simp at h3
  obtain ⟨cs, t2, hc, hz, q2⟩ := law_claims (s2 := s2) (s4 := s4) (s5 := s5) (s6 := s6) (s7 := s7) (s8 := s8) (s9 := s9) (s10 := s10) (s11 := s11) (s12 := s12) (s13 := s13) (s14 := s14) hN h3 t1
  have hci : ∀ c ∈ cs, ClIn N c := fun c h => (hc c h).i
  obtain ⟨v, hv, q3⟩ := made_run hN h3 hc (by omega) t2
  have gv : Gd v := by
    rcases hv.sh with ⟨W, rfl, hW⟩ | ⟨Fs, rfl, hF, hl⟩
    · exact .of (n := 7) (by omega) (gd_tup (by simp) (.cons (gd_str (by decide +kernel) 6) (.cons (gd_nsD (fun x hx => hN.un x (hW.sub x hx)) (by have := hW.len; have := hN.len; omega) 5) .nil)))
    · refine .of (n := 7) (by omega) (gd_tup (by simp) (.cons (gd_str (by decide +kernel) 6) (.cons (gd_tup (by rw [List.length_map]; omega) (fun d hd => ?_)) .nil)))
      obtain ⟨F, hFm, rfl⟩ := List.mem_map.mp hd
      exact gd_nsD (fun x hx => hN.un x ((hF F hFm).sub x hx)) (by have := (hF F hFm).len; have := hN.len; omega) 4
  obtain ⟨b, hb, ab⟩ := accepts_run hN h0 hc (by omega) gv
  have eb : b = true := hb.mpr hv.due
  subst eb
  have q4 := (ab t2).1
  obtain ⟨r6, r7, r8, t3, q5⟩ := lo_5 (s2 := s2) (s6 := s6) (s7 := s7) (s8 := s8) (s9 := s9) (s10 := s10) (s11 := s11) (s12 := s12) (s13 := s13) (s14 := s14) hN h3 hc hz hv t2
  obtain ⟨Fs, hF, hl, q6⟩ := fams_of (s2 := s2) (s6 := r6) (s7 := r7) (s8 := r8) (s9 := s9) (s10 := s10) (s11 := s11) (s12 := s12) (s13 := s13) (s14 := s14) hN hv (csD cs) t3
  obtain ⟨r10, t4, q7⟩ := lo_4 (s2 := s2) (s5 := .sh v) (s6 := r6) (s7 := r7) (s8 := r8) (s10 := s10) (s11 := s11) (s12 := s12) (s13 := s13) (s14 := s14) hN h3 hF hl hc hz t3
  obtain ⟨r12, r13, q8⟩ := du_3 (s2 := s2) (s4 := .sh (csD cs)) (s5 := .sh v) (s6 := r6) (s7 := r7) (s8 := r8) (s10 := r10) (s12 := s12) (s13 := s13) (s14 := s14) hN hF hl t4
  have q9 := claims_of_run hN hF hl t4
  have cl := cof_len hN.len Fs (List.range N.length)
  rw [List.length_range] at cl
  have q10 := eqv_cls (cof N Fs (List.range N.length)) (fun c hc => gd_clD hN (cof_in c hc) 4) (by have := hN.len; omega)
  have q11 := are_claims_run hN (gd_cs hN hci (by omega)) t4
  rw [clsB_ok hN hc] at q11
  obtain ⟨r14, q12⟩ := lo_1 (s2 := s2) (s6 := r6) (s7 := r7) (s8 := r8) (s9 := .sh (fsD Fs)) (s10 := r10) (s11 := .sh (.lst ((cof N Fs (List.range N.length)).map clD))) (s12 := r12) (s13 := r13) (s14 := s14) hN h3 hc hz (v := v) t4
  have q13 := are_claims_run hN (w := .lst (cs.map clD)) (.of (n := 6) (by omega) (gd_lst (by rw [List.length_map]; omega) (fun d hd => by
    obtain ⟨c, hcm, rfl⟩ := List.mem_map.mp hd
    exact gd_clD hN (hci c hcm) 4))) t4
  rw [show clsB N (.lst (cs.map clD)) = false from rfl] at q13
  have q14 := accepts_none (c := csD cs) (v := v) t4
  have sa2 := says_run true true t2
  have sa4 := says_run true true t4
  have sb4 := says_run false false t4
  rw [show (true == true) = true from rfl] at sa2 sa4
  rw [show (false == false) = true from rfl] at sb4
  have li : list1 [csD cs] = some (cs.map clD) := rfl
  have tu : tuple1 [.lst (cs.map clD)] = some (csD cs) := rfl
  refine ⟨s2, .sh (nsD N), .sh (csD cs), .sh v, r6, r7, r8, .sh (fsD Fs), r10, .sh (.lst ((cof N Fs (List.range N.length)).map clD)), r12, r13, r14, t4, ?_⟩
  unfold lb_law_6
  refine scons_nx (Z := tz) q1 (scons_nx (Z := tz) (e1 := lE s2 (.sh (nsD N)) (.sh (csD cs)) s5 s6 s7 s8 s9 s10 s11 s12 s13 s14) (t1 := t2) ?_
    (scons_nx (Z := tz) (e1 := lE s2 (.sh (nsD N)) (.sh (csD cs)) (.sh v) s6 s7 s8 s9 s10 s11 s12 s13 s14) (t1 := t2) ?_
    (scons_nx (Z := tz) (e1 := lE s2 (.sh (nsD N)) (.sh (csD cs)) (.sh v) s6 s7 s8 s9 s10 s11 s12 s13 s14) (t1 := t2) ?_
    (scons_nx (Z := tz) q5 (scons_nx (Z := tz) q6 (scons_nx (Z := tz) q7
    (scons_nx (Z := tz) (e1 := lE s2 (.sh (nsD N)) (.sh (csD cs)) (.sh v) r6 r7 r8 (.sh (fsD Fs)) r10 (.sh (.lst [])) s12 s13 s14) (t1 := t4) ?_
    (scons_nx (Z := tz) q8
    (scons_nx (Z := tz) (e1 := lE s2 (.sh (nsD N)) (.sh (csD cs)) (.sh v) r6 r7 r8 (.sh (fsD Fs)) r10 (.sh (.lst ((cof N Fs (List.range N.length)).map clD))) r12 r13 s14) (t1 := t4) ?_
    (scons_nx (Z := tz) q12 ?_))))))))))
  · clear q1 q3 q4 ab q5 q6 q7 q8 q9 q10 q11 q12 q13 q14 sa2 sa4 sb4
    generalize nsD N = NN at q2 ⊢
    generalize csD cs = CC at tu ⊢
    generalize D.lst (cs.map clD) = L at q2 tu
    unfold lE at q2 ⊢
    obtain ⟨C, hC⟩ : ∃ z, z = c_law_2 := ⟨_, rfl⟩
    rw [← hC] at q2 ⊢
    clear hC
    simp [mop, ev2, ev1, evA, getA, look, slotOk, mcst, mvar, asB, mlst, mtup, mcons, mnil, mfn, mfnL, evN, evAs, getAs, mite, band, bor, bnot, mand, mor, mnot, mcall, iseq, irange1, irange2, sset, ssetO, sret, sdrop, snil, sif, gset, mmut, isL1, ssub, spar, evOs, setSls, slOf, sasg, gtup, gcons, gnil, mslice, osome, onone, mopL, mlensetA, misinst, mmt, kindD, saug, byes, q2, tu]
  · clear q1 q2 q4 ab q5 q6 q7 q8 q9 q10 q11 q12 q13 q14 sa2 sa4 sb4
    generalize nsD N = NN at q3 ⊢
    generalize csD cs = CC at q3 ⊢
    unfold lE
    obtain ⟨F, hF⟩ : ∃ z, z = f__law_made := ⟨_, rfl⟩
    rw [← hF] at q3 ⊢
    clear hF
    simp [mop, ev2, ev1, evA, getA, look, slotOk, mcst, mvar, asB, mlst, mtup, mcons, mnil, mfn, mfnL, evN, evAs, getAs, mite, band, bor, bnot, mand, mor, mnot, mcall, iseq, irange1, irange2, sset, ssetO, sret, sdrop, snil, sif, gset, mmut, isL1, ssub, spar, evOs, setSls, slOf, sasg, gtup, gcons, gnil, mslice, osome, onone, mopL, mlensetA, misinst, mmt, kindD, saug, byes, q3]
  · clear q1 q2 q3 ab q5 q6 q7 q8 q9 q10 q11 q12 q13 q14 sa4 sb4
    generalize nsD N = NN at q4 ⊢
    generalize csD cs = CC at q4 ⊢
    unfold lE
    obtain ⟨F, hF⟩ : ∃ z, z = f_accepts_grouping := ⟨_, rfl⟩
    rw [← hF] at q4 ⊢
    clear hF
    obtain ⟨F2, hF2⟩ : ∃ z, z = f__law_says := ⟨_, rfl⟩
    rw [← hF2] at sa2 ⊢
    clear hF2
    simp [mop, ev2, ev1, evA, getA, look, slotOk, mcst, mvar, asB, mlst, mtup, mcons, mnil, mfn, mfnL, evN, evAs, getAs, mite, band, bor, bnot, mand, mor, mnot, mcall, iseq, irange1, irange2, sset, ssetO, sret, sdrop, snil, sif, gset, mmut, isL1, ssub, spar, evOs, setSls, slOf, sasg, gtup, gcons, gnil, mslice, osome, onone, mopL, mlensetA, misinst, mmt, kindD, saug, byes, q4, sa2]
  · generalize nsD N = NN
    generalize csD cs = CC
    generalize fsD Fs = FF
    rfl
  · clear q1 q2 q3 q4 ab q5 q6 q7 q8 q12 q13 q14 sa2 sb4
    generalize nsD N = NN at q9 q11 ⊢
    generalize csD cs = CC at q11 ⊢
    generalize fsD Fs = FF at q9 ⊢
    generalize D.lst ((cof N Fs (List.range N.length)).map clD) = R at q9 q10 ⊢
    unfold lE
    obtain ⟨F1, hF1⟩ : ∃ z, z = f_claims_of := ⟨_, rfl⟩
    rw [← hF1] at q9 ⊢
    clear hF1
    obtain ⟨F2, hF2⟩ : ∃ z, z = f_are_claims := ⟨_, rfl⟩
    rw [← hF2] at q11 ⊢
    clear hF2
    obtain ⟨F3, hF3⟩ : ∃ z, z = f__law_says := ⟨_, rfl⟩
    rw [← hF3] at sa4 ⊢
    clear hF3
    simp [mop, ev2, ev1, evA, getA, look, slotOk, mcst, mvar, asB, mlst, mtup, mcons, mnil, mfn, mfnL, evN, evAs, getAs, mite, band, bor, bnot, mand, mor, mnot, mcall, iseq, irange1, irange2, sset, ssetO, sret, sdrop, snil, sif, gset, mmut, isL1, ssub, spar, evOs, setSls, slOf, sasg, gtup, gcons, gnil, mslice, osome, onone, mopL, mlensetA, misinst, mmt, kindD, saug, byes, q9, q10, q11, sa4]
  · clear q1 q2 q3 q4 ab q5 q6 q7 q8 q9 q10 q11 q12 sa2 sa4
    generalize nsD N = NN at q13 ⊢
    generalize csD cs = CC at q14 li ⊢
    generalize cs.map clD = L at q13 li
    generalize fsD Fs = FF
    generalize D.lst ((cof N Fs (List.range N.length)).map clD) = R
    unfold lE
    obtain ⟨F1, hF1⟩ : ∃ z, z = f_are_claims := ⟨_, rfl⟩
    rw [← hF1] at q13 ⊢
    clear hF1
    obtain ⟨F2, hF2⟩ : ∃ z, z = f_accepts_grouping := ⟨_, rfl⟩
    rw [← hF2] at q14 ⊢
    clear hF2
    obtain ⟨F3, hF3⟩ : ∃ z, z = f__law_says := ⟨_, rfl⟩
    rw [← hF3] at sb4 ⊢
    clear hF3
    simp [mop, ev2, ev1, evA, getA, look, slotOk, mcst, mvar, asB, mlst, mtup, mcons, mnil, mfn, mfnL, evN, evAs, getAs, mite, band, bor, bnot, mand, mor, mnot, mcall, iseq, irange1, irange2, sset, ssetO, sret, sdrop, snil, sif, gset, mmut, isL1, ssub, spar, evOs, setSls, slOf, sasg, gtup, gcons, gnil, mslice, osome, onone, mopL, mlensetA, misinst, mmt, kindD, saug, byes, q13, q14, li, sb4]
end
theorem plain : ∀ ns : List Int, ns.length ≤ 63 → ∃ T' e', m_law (.no :: .sh .tape :: List.replicate 15 .no) (startT ns) = some (.rt (.bl true), e', T') := by
  intro ns _
  generalize startT ns = t
  obtain ⟨e', t', l1, r2, r3, r4, r5, r6, r7, r8, r9, r10, r11, r12, r13, r14, rfl⟩ := forL_nx (Z := tz) (g := gset 2) (b := lb_law_6) (ds := (List.range 3).map nD) (e := lE .no .no .no .no .no .no .no .no .no .no .no .no .no) (t := t)
    (fun k e _ => ∃ s2 s3 s4 s5 s6 s7 s8 s9 s10 s11 s12 s13 s14, e = lE s2 s3 s4 s5 s6 s7 s8 s9 s10 s11 s12 s13 s14) ⟨_, _, _, _, _, _, _, _, _, _, _, _, _, rfl⟩ fun k d e t1 hd hinv => by
      obtain ⟨s2, s3, s4, s5, s6, s7, s8, s9, s10, s11, s12, s13, s14, rfl⟩ := hinv
      obtain ⟨r2, r3, r4, r5, r6, r7, r8, r9, r10, r11, r12, r13, r14, t', q⟩ := turn_run (s2 := .sh d) (s3 := s3) (s4 := s4) (s5 := s5) (s6 := s6) (s7 := s7) (s8 := s8) (s9 := s9) (s10 := s10) (s11 := s11) (s12 := s12) (s13 := s13) (s14 := s14) t1
      exact ⟨_, rfl, .nx, _, t', q, .inl rfl, _, _, _, _, _, _, _, _, _, _, _, _, _, rfl⟩
  have src : l_law_6 (lE .no .no .no .no .no .no .no .no .no .no .no .no .no) t = some (.nx, lE r2 r3 r4 r5 r6 r7 r8 r9 r10 r11 r12 r13 r14, t') := by
    unfold l_law_6
    refine sfor_of (e1 := lE .no .no .no .no .no .no .no .no .no .no .no .no .no) (t1 := t) (ds := (List.range 3).map nD) ?_ l1
    clear l1
    have rr : rangeD 0 3 = (List.range 3).map nD := range0 3
    generalize (List.range 3).map nD = R at rr ⊢
    unfold lE
    simp [mop, ev2, ev1, evA, getA, look, slotOk, mcst, mvar, asB, mlst, mtup, mcons, mnil, mfn, mfnL, evN, evAs, getAs, mite, band, bor, bnot, mand, mor, mnot, mcall, iseq, irange1, irange2, sset, ssetO, sret, sdrop, snil, sif, gset, mmut, isL1, ssub, spar, evOs, setSls, slOf, sasg, gtup, gcons, gnil, mslice, osome, onone, mopL, mlensetA, misinst, mmt, kindD, saug, byes, rr]
  refine ⟨t', lE r2 r3 r4 r5 r6 r7 r8 r9 r10 r11 r12 r13 r14, ?_⟩
  unfold m_law
  exact scons_nx (Z := tz) src rfl
end K29

open PySem PySem.W PySem.Calls PyProof.Rows in
theorem PySem.Challenge.cw_elderfolios_k29_claims_judged_holds : PySem.Challenge.rw_elderfolios_k29_claims_judged.Holds := by
  w_on; o_law
  refine HandSHeadRun.head_any (r := OpenLaw.row PySem.Challenge.rw_elderfolios_k29_claims_judged) (q := view (OpenLaw.row PySem.Challenge.rw_elderfolios_k29_claims_judged).prog [31]) (H := K29.hk) (ob := K29.ob) (M := 2000) (loose := K29.names) (d := HandSHeadRun.topDef (OpenLaw.row PySem.Challenge.rw_elderfolios_k29_claims_judged).prog 31) (kwd := []) K29.ob_eq
    (by kernel_rfl) (fun s => by kernel_rfl) K29.run (by kernel_rfl) (by kernel_rfl) (by kernel_rfl) (by rfl) (by first | assumption | decide +kernel) (by decide +kernel) ⟨rfl, rfl, rfl, rfl, rfl, by decide +kernel⟩ ?hw ?hc
  case hw => w_witness2
  case hc =>
    refine L2.walk_ofE (l := PySem.Challenge.rw_elderfolios_k29_claims_judged) (n := 63) (k := 6) (x := "script") (CX := L2.CX0) rfl (by decide) (by kernel_rfl) ⟨rfl, by decide, by decide⟩ ?F (fun _ _ _ _ z => z)
    intro w mg fa h Y G hmg0
    obtain ⟨K, KX, c⟩ := Y
    have hmg : mg ("law" : PySem.Str) = some (.ref fa) := by
      have e : (HandSHeadRun.topDef (OpenLaw.row PySem.Challenge.rw_elderfolios_k29_claims_judged).prog 31).name = ("law" : PySem.Str) := by kernel_rfl
      rw [← e]
      exact hmg0
    obtain ⟨fd, hb, hF⟩ := K29.facts K29.plain (P := (PySem.Challenge.rw_elderfolios_k29_claims_judged).prog) (w := w) KX G hmg c
    exact ⟨K, fd, DL.spLaw K, KX, hb, fun H a ns hl _ hS => ⟨a, ns, rfl, hS, hl, fun _ => rfl⟩, hF⟩
#print axioms PySem.Challenge.cw_elderfolios_k29_claims_judged_holds

