import PyProof.Rows.All
import Wide.All
import OpenK.AllK
import Wide.FinOn
import HandS.ForMost
import HandS.Deep
import HandS.TupAny
import HandS.TupMul
import HandS.IsInst
import HandS.More
import PyProof.SeqIndex
import HandS.Style
import HandS.SortInts
import PyProof.Rows.SetFrom
import PyProof.Rows.SetListFold
import KE.KStateDown
import Lean
import HandS.Ends
import HandS.Words
import HandS.WordsExc
import HandS.Defaults
import HandS.Head0
import HandS.Head1
import HandS.Head2
import HandS.HeadEnd
import HandS.HeadHook1
import HandS.HeadHook2
import HandS.Strs
import HandS.List
import HandS.Small
import HandS.Dict
import HandS.Set
import HandS.SetFor
import HandS.Conv
import PySem.Challenge.RW_elderfolios_k91_worn_quires_judged
set_option Elab.async false
set_option maxRecDepth 100000
set_option linter.unusedVariables false
set_option linter.unusedSimpArgs false
set_option linter.unnecessarySimpa false
/-! The data layer, 1: trees of data, what holds them, ownership, the step relation. -/
namespace DL
open PySem L2

/-- a tree of data -/
inductive D where
  | non | bl (b : Bool) | int (i : Int) | str (x : Str)
  | tup (xs : List D) | lst (xs : List D)
  | dic (ks vs : List D) | set (xs : List D) | tape

/-- a slot of a def: nothing known, shared data, a list that the slot alone owns (to a depth) -/
inductive Sl where
  | no | sh (d : D) | ow (n : Nat) (d : D)

/-- the draws' tape: objects at fixed addresses -/
structure TSys where
  T : Type
  Ad : Type
  addrs : Ad → List Addr
  root : Ad → V
  At : Ad → T → Hp → Prop
  loc : ∀ {a t} {H H' : Hp}, At a t H → (∀ b ∈ addrs a, H' b = H b) → At a t H'
  has : ∀ {a t} {H : Hp} {b}, At a t H → b ∈ addrs a → ∃ o, H b = some o

/-- a key of a dict -/
def keyD : D → Option Key
  | .int i => some (.inl i)
  | .str x => some (.inr x)
  | _ => none
def keysD : List D → Option (List Key)
  | [] => some []
  | d :: ds => do
    let k ← keyD d
    let ks ← keysD ds
    some (k :: ks)
def keyTD : D → Option (List Key)
  | .tup ds => keysD ds
  | _ => none
def keysTD : List D → Option (List (List Key))
  | [] => some []
  | d :: ds => do
    let k ← keyTD d
    let ks ← keysTD ds
    some (k :: ks)

/-- a plain tuple at a: its object is known, it has no dict -/
def TupF (F : Hp) (a : Addr) (vs : List V) : Prop := ∃ o : Obj, F a = some (.frz o (.tup vs)) ∧ o.dict = none
theorem TupF.mono {F G : Hp} {a : Addr} {vs : List V} (s : Same F G) (h : TupF F a vs) : TupF G a vs := let ⟨o, e, d⟩ := h; ⟨o, s _ _ e, d⟩
theorem TupF.sq {K : PySem.W.Frag} {F : Hp} {a : Addr} {vs : List V} (h : TupF F a vs) : SqT K F a vs := let ⟨o, e, _⟩ := h; .inl (.inr ⟨o, e⟩)
mutual
def Holds (rt : V) (F : Hp) : D → V → Prop
  | .non, v => v = .non
  | .bl b, v => v = .bl b
  | .int i, v => v = .int i
  | .str x, v => v = .str x
  | .tup ds, v => ∃ a vs, v = .ref a ∧ TupF F a vs ∧ HoldsL rt F ds vs
  | .lst ds, v => ∃ a vs, v = .ref a ∧ F a = some (.lst vs) ∧ HoldsL rt F ds vs
  | .dic ks ds, v => ∃ a vs, v = .ref a ∧ HoldsL rt F ds vs ∧ ((∃ kk, keysD ks = some kk ∧ kk.length = vs.length ∧ F a = some (.dK (kk.zip vs))) ∨ (∃ kk, keysTD ks = some kk ∧ kk.length = vs.length ∧ F a = some (.dT (kk.zip vs))))
  | .set _, _ => False
  | .tape, v => v = rt
def HoldsL (rt : V) (F : Hp) : List D → List V → Prop
  | [], vs => vs = []
  | d :: ds, vs => ∃ v r, vs = v :: r ∧ Holds rt F d v ∧ HoldsL rt F ds r
end

mutual
theorem Holds.mono {rt : V} {F G : Hp} (s : Same F G) : ∀ {d : D} {v : V}, Holds rt F d v → Holds rt G d v
  | .non, _, h => by simpa only [Holds] using h
  | .bl _, _, h => by simpa only [Holds] using h
  | .int _, _, h => by simpa only [Holds] using h
  | .str _, _, h => by simpa only [Holds] using h
  | .tape, _, h => by simpa only [Holds] using h
  | .set _, _, h => by simp only [Holds] at h
  | .tup ds, _, h => by
    simp only [Holds] at h ⊢
    obtain ⟨a, vs, e, f, l⟩ := h
    exact ⟨a, vs, e, f.mono s, HoldsL.mono s l⟩
  | .lst ds, _, h => by
    simp only [Holds] at h ⊢
    obtain ⟨a, vs, e, f, l⟩ := h
    exact ⟨a, vs, e, s _ _ f, HoldsL.mono s l⟩
  | .dic ks ds, _, h => by
    simp only [Holds] at h ⊢
    obtain ⟨a, vs, e, l, f⟩ := h
    refine ⟨a, vs, e, HoldsL.mono s l, ?_⟩
    rcases f with ⟨kk, f1, f2, f3⟩ | ⟨kk, f1, f2, f3⟩
    · exact .inl ⟨kk, f1, f2, s _ _ f3⟩
    · exact .inr ⟨kk, f1, f2, s _ _ f3⟩
theorem HoldsL.mono {rt : V} {F G : Hp} (s : Same F G) : ∀ {ds : List D} {vs : List V}, HoldsL rt F ds vs → HoldsL rt G ds vs
  | [], _, h => by simpa only [HoldsL] using h
  | d :: ds, _, h => by
    simp only [HoldsL] at h ⊢
    obtain ⟨v, r, e, h1, h2⟩ := h
    exact ⟨v, r, e, h1.mono s, h2.mono s⟩
end
theorem HoldsL.length {rt : V} {F : Hp} : ∀ {ds : List D} {vs : List V}, HoldsL rt F ds vs → vs.length = ds.length
  | [], _, h => by simp only [HoldsL] at h; rw [h]; rfl
  | d :: ds, _, h => by
    simp only [HoldsL] at h
    obtain ⟨v, r, rfl, _, h2⟩ := h
    simp only [List.length_cons, h2.length]
theorem HoldsL.get {rt : V} {F : Hp} : ∀ {ds : List D} {vs : List V} {i : Nat} {d : D}, HoldsL rt F ds vs → ds[i]? = some d → ∃ v, vs[i]? = some v ∧ Holds rt F d v
  | [], _, _, _, _, e => by simp at e
  | d :: ds, _, 0, x, h, e => by
    simp only [HoldsL] at h
    obtain ⟨v, r, rfl, h1, _⟩ := h
    simp at e; subst e
    exact ⟨v, rfl, h1⟩
  | d :: ds, _, i + 1, x, h, e => by
    simp only [HoldsL] at h
    obtain ⟨v, r, rfl, _, h2⟩ := h
    obtain ⟨w, e1, e2⟩ := h2.get (i := i) (by simpa using e)
    exact ⟨w, by simpa using e1, e2⟩
theorem HoldsL.app {rt : V} {F : Hp} : ∀ {ds es : List D} {vs us : List V}, HoldsL rt F ds vs → HoldsL rt F es us → HoldsL rt F (ds ++ es) (vs ++ us)
  | [], _, _, _, h, k => by simp only [HoldsL] at h; subst h; exact k
  | d :: ds, _, _, _, h, k => by
    simp only [HoldsL, List.cons_append] at h ⊢
    obtain ⟨v, r, rfl, h1, h2⟩ := h
    exact ⟨v, _, rfl, h1, h2.app k⟩
theorem HoldsL.nil {rt : V} {F : Hp} : HoldsL rt F [] [] := by simp only [HoldsL]
theorem HoldsL.one {rt : V} {F : Hp} {d : D} {v : V} (h : Holds rt F d v) : HoldsL rt F [d] [v] := by
  simp only [HoldsL]; exact ⟨v, [], rfl, h, rfl⟩
theorem HoldsL.cons {rt : V} {F : Hp} {d : D} {v : V} {ds : List D} {vs : List V} (h : Holds rt F d v) (k : HoldsL rt F ds vs) : HoldsL rt F (d :: ds) (v :: vs) := by
  simp only [HoldsL]; exact ⟨v, vs, rfl, h, k⟩
theorem HoldsL.of_get {rt : V} {F : Hp} : ∀ {ds : List D} {vs : List V}, vs.length = ds.length → (∀ (i : Nat) (d : D) (v : V), ds[i]? = some d → vs[i]? = some v → Holds rt F d v) → HoldsL rt F ds vs
  | [], [], _, _ => .nil
  | [], _ :: _, e, _ => by simp at e
  | _ :: _, [], e, _ => by simp at e
  | d :: ds, v :: vs, e, h => .cons (h 0 d v rfl rfl) (HoldsL.of_get (by simpa using e) fun i x y h1 h2 => h (i + 1) x y (by simpa using h1) (by simpa using h2))
theorem HoldsL.take {rt : V} {F : Hp} {ds : List D} {vs : List V} (h : HoldsL rt F ds vs) (n : Nat) : HoldsL rt F (ds.take n) (vs.take n) := by
  refine .of_get (by rw [List.length_take, List.length_take, h.length]) fun i d v h1 h2 => ?_
  rw [List.getElem?_take] at h1 h2
  split at h1
  · rename_i q
    rw [if_pos q] at h2
    obtain ⟨w, e1, e2⟩ := h.get h1
    rw [h2] at e1; cases e1; exact e2
  · cases h1
theorem HoldsL.drop {rt : V} {F : Hp} {ds : List D} {vs : List V} (h : HoldsL rt F ds vs) (n : Nat) : HoldsL rt F (ds.drop n) (vs.drop n) := by
  refine .of_get (by rw [List.length_drop, List.length_drop, h.length]) fun i d v h1 h2 => ?_
  rw [List.getElem?_drop] at h1 h2
  obtain ⟨w, e1, e2⟩ := h.get h1
  rw [h2] at e1; cases e1; exact e2
theorem HoldsL.set {rt : V} {F : Hp} {ds : List D} {vs : List V} (h : HoldsL rt F ds vs) (n : Nat) {d : D} {v : V} (k : Holds rt F d v) : HoldsL rt F (ds.set n d) (vs.set n v) := by
  refine .of_get (by rw [List.length_set, List.length_set, h.length]) fun i x y h1 h2 => ?_
  by_cases e : n = i
  · subst e
    rw [List.getElem?_set] at h1 h2
    simp only [if_true] at h1 h2
    split at h1
    · split at h2
      · cases h1; cases h2; exact k
      · cases h2
    · cases h1
  · rw [List.getElem?_set_ne e] at h1 h2
    obtain ⟨w, e1, e2⟩ := h.get h1
    rw [h2] at e1; cases e1; exact e2
theorem HoldsL.eraseIdx {rt : V} {F : Hp} : ∀ {ds : List D} {vs : List V} (n : Nat), HoldsL rt F ds vs → HoldsL rt F (ds.eraseIdx n) (vs.eraseIdx n)
  | [], _, n, h => by simp only [HoldsL] at h; subst h; exact .nil
  | d :: ds, _, 0, h => by
    simp only [HoldsL] at h
    obtain ⟨v, r, rfl, _, h2⟩ := h
    exact h2
  | d :: ds, _, n + 1, h => by
    simp only [HoldsL] at h
    obtain ⟨v, r, rfl, h1, h2⟩ := h
    exact .cons h1 (h2.eraseIdx n)

/-! ### ownership -/
section
variable (rt : V) (F H : Hp)
def OwnL (P : D → V → List Addr → Prop) : List D → List V → List Addr → Prop
  | [], vs, A => vs = [] ∧ A = []
  | d :: ds, vs, A => ∃ v r A1 A2, vs = v :: r ∧ A = A1 ++ A2 ∧ P d v A1 ∧ OwnL P ds r A2
/-- the one object at p, its items held by P -/
def OwnAt (P : D → V → List Addr → Prop) (p : Addr) : D → List Addr → Prop
  | .lst ds, A => ∃ vs, H p = some (.lst vs) ∧ OwnL P ds vs A
  | .dic ks ds, A => A = [] ∧ ∃ vs, HoldsL rt F ds vs ∧ ((∃ kk, keysD ks = some kk ∧ kk.length = vs.length ∧ H p = some (.dK (kk.zip vs))) ∨ (∃ kk, keysTD ks = some kk ∧ kk.length = vs.length ∧ H p = some (.dT (kk.zip vs))))
  | _, _ => False
def Own : Nat → D → V → List Addr → Prop
  | 0, d, v, A => A = [] ∧ Holds rt F d v
  | n + 1, d, v, A => ∃ p B, v = .ref p ∧ F p = none ∧ A = p :: B ∧ OwnAt rt F H (Own n) p d B
def SlotR : Sl → Option V → List Addr → Prop
  | .no, _, A => A = []
  | .sh d, o, A => A = [] ∧ ∃ v, o = some v ∧ Holds rt F d v
  | .ow n d, o, A => ∃ v, o = some v ∧ Own rt F H n d v A
def EnvR : List Sl → L2.St → List Addr → Prop
  | [], σ, A => σ = [] ∧ A = []
  | s :: ss, σ, A => ∃ o r A1 A2, σ = o :: r ∧ A = A1 ++ A2 ∧ SlotR rt F H s o A1 ∧ EnvR ss r A2
end
section
variable {rt : V} {F H F' H' : Hp}
theorem OwnL.imp {P Q : D → V → List Addr → Prop} : ∀ {ds : List D} {vs : List V} {A : List Addr}, OwnL P ds vs A → (∀ d v B, (∀ a ∈ B, a ∈ A) → P d v B → Q d v B) → OwnL Q ds vs A
  | [], _, _, h, _ => h
  | d :: ds, _, _, h, f => by
    obtain ⟨v, r, A1, A2, e1, e2, h1, h2⟩ := h
    subst e1 e2
    exact ⟨v, r, A1, A2, rfl, rfl, f _ _ _ (fun a ha => List.mem_append_left _ ha) h1, h2.imp fun d v B hB => f d v B fun a ha => List.mem_append_right _ (hB a ha)⟩
/-- what is owned stays where its objects stay -/
theorem Own.keep (s : Same F F') : ∀ {n : Nat} {d : D} {v : V} {A : List Addr}, Own rt F H n d v A → (∀ a ∈ A, H' a = H a ∧ F' a = none) → Own rt F' H' n d v A
  | 0, _, _, _, h, _ => ⟨h.1, h.2.mono s⟩
  | n + 1, d, v, A, h, k => by
    obtain ⟨p, B, e, f, eA, q⟩ := h
    subst eA
    obtain ⟨k1, k2⟩ := k p List.mem_cons_self
    refine ⟨p, B, e, k2, rfl, ?_⟩
    cases d with
    | lst ds =>
      obtain ⟨vs, h1, h2⟩ := q
      exact ⟨vs, k1.trans h1, h2.imp fun d v C hC hP => hP.keep s fun a ha => k a (List.mem_cons_of_mem _ (hC a ha))⟩
    | dic ks ds =>
      obtain ⟨e0, vs, l, f⟩ := q
      refine ⟨e0, vs, l.mono s, ?_⟩
      rcases f with ⟨kk, f1, f2, f3⟩ | ⟨kk, f1, f2, f3⟩
      · exact .inl ⟨kk, f1, f2, k1.trans f3⟩
      · exact .inr ⟨kk, f1, f2, k1.trans f3⟩
    | _ => exact q.elim
theorem SlotR.keep (s : Same F F') {x : Sl} {o : Option V} {A : List Addr} (h : SlotR rt F H x o A) (k : ∀ a ∈ A, H' a = H a ∧ F' a = none) : SlotR rt F' H' x o A := by
  cases x with
  | no => exact h
  | sh d => obtain ⟨e, v, e2, q⟩ := h; exact ⟨e, v, e2, q.mono s⟩
  | ow n d => obtain ⟨v, e, q⟩ := h; exact ⟨v, e, q.keep s k⟩
theorem EnvR.keep (s : Same F F') : ∀ {ss : List Sl} {σ : L2.St} {A : List Addr}, EnvR rt F H ss σ A → (∀ a ∈ A, H' a = H a ∧ F' a = none) → EnvR rt F' H' ss σ A
  | [], _, _, h, _ => h
  | x :: ss, _, _, h, k => by
    obtain ⟨o, r, A1, A2, e1, e2, h1, h2⟩ := h
    subst e1 e2
    exact ⟨o, r, A1, A2, rfl, rfl, h1.keep s fun a ha => k a (List.mem_append_left _ ha), h2.keep s fun a ha => k a (List.mem_append_right _ ha)⟩
/-- what is owned stands, and is not frozen -/
theorem Own.at : ∀ {n : Nat} {d : D} {v : V} {A : List Addr}, Own rt F H n d v A → ∀ a ∈ A, F a = none ∧ ∃ o, H a = some o
  | 0, _, _, _, h, a, ha => by rw [h.1] at ha; cases ha
  | n + 1, d, v, A, h, a, ha => by
    obtain ⟨p, B, e, f, eA, q⟩ := h
    subst eA
    have hl : ∀ {ds : List D} {vs : List V} {B : List Addr}, OwnL (Own rt F H n) ds vs B → ∀ a ∈ B, F a = none ∧ ∃ o, H a = some o := by
      intro ds
      induction ds with
      | nil => intro vs B h a ha; rw [h.2] at ha; cases ha
      | cons d ds ih =>
        intro vs B h a ha
        obtain ⟨v, r, A1, A2, e1, e2, h1, h2⟩ := h
        subst e2
        rcases List.mem_append.mp ha with z | z
        · exact Own.at h1 a z
        · exact ih h2 a z
    cases d with
    | lst ds =>
      obtain ⟨vs, h1, h2⟩ := q
      rcases List.mem_cons.mp ha with z | z
      · subst z; exact ⟨f, _, h1⟩
      · exact hl h2 a z
    | dic ks ds =>
      obtain ⟨e0, vs, l, g⟩ := q
      subst e0
      have e1 : a = p := by simpa using ha
      subst e1
      refine ⟨f, ?_⟩
      rcases g with ⟨kk, f1, f2, f3⟩ | ⟨kk, f1, f2, f3⟩
      · exact ⟨_, f3⟩
      · exact ⟨_, f3⟩
    | _ => exact q.elim
theorem SlotR.at {x : Sl} {o : Option V} {A : List Addr} (h : SlotR rt F H x o A) : ∀ a ∈ A, F a = none ∧ ∃ o, H a = some o := by
  cases x with
  | no => intro a ha; rw [show A = [] from h] at ha; cases ha
  | sh d => intro a ha; rw [h.1] at ha; cases ha
  | ow n d => obtain ⟨v, e, q⟩ := h; exact q.at
theorem EnvR.at : ∀ {ss : List Sl} {σ : L2.St} {A : List Addr}, EnvR rt F H ss σ A → ∀ a ∈ A, F a = none ∧ ∃ o, H a = some o
  | [], _, _, h, a, ha => by rw [h.2] at ha; cases ha
  | x :: ss, _, _, h, a, ha => by
    obtain ⟨o, r, A1, A2, e1, e2, h1, h2⟩ := h
    subst e1 e2
    rcases List.mem_append.mp ha with z | z
    · exact h1.at a z
    · exact h2.at a z
theorem EnvR.length : ∀ {ss : List Sl} {σ : L2.St} {A : List Addr}, EnvR rt F H ss σ A → σ.length = ss.length
  | [], _, _, h => by rw [h.1]; rfl
  | x :: ss, _, _, h => by
    obtain ⟨o, r, A1, A2, e1, e2, h1, h2⟩ := h
    subst e1
    simp only [List.length_cons, h2.length]
/-- one slot taken out -/
theorem EnvR.split : ∀ {ss : List Sl} {σ : L2.St} {A : List Addr} {i : Nat} {x : Sl}, EnvR rt F H ss σ A → ss[i]? = some x →
    ∃ o A0 A1 A2, σ[i]? = some o ∧ A = A0 ++ A1 ++ A2 ∧ SlotR rt F H x o A1 ∧
      ∀ {F' H' : Hp} {y : Sl} {o' : Option V} {B : List Addr}, Same F F' → (∀ a ∈ A0 ++ A2, H' a = H a ∧ F' a = none) → SlotR rt F' H' y o' B → EnvR rt F' H' (ss.set i y) (σ.set i o') (A0 ++ B ++ A2)
  | [], _, _, _, _, _, e => by simp at e
  | s :: ss, _, _, 0, x, h, e => by
    obtain ⟨o, r, A1, A2, e1, e2, h1, h2⟩ := h
    subst e1 e2
    simp at e; subst e
    refine ⟨o, [], A1, A2, rfl, rfl, h1, fun {F' H' y o' B} sm k hy => ?_⟩
    exact ⟨o', r, B, A2, rfl, rfl, hy, h2.keep sm fun a ha => k a (by simpa using ha)⟩
  | s :: ss, _, _, i + 1, x, h, e => by
    obtain ⟨o, r, A1, A2, e1, e2, h1, h2⟩ := h
    subst e1 e2
    obtain ⟨o2, B0, B1, B2, q1, q2, q3, q4⟩ := h2.split (i := i) (by simpa using e)
    subst q2
    refine ⟨o2, A1 ++ B0, B1, B2, by simpa using q1, by simp [List.append_assoc], q3, fun {F' H' y o' B} sm k hy => ?_⟩
    refine ⟨o, r.set i o', A1, B0 ++ B ++ B2, rfl, by simp [List.append_assoc], h1.keep sm fun a ha => k a (by simp [ha]), q4 sm (fun a ha => k a ?_) hy⟩
    rcases List.mem_append.mp ha with z | z
    · simp [z]
    · simp [z]
end

/-! ### the state relation -/
structure Rel (Z : TSys) (ad : Z.Ad) (env : List Sl) (T : Z.T) (F : Hp) (σ : L2.St) (H : Hp) (A : List Addr) : Prop where
  same : Same F H
  env : EnvR (Z.root ad) F H env σ A
  nd : A.Nodup
  tp : Z.At ad T H
  tf : ∀ a ∈ Z.addrs ad, F a = none ∧ a ∉ A
/-- what a piece of code may do: F grows by new objects and owned ones, A by new ones; nothing vanishes; all else stands -/
structure Stp (Z : TSys) (ad : Z.Ad) (A : List Addr) (F H : Hp) (A' : List Addr) (F' H' : Hp) : Prop where
  sF : Same F F'
  nF : ∀ a, F' a ≠ none → F a ≠ none ∨ a ∈ A ∨ H a = none
  nA : ∀ a ∈ A', a ∈ A ∨ H a = none
  fr : ∀ a o, H a = some o → a ∉ A → a ∉ Z.addrs ad → H' a = some o
  ex : ∀ a o, H a = some o → ∃ o', H' a = some o'
section
variable {Z : TSys} {ad : Z.Ad} {A A1 A2 : List Addr} {F H F1 H1 F2 H2 : Hp}
theorem Stp.refl : Stp Z ad A F H A F H := ⟨Same.refl _, fun _ h => .inl h, fun _ h => .inl h, fun _ _ h _ _ => h, fun _ o h => ⟨o, h⟩⟩
theorem Stp.none (a : Stp Z ad A F H A1 F1 H1) {p : Addr} (h : H1 p = none) : H p = none := by
  cases q : H p with
  | none => rfl
  | some o => obtain ⟨o', e⟩ := a.ex p o q; rw [h] at e; cases e
theorem Stp.trans (a : Stp Z ad A F H A1 F1 H1) (b : Stp Z ad A1 F1 H1 A2 F2 H2) : Stp Z ad A F H A2 F2 H2 := by
  refine ⟨a.sF.trans b.sF, fun x hx => ?_, fun x hx => ?_, fun x o e hA hx => ?_, fun x o e => ?_⟩
  · rcases b.nF x hx with q | q | q
    · exact a.nF x q
    · exact .inr (a.nA x q)
    · exact .inr (.inr (a.none q))
  · rcases b.nA x hx with q | q
    · exact a.nA x q
    · exact .inr (a.none q)
  · refine b.fr x o (a.fr x o e hA hx) (fun z => ?_) hx
    rcases a.nA x z with q | q
    · exact hA q
    · rw [e] at q; cases q
  · obtain ⟨o1, e1⟩ := a.ex x o e
    exact b.ex x o1 e1
end
end DL

/-! The data layer, 2: combinators and their judgements. -/
namespace DL
open PySem L2

/-! ### expressions -/
abbrev M (Z : TSys) := List Sl → Z.T → Option (D × List Sl × Z.T)
abbrev ML (Z : TSys) := List Sl → Z.T → Option (List D × List Sl × Z.T)
abbrev MB (Z : TSys) := List Sl → Z.T → Option (Bool × List Sl × Z.T)

def den (Z : TSys) (m : M Z) : TE := fun σ H Q => ∃ (ad : Z.Ad) (env : List Sl) (T : Z.T) (F : Hp) (A : List Addr) (r : D) (env' : List Sl) (T' : Z.T),
  Rel Z ad env T F σ H A ∧ m env T = some (r, env', T') ∧ ∀ v H' F' A', Rel Z ad env' T' F' σ H' A' → Stp Z ad A F H A' F' H' → Holds (Z.root ad) F' r v → Q v H'
def denB (Z : TSys) (m : MB Z) : TT := fun σ H Q => ∃ (ad : Z.Ad) (env : List Sl) (T : Z.T) (F : Hp) (A : List Addr) (r : Bool) (env' : List Sl) (T' : Z.T),
  Rel Z ad env T F σ H A ∧ m env T = some (r, env', T') ∧ ∀ H' F' A', Rel Z ad env' T' F' σ H' A' → Stp Z ad A F H A' F' H' → Q r H'
def denL (Z : TSys) (m : ML Z) : TA := fun σ H Q => ∃ (ad : Z.Ad) (env : List Sl) (T : Z.T) (F : Hp) (A : List Addr) (r : List D) (env' : List Sl) (T' : Z.T),
  Rel Z ad env T F σ H A ∧ m env T = some (r, env', T') ∧ ∀ v H' F' A', Rel Z ad env' T' F' σ H' A' → Stp Z ad A F H A' F' H' → HoldsL (Z.root ad) F' r v → Q v H'
/-- a value whose list the new address p alone bears (n: to which depth) -/
def denO (Z : TSys) (n : Nat) (m : M Z) : TE := fun σ H Q => ∃ (ad : Z.Ad) (env : List Sl) (T : Z.T) (F : Hp) (A : List Addr) (r : D) (env' : List Sl) (T' : Z.T),
  Rel Z ad env T F σ H A ∧ m env T = some (r, env', T') ∧ ∀ v H' F' A' B, Rel Z ad env' T' F' σ H' A' → Stp Z ad A F H A' F' H' → Own (Z.root ad) F' H' n r v B → B.Nodup → (∀ a ∈ B, a ∉ A' ∧ H a = none ∧ a ∉ Z.addrs ad) → Q v H'

structure IsE (Z : TSys) (X : Cx) (e : Expr) (m : M Z) : Prop where
  pe : PE X e (den Z m)
structure IsO (Z : TSys) (n : Nat) (X : Cx) (e : Expr) (m : M Z) : Prop where
  pe : PE X e (denO Z n m)
structure IsT (Z : TSys) (X : Cx) (e : Expr) (m : MB Z) : Prop where
  pt : PT X e (denB Z m)
structure IsL (Z : TSys) (X : Cx) (es : List Expr) (m : ML Z) : Prop where
  pa : PA X es (denL Z m)

section
variable {X : Cx} {e : Expr} {es : List Expr}
theorem PE.imp {t u : TE} (h : PE X e t) (f : ∀ σ H Q, u σ H Q → t σ H Q) : PE X e u := ⟨fun pins s σ H Q I q => h.run pins s σ H Q I (f _ _ _ q)⟩
theorem PT.imp {t u : TT} (h : PT X e t) (f : ∀ σ H Q, u σ H Q → t σ H Q) : PT X e u := ⟨fun pins s σ H Q I q => h.run pins s σ H Q I (f _ _ _ q)⟩
theorem PA.imp {t u : TA} (h : PA X es t) (f : ∀ σ H Q, u σ H Q → t σ H Q) : PA X es u := ⟨fun pos pins s σ H Q I q => h.run pos pins s σ H Q I (f _ _ _ q)⟩
theorem PW.imp {t u : TT} (h : PW X e t) (f : ∀ σ H Q, u σ H Q → t σ H Q) : PW X e u := ⟨fun w pins s σ H Q I q => h.run w pins s σ H Q I (f _ _ _ q)⟩
end

/-! ### what a pure operation may do -/
structure New (F H F' H' : Hp) : Prop where
  sF : Same F F'
  sH : Same H H'
  fh : Same F' H'
  nF : ∀ a, F' a ≠ none → F a ≠ none ∨ H a = none
theorem New.refl {F H : Hp} (s : Same F H) : New F H F H := ⟨Same.refl _, Same.refl _, s, fun _ h => .inl h⟩
theorem New.upd {F H : Hp} (s : Same F H) {p : Addr} (hp : H p = none) (o : HO) : New F H (upd F p o) (upd H p o) := by
  have fp : F p = none := s.free hp
  refine ⟨fun a x e => ?_, fun a x e => ?_, fun a x e => ?_, fun a e => ?_⟩
  · rw [upd_ne (ne_of_none e fp)]; exact e
  · rw [upd_ne (ne_of_none e hp)]; exact e
  · by_cases q : a = p
    · subst q; rw [upd_same] at e ⊢; exact e
    · rw [upd_ne q] at e ⊢; exact s _ _ e
  · by_cases q : a = p
    · subst q; exact .inr hp
    · rw [upd_ne q] at e; exact .inl e
section
variable {Z : TSys} {ad : Z.Ad} {env : List Sl} {T : Z.T} {F H F' H' : Hp} {σ : L2.St} {A : List Addr}
theorem Rel.at (R : Rel Z ad env T F σ H A) : ∀ a ∈ A, F a = none ∧ ∃ o, H a = some o := R.env.at
theorem Rel.new (R : Rel Z ad env T F σ H A) (n : New F H F' H') : Rel Z ad env T F' σ H' A ∧ Stp Z ad A F H A F' H' := by
  have keep : ∀ a, F a = none → (∃ o, H a = some o) → H' a = H a ∧ F' a = none := fun a fa ⟨o, ho⟩ => by
    refine ⟨(n.sH _ _ ho).trans ho.symm, ?_⟩
    cases q : F' a with
    | none => rfl
    | some x =>
      rcases n.nF a (by rw [q]; exact fun z => by cases z) with z | z
      · exact absurd fa z
      · rw [ho] at z; cases z
  refine ⟨⟨n.fh, R.env.keep n.sF fun a ha => ?_, R.nd, Z.loc R.tp fun b hb => ?_, fun b hb => ?_⟩, n.sF, fun a h => ?_, fun a h => .inl h, fun a o h _ _ => n.sH _ _ h, fun a o h => ⟨o, n.sH _ _ h⟩⟩
  · obtain ⟨f, o⟩ := R.at a ha; exact keep a f o
  · exact (keep b (R.tf b hb).1 (Z.has R.tp hb)).1
  · exact ⟨(keep b (R.tf b hb).1 (Z.has R.tp hb)).2, (R.tf b hb).2⟩
  · rcases n.nF a h with z | z
    · exact .inl z
    · exact .inr (.inr z)
theorem Rel.upd (R : Rel Z ad env T F σ H A) {p : Addr} (hp : H p = none) (o : HO) : Rel Z ad env T (upd F p o) σ (upd H p o) A ∧ Stp Z ad A F H A (L2.upd F p o) (L2.upd H p o) := R.new (New.upd R.same hp o)
/-- a new object that is not frozen -/
theorem Rel.own (R : Rel Z ad env T F σ H A) {p : Addr} (hp : H p = none) (o : HO) : Rel Z ad env T F σ (L2.upd H p o) A ∧ Stp Z ad A F H A F (L2.upd H p o) := by
  have sm : Same H (L2.upd H p o) := fun a x e => by rw [upd_ne (ne_of_none e hp)]; exact e
  exact R.new ⟨Same.refl _, sm, R.same.trans sm, fun a h => .inl h⟩
theorem Rel.notin (R : Rel Z ad env T F σ H A) {p : Addr} (hp : H p = none) : p ∉ A ∧ p ∉ Z.addrs ad := by
  refine ⟨fun z => ?_, fun z => ?_⟩
  · obtain ⟨_, o, e⟩ := R.at p z; rw [hp] at e; cases e
  · obtain ⟨o, e⟩ := Z.has R.tp z; rw [hp] at e; cases e
theorem Rel.st (R : Rel Z ad env T F σ H A) {A0 : List Addr} {F0 H0 : Hp} (a : Stp Z ad A0 F0 H0 A F H) {A1 : List Addr} {F1 H1 : Hp} {env1 : List Sl} {T1 : Z.T} {σ1 : L2.St} (b : Stp Z ad A F H A1 F1 H1) (R1 : Rel Z ad env1 T1 F1 σ1 H1 A1) : Stp Z ad A0 F0 H0 A1 F1 H1 :=
  a.trans b
end

/-! ### borrowed values: the outer object may be one that a slot owns -/
def HB (rt : V) (F H : Hp) : D → V → Prop
  | .lst ds, v => ∃ a vs, v = .ref a ∧ H a = some (.lst vs) ∧ HoldsL rt F ds vs
  | .dic ks ds, v => ∃ a vs, v = .ref a ∧ HoldsL rt F ds vs ∧ ((∃ kk, keysD ks = some kk ∧ kk.length = vs.length ∧ H a = some (.dK (kk.zip vs))) ∨ (∃ kk, keysTD ks = some kk ∧ kk.length = vs.length ∧ H a = some (.dT (kk.zip vs))))
  | d, v => Holds rt F d v
def HBL (rt : V) (F H : Hp) : List D → List V → Prop
  | [], vs => vs = []
  | d :: ds, vs => ∃ v r, vs = v :: r ∧ HB rt F H d v ∧ HBL rt F H ds r
section
variable {rt : V} {F H F' H' : Hp}
theorem HB.of (s : Same F H) : ∀ {d : D} {v : V}, Holds rt F d v → HB rt F H d v
  | .non, _, h => h
  | .bl _, _, h => h
  | .int _, _, h => h
  | .str _, _, h => h
  | .tup _, _, h => h
  | .tape, _, h => h
  | .set _, _, h => h
  | .lst ds, _, h => by
    simp only [Holds] at h
    obtain ⟨a, vs, e, f, l⟩ := h
    exact ⟨a, vs, e, s _ _ f, l⟩
  | .dic ks ds, _, h => by
    simp only [Holds] at h
    obtain ⟨a, vs, e, l, f⟩ := h
    refine ⟨a, vs, e, l, ?_⟩
    rcases f with ⟨kk, f1, f2, f3⟩ | ⟨kk, f1, f2, f3⟩
    · exact .inl ⟨kk, f1, f2, s _ _ f3⟩
    · exact .inr ⟨kk, f1, f2, s _ _ f3⟩
theorem HBL.of (s : Same F H) : ∀ {ds : List D} {vs : List V}, HoldsL rt F ds vs → HBL rt F H ds vs
  | [], _, h => by simp only [HoldsL] at h; exact h
  | d :: ds, _, h => by
    simp only [HoldsL] at h
    obtain ⟨v, r, e, h1, h2⟩ := h
    exact ⟨v, r, e, HB.of s h1, HBL.of s h2⟩
theorem OwnL.zero : ∀ {ds : List D} {vs : List V} {A : List Addr}, OwnL (Own rt F H 0) ds vs A → HoldsL rt F ds vs ∧ A = []
  | [], _, _, h => by obtain ⟨e1, e2⟩ := h; subst e1 e2; exact ⟨.nil, rfl⟩
  | d :: ds, _, _, h => by
    obtain ⟨v, r, A1, A2, e1, e2, h1, h2⟩ := h
    obtain ⟨q1, q2⟩ := OwnL.zero h2
    obtain ⟨q3, q4⟩ := h1
    subst e1 e2 q2 q3
    exact ⟨.cons q4 q1, rfl⟩
theorem OwnL.ofHolds : ∀ {ds : List D} {vs : List V}, HoldsL rt F ds vs → OwnL (Own rt F H 0) ds vs []
  | [], _, h => ⟨by simpa only [HoldsL] using h, rfl⟩
  | d :: ds, _, h => by
    simp only [HoldsL] at h
    obtain ⟨v, r, e, h1, h2⟩ := h
    exact ⟨v, r, [], [], e, rfl, ⟨rfl, h1⟩, OwnL.ofHolds h2⟩
theorem HB.own1 {d : D} {v : V} {A : List Addr} (h : Own rt F H 1 d v A) : HB rt F H d v := by
  obtain ⟨p, B, e, f, eA, q⟩ := h
  cases d with
  | lst ds =>
    obtain ⟨vs, h1, h2⟩ := q
    exact ⟨p, vs, e, h1, (OwnL.zero h2).1⟩
  | dic ks ds =>
    obtain ⟨e0, vs, l, g⟩ := q
    exact ⟨p, vs, e, l, g⟩
  | _ => exact q.elim
theorem HB.own0 (s : Same F H) {d : D} {v : V} {A : List Addr} (h : Own rt F H 0 d v A) : HB rt F H d v := HB.of s h.2
/-- a tree that is read in H -/
theorem HB.inH (s : Same F H) : ∀ {d : D} {v : V}, HB rt F H d v → Holds rt H d v
  | .non, _, h => Holds.mono s h
  | .bl _, _, h => Holds.mono s h
  | .int _, _, h => Holds.mono s h
  | .str _, _, h => Holds.mono s h
  | .tup _, _, h => Holds.mono s h
  | .tape, _, h => Holds.mono s h
  | .set _, _, h => Holds.mono s h
  | .lst ds, _, h => by
    obtain ⟨a, vs, e, f, l⟩ := h
    simp only [Holds]
    exact ⟨a, vs, e, f, l.mono s⟩
  | .dic ks ds, _, h => by
    obtain ⟨a, vs, e, l, f⟩ := h
    simp only [Holds]
    exact ⟨a, vs, e, l.mono s, f⟩
theorem HB.new {d : D} {v : V} (n : New F H F' H') (h : HB rt F H d v) : HB rt F' H' d v := by
  cases d with
  | lst ds =>
    obtain ⟨a, vs, e, f, l⟩ := h
    exact ⟨a, vs, e, n.sH _ _ f, l.mono n.sF⟩
  | dic ks ds =>
    obtain ⟨a, vs, e, l, f⟩ := h
    refine ⟨a, vs, e, l.mono n.sF, ?_⟩
    rcases f with ⟨kk, f1, f2, f3⟩ | ⟨kk, f1, f2, f3⟩
    · exact .inl ⟨kk, f1, f2, n.sH _ _ f3⟩
    · exact .inr ⟨kk, f1, f2, n.sH _ _ f3⟩
  | _ => exact Holds.mono n.sF h
end

/-! ### operands: a slot is looked at when the operation is done -/
inductive Arg (Z : TSys) where
  | v (i : Nat)
  | e (m : M Z)
def look (env : List Sl) (i : Nat) : Option D := match env[i]? with
  | some (.sh d) => some d
  | some (.ow 1 d) => some d
  | _ => none
def evA {Z : TSys} : Arg Z → List Sl → Z.T → Option (Option D × List Sl × Z.T)
  | .v _, e, t => some (none, e, t)
  | .e m, e, t => match m e t with
    | some (d, e', t') => some (some d, e', t')
    | none => none
/-- what stands at an operand behind all evaluations -/
def getA {Z : TSys} (a : Arg Z) (o : Option D) (env : List Sl) : Option D := match a with
  | .v i => look env i
  | .e _ => o
inductive IsA (Z : TSys) (X : Cx) : Expr → Arg Z → Prop
  | v {i : Nat} {x : Str} {pos : Pos} : PE X (.Name x pos) (tVar i) → IsA Z X (.Name x pos) (.v i)
  | e {ex : Expr} {m : M Z} : IsE Z X ex m → IsA Z X ex (.e m)
section
variable {Z : TSys} {ad : Z.Ad} {env : List Sl} {T : Z.T} {F H : Hp} {σ : L2.St} {A : List Addr}
/-- a slot looked at -/
theorem Rel.look (R : Rel Z ad env T F σ H A) {i : Nat} {d : D} (h : look env i = some d) : ∃ v, σ[i]? = some (some v) ∧ HB (Z.root ad) F H d v := by
  unfold DL.look at h
  cases q : env[i]? with
  | none => rw [q] at h; cases h
  | some x =>
    rw [q] at h
    obtain ⟨o, A0, A1, A2, e1, _, e3, _⟩ := R.env.split q
    cases x with
    | no => cases h
    | sh d' =>
      simp at h; subst h
      obtain ⟨_, v, e, hv⟩ := e3
      exact ⟨v, by rw [e1, e], HB.of R.same hv⟩
    | ow n d' =>
      match n, h with
      | 1, h =>
        simp at h; subst h
        obtain ⟨v, e, hv⟩ := e3
        exact ⟨v, by rw [e1, e], HB.own1 hv⟩
/-- an operand's value, known behind -/
def ArgV (Z : TSys) (ad : Z.Ad) (a : Arg Z) (o : Option D) (F : Hp) (σ : L2.St) (v : V) : Prop := match a with
  | .v i => σ[i]? = some (some v)
  | .e _ => ∃ d, o = some d ∧ Holds (Z.root ad) F d v
theorem ArgV.get {a : Arg Z} {o : Option D} {v : V} {d : D} (R : Rel Z ad env T F σ H A) (h : ArgV Z ad a o F σ v) (g : getA a o env = some d) : HB (Z.root ad) F H d v := by
  cases a with
  | v i =>
    obtain ⟨w, e, q⟩ := R.look (i := i) g
    have h' : σ[i]? = some (some v) := h
    rw [h'] at e; cases e; exact q
  | e m =>
    obtain ⟨d', e, q⟩ := h
    have g' : o = some d := g
    rw [g'] at e; cases e
    exact HB.of R.same q
theorem ArgV.mono {a : Arg Z} {o : Option D} {v : V} {F' : Hp} (s : Same F F') (h : ArgV Z ad a o F σ v) : ArgV Z ad a o F' σ v := by
  cases a with
  | v i => exact h
  | e m => obtain ⟨d, e, q⟩ := h; exact ⟨d, e, q.mono s⟩
end
def denA (Z : TSys) (a : Arg Z) : TE := fun σ H Q => ∃ (ad : Z.Ad) (env : List Sl) (T : Z.T) (F : Hp) (A : List Addr) (o : Option D) (env' : List Sl) (T' : Z.T),
  Rel Z ad env T F σ H A ∧ evA a env T = some (o, env', T') ∧ (∀ i, a = .v i → ∃ v, σ[i]? = some (some v)) ∧ ∀ v H' F' A', Rel Z ad env' T' F' σ H' A' → Stp Z ad A F H A' F' H' → ArgV Z ad a o F' σ v → Q v H'
theorem IsA.pe {Z : TSys} {X : Cx} {e : Expr} {a : Arg Z} (h : IsA Z X e a) : PE X e (denA Z a) := by
  cases h with
  | v h =>
    refine PE.imp h fun σ H Q ⟨ad, env, T, F, A, o, env', T', R, ev, hs, k⟩ => ?_
    obtain ⟨v, e⟩ := hs _ rfl
    simp only [evA, Option.some.injEq, Prod.mk.injEq] at ev
    obtain ⟨_, rfl, rfl⟩ := ev
    exact ⟨v, e, k v H F A R Stp.refl e⟩
  | @e _ m h =>
    refine PE.imp h.pe fun σ H Q ⟨ad, env, T, F, A, o, env', T', R, ev, hs, k⟩ => ?_
    simp only [evA] at ev
    cases q : m env T with
    | none => rw [q] at ev; cases ev
    | some x =>
      obtain ⟨d, e1, t1⟩ := x
      rw [q] at ev
      simp only [Option.some.injEq, Prod.mk.injEq] at ev
      obtain ⟨rfl, rfl, rfl⟩ := ev
      exact ⟨ad, env, T, F, A, d, e1, t1, R, q, fun v H' F' A' R' S' hv => k v H' F' A' R' S' ⟨d, rfl, hv⟩⟩
/-- a slot that is looked at later stands now -/
def slotOk {Z : TSys} (a : Arg Z) (env : List Sl) : Bool := match a with
  | .v i => match env[i]? with
    | some (.sh _) => true
    | some (.ow _ _) => true
    | _ => false
  | .e _ => true
theorem slotOk.has {Z : TSys} {ad : Z.Ad} {env : List Sl} {T : Z.T} {F H : Hp} {σ : L2.St} {A : List Addr} {a : Arg Z} (R : Rel Z ad env T F σ H A) (h : slotOk a env = true) : ∀ i, a = .v i → ∃ v, σ[i]? = some (some v) := by
  rintro i rfl
  dsimp only [slotOk] at h
  cases q : env[i]? with
  | none => rw [q] at h; cases h
  | some x =>
    rw [q] at h
    obtain ⟨o, A0, A1, A2, e1, _, e3, _⟩ := R.env.split q
    cases x with
    | no => cases h
    | sh d' => obtain ⟨_, v, e, hv⟩ := e3; exact ⟨v, by rw [e1, e]⟩
    | ow n d' => obtain ⟨v, e, hv⟩ := e3; exact ⟨v, by rw [e1, e]⟩

/-! ### one operand, two operands -/
def ev1 {Z : TSys} (a : Arg Z) (env : List Sl) (T : Z.T) : Option (D × List Sl × Z.T) :=
  if slotOk a env then match evA a env T with
    | some (o, e1, t1) => match getA a o e1 with
      | some d => some (d, e1, t1)
      | none => none
    | none => none
  else none
def ev2 {Z : TSys} (a b : Arg Z) (env : List Sl) (T : Z.T) : Option (D × D × List Sl × Z.T) :=
  if slotOk a env then match evA a env T with
    | some (o, e1, t1) => if slotOk b e1 then match evA b e1 t1 with
      | some (o2, e2, t2) => match getA a o e2, getA b o2 e2 with
        | some d, some d2 => some (d, d2, e2, t2)
        | _, _ => none
      | none => none
      else none
    | none => none
  else none
section
variable {Z : TSys} {X : Cx}
theorem ev1_run {a : Arg Z} {env : List Sl} {T : Z.T} {d : D} {env' : List Sl} {T' : Z.T} (h : ev1 a env T = some (d, env', T')) {ad : Z.Ad} {F H : Hp} {σ : L2.St} {A : List Addr} (R : Rel Z ad env T F σ H A) {Q : VK}
    (k : ∀ v H' F' A', Rel Z ad env' T' F' σ H' A' → Stp Z ad A F H A' F' H' → HB (Z.root ad) F' H' d v → Q v H') : denA Z a σ H Q := by
  unfold ev1 at h
  by_cases hs : slotOk a env = true
  · rw [if_pos hs] at h
    cases q : evA a env T with
    | none => rw [q] at h; cases h
    | some x =>
      obtain ⟨o, e1, t1⟩ := x
      rw [q] at h
      simp only at h
      cases g : getA a o e1 with
      | none => rw [g] at h; cases h
      | some d' =>
        rw [g] at h
        simp only [Option.some.injEq, Prod.mk.injEq] at h
        obtain ⟨rfl, rfl, rfl⟩ := h
        exact ⟨ad, env, T, F, A, o, e1, t1, R, q, slotOk.has R hs, fun v H' F' A' R' S' hv => k v H' F' A' R' S' (hv.get R' g)⟩
  · rw [if_neg hs] at h; cases h
theorem ev2_run {a b : Arg Z} {env : List Sl} {T : Z.T} {d d2 : D} {env' : List Sl} {T' : Z.T} (h : ev2 a b env T = some (d, d2, env', T')) {ad : Z.Ad} {F H : Hp} {σ : L2.St} {A : List Addr} (R : Rel Z ad env T F σ H A) {Q : V → V → Hp → Prop}
    (k : ∀ v u H' F' A', Rel Z ad env' T' F' σ H' A' → Stp Z ad A F H A' F' H' → HB (Z.root ad) F' H' d v → HB (Z.root ad) F' H' d2 u → Q v u H') : denA Z a σ H fun x H1 => denA Z b σ H1 fun y H2 => Q x y H2 := by
  unfold ev2 at h
  by_cases hs : slotOk a env = true
  · rw [if_pos hs] at h
    cases q : evA a env T with
    | none => rw [q] at h; cases h
    | some x =>
      obtain ⟨o, e1, t1⟩ := x
      rw [q] at h
      simp only at h
      by_cases hs2 : slotOk b e1 = true
      · rw [if_pos hs2] at h
        cases q2 : evA b e1 t1 with
        | none => rw [q2] at h; cases h
        | some x2 =>
          obtain ⟨o2, e2, t2⟩ := x2
          rw [q2] at h
          simp only at h
          cases g : getA a o e2 with
          | none => rw [g] at h; cases h
          | some d' =>
            cases g2 : getA b o2 e2 with
            | none => rw [g, g2] at h; cases h
            | some d2' =>
              rw [g, g2] at h
              simp only [Option.some.injEq, Prod.mk.injEq] at h
              obtain ⟨rfl, rfl, rfl, rfl⟩ := h
              refine ⟨ad, env, T, F, A, o, e1, t1, R, q, slotOk.has R hs, fun v H' F' A' R' S' hv => ?_⟩
              exact ⟨ad, e1, t1, F', A', o2, e2, t2, R', q2, slotOk.has R' hs2, fun u H2 F2 A2 R2 S2 hu => k v u H2 F2 A2 R2 (R'.st S' S2 R2) ((hv.mono S2.sF).get R2 g) (hu.get R2 g2)⟩
      · rw [if_neg hs2] at h; cases h
  · rw [if_neg hs] at h; cases h
end

/-! ### pure rules of operators -/
def OpD (r : R2) (g : D → D → Option D) : Prop := ∀ (rt : V) (F H : Hp) (dx dy d : D) (x y : V) (Q : VK), Same F H → HB rt F H dx x → HB rt F H dy y → g dx dy = some d →
  (∀ v F' H', New F H F' H' → Holds rt F' d v → Q v H') → r x y H Q
/-- .. that give a new list -/
def OpN (r : R2) (g : D → D → Option (List D)) : Prop := ∀ (rt : V) (F H : Hp) (dx dy : D) (ds : List D) (x y : V) (Q : VK), Same F H → HB rt F H dx x → HB rt F H dy y → g dx dy = some ds →
  (∀ p vs, H p = none → HoldsL rt F ds vs → Q (.ref p) (upd H p (.lst vs))) → r x y H Q
def CallD (r : List V → Hp → VK → Prop) (g : List D → Option D) : Prop := ∀ (rt : V) (F H : Hp) (ds : List D) (d : D) (vs : List V) (Q : VK), Same F H → HBL rt F H ds vs → g ds = some d →
  (∀ v F' H', New F H F' H' → Holds rt F' d v → Q v H') → r vs H Q
def CallN (r : List V → Hp → VK → Prop) (g : List D → Option (List D)) : Prop := ∀ (rt : V) (F H : Hp) (ds : List D) (d : List D) (vs : List V) (Q : VK), Same F H → HBL rt F H ds vs → g ds = some d →
  (∀ p us, H p = none → HoldsL rt F d us → Q (.ref p) (upd H p (.lst us))) → r vs H Q
theorem OpN.toD {r : R2} {g : D → D → Option (List D)} (h : OpN r g) : OpD r fun x y => (g x y).map .lst := by
  intro rt F H dx dy d x y Q s hx hy e k
  dsimp only at e
  cases q : g dx dy with
  | none => rw [q] at e; cases e
  | some ds =>
    rw [q] at e
    simp only [Option.map_some, Option.some.injEq] at e
    subst e
    refine h rt F H dx dy ds x y Q s hx hy q fun p vs hp hl => ?_
    exact k _ _ _ (New.upd s hp _) (by
      simp only [Holds]
      exact ⟨p, vs, rfl, upd_same, hl.mono (New.upd s hp _).sF⟩)
theorem CallN.toD {r : List V → Hp → VK → Prop} {g : List D → Option (List D)} (h : CallN r g) : CallD r fun x => (g x).map .lst := by
  intro rt F H ds d vs Q s hx e k
  dsimp only at e
  cases q : g ds with
  | none => rw [q] at e; cases e
  | some us =>
    rw [q] at e
    simp only [Option.map_some, Option.some.injEq] at e
    subst e
    refine h rt F H ds us vs Q s hx q fun p vs hp hl => ?_
    exact k _ _ _ (New.upd s hp _) (by
      simp only [Holds]
      exact ⟨p, vs, rfl, upd_same, hl.mono (New.upd s hp _).sF⟩)
theorem OpD.or {r r' : R2} {g g' : D → D → Option D} (h : OpD r g) (h' : OpD r' g') : OpD (fun x y H Q => r x y H Q ∨ r' x y H Q) fun x y => match g x y with
    | some d => some d
    | none => g' x y := by
  intro rt F H dx dy d x y Q s hx hy e k
  dsimp only at e
  cases q : g dx dy with
  | some d' => rw [q] at e; cases e; exact .inl (h rt F H dx dy d x y Q s hx hy q k)
  | none => rw [q] at e; exact .inr (h' rt F H dx dy d x y Q s hx hy e k)

def mop {Z : TSys} (g : D → D → Option D) (a b : Arg Z) : M Z := fun e t => match ev2 a b e t with
  | some (x, y, e', t') => match g x y with
    | some d => some (d, e', t')
    | none => none
  | none => none
section
variable {Z : TSys} {X : Cx} {a b : Expr} {A B : Arg Z} {pos : Pos} {r : R2} {g : D → D → Option D}
theorem mop_inv {e : List Sl} {t : Z.T} {d : D} {e' : List Sl} {t' : Z.T} (h : mop g A B e t = some (d, e', t')) : ∃ x y, ev2 A B e t = some (x, y, e', t') ∧ g x y = some d := by
  unfold mop at h
  cases q : ev2 A B e t with
  | none => rw [q] at h; cases h
  | some z =>
    obtain ⟨x, y, e1, t1⟩ := z
    rw [q] at h
    simp only at h
    cases q2 : g x y with
    | none => rw [q2] at h; cases h
    | some d' =>
      rw [q2] at h
      simp only [Option.some.injEq, Prod.mk.injEq] at h
      obtain ⟨rfl, rfl, rfl⟩ := h
      exact ⟨x, y, rfl, q2⟩
theorem op_core (hd : OpD r g) {σ : L2.St} {H : Hp} {Q : VK} (h : den Z (mop g A B) σ H Q) : tOp r (denA Z A) (denA Z B) σ H Q := by
  obtain ⟨ad, env, T, F, A0, d, env', T', R, e, k⟩ := h
  obtain ⟨x, y, e1, e2⟩ := mop_inv e
  refine ev2_run (Q := fun x y H2 => r x y H2 Q) e1 R fun v u H' F' A' R' S' hv hu => ?_
  refine hd _ F' H' x y d v u Q R'.same hv hu e2 fun w F2 H2 n hw => ?_
  obtain ⟨R2, S2⟩ := R'.new n
  exact k w H2 F2 A' R2 (R'.st S' S2 R2) hw
theorem ie_op {op : Operator} (ho : OpR X (binaryOp op) r) (hd : OpD r g) (ha : IsA Z X a A) (hb : IsA Z X b B) : IsE Z X (.BinOp a op b pos) (mop g A B) :=
  ⟨PE.imp (pe_op ho ha.pe hb.pe) fun _ _ _ h => op_core hd h⟩
theorem ie_cmp {op : CmpOp} (ho : OpR X (compareOp op) r) (hd : OpD r g) (ha : IsA Z X a A) (hb : IsA Z X b B) (hm : behindInMarks op b = false) : IsE Z X (.Compare a [op] [b] pos) (mop g A B) :=
  ⟨PE.imp (pe_cmpR ho ha.pe hb.pe hm) fun _ _ _ h => op_core hd h⟩
end
/-- a value as a test -/
def asB {Z : TSys} (m : M Z) : MB Z := fun e t => match m e t with
  | some (.bl b, e', t') => some (b, e', t')
  | _ => none
theorem asB_inv {Z : TSys} {m : M Z} {e : List Sl} {t : Z.T} {b : Bool} {e' : List Sl} {t' : Z.T} (h : asB m e t = some (b, e', t')) : m e t = some (.bl b, e', t') := by
  unfold asB at h
  split at h
  · rename_i q
    simp only [Option.some.injEq, Prod.mk.injEq] at h
    obtain ⟨rfl, rfl, rfl⟩ := h
    exact q
  · cases h
section
variable {Z : TSys} {X : Cx} {a b : Expr} {A B : Arg Z} {pos : Pos} {r : R2} {g : D → D → Option D}
theorem asB_core {t : TE} {m : M Z} (h : ∀ σ H Q, den Z m σ H Q → t σ H Q) {σ : L2.St} {H : Hp} {Q : Bool → Hp → Prop} (q : denB Z (asB m) σ H Q) : t σ H fun x H1 => ∃ c, x = .bl c ∧ Q c H1 := by
  obtain ⟨ad, env, T, F, A0, d, env', T', R, e, k⟩ := q
  refine h _ _ _ ⟨ad, env, T, F, A0, .bl d, env', T', R, asB_inv e, fun v H' F' A' R' S' hv => ?_⟩
  exact ⟨d, by simpa only [Holds] using hv, k H' F' A' R' S'⟩
theorem it_cmp {op : CmpOp} (ho : OpR X (compareOp op) r) (hd : OpD r g) (ha : IsA Z X a A) (hb : IsA Z X b B) (hm : behindInMarks op b = false) : IsT Z X (.Compare a [op] [b] pos) (asB (mop g A B)) :=
  ⟨PT.imp (pt_cmpR ho ha.pe hb.pe hm) fun _ _ _ h => asB_core (t := tOp r (denA Z A) (denA Z B)) (m := mop g A B) (fun _ _ _ h' => op_core hd h') h⟩
theorem it_val {e : Expr} {m : M Z} (h : IsE Z X e m) (he : ∀ whole, isTrue e X.env whole = (do let v ← whole; standAt e.pos; holding [v] (truthy v)) := by intro _; rfl) : IsT Z X e (asB m) :=
  ⟨PT.imp (pt_val h.pe he) fun _ _ _ q => asB_core (t := den Z m) (m := m) (fun _ _ _ h' => h') q⟩
end
end DL

/-! The data layer, 3: expressions. -/
namespace DL
open PySem L2

/-! ### constants -/
def mcst {Z : TSys} (d : D) : M Z := fun e t => some (d, e, t)
section
variable {Z : TSys} {X : Cx} {pos : Pos}
theorem ie_cst {e : Expr} {v : V} {d : D} (h : PE X e (tC v)) (hv : ∀ rt F, Holds rt F d v) : IsE Z X e (mcst d) := ⟨PE.imp h fun σ H Q ⟨ad, env, T, F, A, r, env', T', R, e, k⟩ => by
  simp only [mcst, Option.some.injEq, Prod.mk.injEq] at e
  obtain ⟨rfl, rfl, rfl⟩ := e
  exact k v H F A R Stp.refl (hv _ _)⟩
theorem ie_int {i j} : IsE Z X (.Constant (.int i) j pos) (mcst (.int i)) := ie_cst pe_int fun _ _ => by simp only [Holds]
theorem ie_bl {b j} : IsE Z X (.Constant (.bool b) j pos) (mcst (.bl b)) := ie_cst pe_bl fun _ _ => by simp only [Holds]
theorem ie_non {j} : IsE Z X (.Constant .none j pos) (mcst .non) := ie_cst pe_non fun _ _ => by simp only [Holds]
theorem ie_str {x j} : IsE Z X (.Constant (.str x) j pos) (mcst (.str x)) := ie_cst pe_str fun _ _ => by simp only [Holds]
theorem ie_gint {x : Str} {i : Int} {t : Tok} (hg : Gl X x) (hm : X.mg x = some (.int i t)) (hd : (x == ("__debug__" : Str)) = false := by decide) : IsE Z X (.Name x pos) (mcst (.int i)) := ie_cst (v := .int i) (pe_glob hg hm (show RelV (.int i) _ from ⟨t, rfl⟩) hd) fun _ _ => by simp only [Holds]
end

/-! ### a slot as a value: what it owns is frozen -/
def mvar {Z : TSys} (i : Nat) : M Z := fun e t => match e[i]? with
  | some (.sh d) => some (d, e, t)
  | some (.ow _ d) => some (d, e.set i (.sh d), t)
  | _ => none
section
variable {rt : V} {F H F' : Hp}
theorem Own.frz (s : Same F F') : ∀ {n : Nat} {d : D} {v : V} {A : List Addr}, Own rt F H n d v A → (∀ a ∈ A, F' a = H a) → Holds rt F' d v
  | 0, _, _, _, h, _ => h.2.mono s
  | n + 1, d, v, A, h, k => by
    obtain ⟨p, B, e, f, eA, q⟩ := h
    subst eA
    have kp := k p List.mem_cons_self
    have hl : ∀ {ds : List D} {vs : List V} {B : List Addr}, OwnL (Own rt F H n) ds vs B → (∀ a ∈ B, F' a = H a) → HoldsL rt F' ds vs := by
      intro ds
      induction ds with
      | nil => intro vs B h _; rw [h.1]; exact .nil
      | cons d ds ih =>
        intro vs B h kb
        obtain ⟨v, r, A1, A2, e1, e2, h1, h2⟩ := h
        subst e1 e2
        exact .cons (Own.frz s h1 fun a ha => kb a (List.mem_append_left _ ha)) (ih h2 fun a ha => kb a (List.mem_append_right _ ha))
    cases d with
    | lst ds =>
      obtain ⟨vs, h1, h2⟩ := q
      simp only [Holds]
      exact ⟨p, vs, e, kp.trans h1, hl h2 fun a ha => k a (List.mem_cons_of_mem _ ha)⟩
    | dic ks ds =>
      obtain ⟨e0, vs, l, g⟩ := q
      simp only [Holds]
      refine ⟨p, vs, e, l.mono s, ?_⟩
      rcases g with ⟨kk, f1, f2, f3⟩ | ⟨kk, f1, f2, f3⟩
      · exact .inl ⟨kk, f1, f2, kp.trans f3⟩
      · exact .inr ⟨kk, f1, f2, kp.trans f3⟩
    | _ => exact q.elim
end
/-- the frozen heap with what is owned at A -/
def frzH (A : List Addr) (F H : Hp) : Hp := fun a => if a ∈ A then H a else F a
section
variable {Z : TSys} {ad : Z.Ad} {env : List Sl} {T : Z.T} {F H : Hp} {σ : L2.St} {A : List Addr}
theorem set_self {α : Type} : ∀ {l : List α} {i : Nat} {x : α}, l[i]? = some x → l.set i x = l
  | _ :: _, 0, _, h => by simp at h; subst h; rfl
  | _ :: _, i + 1, _, h => by simp only [List.set_cons_succ]; rw [set_self (by simpa using h)]
  | [], _, _, h => by simp at h
theorem Rel.freeze (R : Rel Z ad env T F σ H A) {i n : Nat} {d : D} (hi : env[i]? = some (.ow n d)) :
    ∃ v F' A', σ[i]? = some (some v) ∧ Rel Z ad (env.set i (.sh d)) T F' σ H A' ∧ Stp Z ad A F H A' F' H ∧ Holds (Z.root ad) F' d v := by
  obtain ⟨o, A0, A1, A2, e1, eA, ⟨v, eo, hv⟩, re⟩ := R.env.split hi
  subst eA eo
  have at1 := hv.at
  have nd := R.nd
  have sF : Same F (frzH A1 F H) := fun a x e => by
    unfold frzH
    by_cases q : a ∈ A1
    · rw [(at1 a q).1] at e; cases e
    · rw [if_neg q]; exact e
  have fH : Same (frzH A1 F H) H := fun a x e => by
    unfold frzH at e
    by_cases q : a ∈ A1
    · rw [if_pos q] at e; exact e
    · rw [if_neg q] at e; exact R.same _ _ e
  have dis : ∀ a ∈ A0 ++ A2, a ∉ A1 := fun a ha hb => by
    rw [List.nodup_append, List.nodup_append] at nd
    rcases List.mem_append.mp ha with z | z
    · exact nd.1.2.2 a z a hb rfl
    · exact nd.2.2 a (List.mem_append_right _ hb) a z rfl
  have hold := hv.frz (F' := frzH A1 F H) sF fun a ha => by unfold frzH; rw [if_pos ha]
  refine ⟨v, frzH A1 F H, A0 ++ [] ++ A2, e1, ⟨fH, ?_, ?_, R.tp, fun b hb => ?_⟩, ⟨sF, fun a h => ?_, fun a h => .inl ?_, fun a o h _ _ => h, fun a o h => ⟨o, h⟩⟩, hold⟩
  · have := re (F' := frzH A1 F H) (H' := H) (y := .sh d) (o' := some v) (B := []) sF (fun a ha => ⟨rfl, ?_⟩) ⟨rfl, v, rfl, hold⟩
    · rw [set_self e1] at this; exact this
    · unfold frzH
      rw [if_neg (dis a ha)]
      refine (R.at a ?_).1
      rcases List.mem_append.mp ha with z | z
      · simp [z]
      · simp [z]
  · rw [List.append_nil]
    rw [List.nodup_append, List.nodup_append] at nd
    rw [List.nodup_append]
    exact ⟨nd.1.1, nd.2.1, fun a h1 b h2 => nd.2.2 a (List.mem_append_left _ h1) b h2⟩
  · obtain ⟨t1, t2⟩ := R.tf b hb
    refine ⟨?_, fun z => t2 ?_⟩
    · unfold frzH
      rw [if_neg fun z => t2 (by simp [z])]
      exact t1
    · rw [List.append_nil] at z
      rcases List.mem_append.mp z with z | z
      · simp [z]
      · simp [z]
  · unfold frzH at h
    by_cases q : a ∈ A1
    · exact .inr (.inl (by simp [q]))
    · rw [if_neg q] at h; exact .inl h
  · rw [List.append_nil] at h
    rcases List.mem_append.mp h with z | z
    · simp [z]
    · simp [z]
theorem ie_var {X : Cx} {i : Nat} {x : Str} {pos : Pos} (h : PE X (.Name x pos) (tVar i)) : IsE Z X (.Name x pos) (mvar i) := ⟨PE.imp h fun σ H Q ⟨ad, env, T, F, A, r, env', T', R, e, k⟩ => by
  unfold mvar at e
  cases q : env[i]? with
  | none => rw [q] at e; cases e
  | some s =>
    rw [q] at e
    cases s with
    | no => cases e
    | sh d =>
      simp only [Option.some.injEq, Prod.mk.injEq] at e
      obtain ⟨rfl, rfl, rfl⟩ := e
      obtain ⟨o, A0, A1, A2, e1, eA, ⟨_, v, eo, hv⟩, _⟩ := R.env.split q
      subst eo
      exact ⟨v, e1, k v H F A R Stp.refl hv⟩
    | ow n d =>
      simp only [Option.some.injEq, Prod.mk.injEq] at e
      obtain ⟨rfl, rfl, rfl⟩ := e
      obtain ⟨v, F', A', e1, R', S', hv⟩ := R.freeze q
      exact ⟨v, e1, k v H F' A' R' S' hv⟩⟩
end

/-! ### owned results become shared ones -/
section
variable {Z : TSys} {ad : Z.Ad} {env : List Sl} {T : Z.T} {F H : Hp} {σ : L2.St} {A : List Addr}
theorem Rel.frzB (R : Rel Z ad env T F σ H A) {n : Nat} {d : D} {v : V} {B : List Addr} (hv : Own (Z.root ad) F H n d v B) (hB : ∀ a ∈ B, a ∉ A ∧ a ∉ Z.addrs ad) :
    Rel Z ad env T (frzH B F H) σ H A ∧ Same F (frzH B F H) ∧ Holds (Z.root ad) (frzH B F H) d v ∧ ∀ a, frzH B F H a ≠ none → F a ≠ none ∨ a ∈ B := by
  have at1 := hv.at
  have sF : Same F (frzH B F H) := fun a x e => by
    unfold frzH
    by_cases q : a ∈ B
    · rw [(at1 a q).1] at e; cases e
    · rw [if_neg q]; exact e
  have fH : Same (frzH B F H) H := fun a x e => by
    unfold frzH at e
    by_cases q : a ∈ B
    · rw [if_pos q] at e; exact e
    · rw [if_neg q] at e; exact R.same _ _ e
  refine ⟨⟨fH, R.env.keep sF fun a ha => ⟨rfl, ?_⟩, R.nd, R.tp, fun b hb => ⟨?_, (R.tf b hb).2⟩⟩, sF, hv.frz sF fun a ha => by unfold frzH; rw [if_pos ha], fun a h => ?_⟩
  · unfold frzH
    rw [if_neg fun z => (hB a z).1 ha]
    exact (R.at a ha).1
  · unfold frzH
    rw [if_neg fun z => (hB b z).2 hb]
    exact (R.tf b hb).1
  · unfold frzH at h
    by_cases q : a ∈ B
    · exact .inr q
    · rw [if_neg q] at h; exact .inl h
theorem IsO.toE {n : Nat} {X : Cx} {e : Expr} {m : M Z} (h : IsO Z n X e m) : IsE Z X e m := ⟨PE.imp h.pe fun σ H Q ⟨ad, env, T, F, A, r, env', T', R, e, k⟩ => by
  refine ⟨ad, env, T, F, A, r, env', T', R, e, fun v H' F' A' B R' S' ho nd hB => ?_⟩
  obtain ⟨R2, s2, h2, n2⟩ := R'.frzB ho fun a ha => ⟨(hB a ha).1, (hB a ha).2.2⟩
  refine k v H' _ A' R2 ⟨S'.sF.trans s2, fun a ha => ?_, S'.nA, S'.fr, S'.ex⟩ h2
  rcases n2 a ha with z | z
  · exact S'.nF a z
  · exact .inr (.inr (hB a z).2.1)⟩
end

/-! ### not, and, or, if else -/
def bnot {Z : TSys} (m : MB Z) : MB Z := fun e t => match m e t with
  | some (b, e', t') => some (!b, e', t')
  | none => none
def band {Z : TSys} (m n : MB Z) : MB Z := fun e t => match m e t with
  | some (true, e', t') => n e' t'
  | some (false, e', t') => some (false, e', t')
  | none => none
def bor {Z : TSys} (m n : MB Z) : MB Z := fun e t => match m e t with
  | some (true, e', t') => some (true, e', t')
  | some (false, e', t') => n e' t'
  | none => none
def mite {Z : TSys} (c : MB Z) (m n : M Z) : M Z := fun e t => match c e t with
  | some (true, e', t') => m e' t'
  | some (false, e', t') => n e' t'
  | none => none
def mbool {Z : TSys} (m : MB Z) : M Z := fun e t => match m e t with
  | some (b, e', t') => some (.bl b, e', t')
  | none => none
structure IsW (Z : TSys) (X : Cx) (e : Expr) (m : MB Z) : Prop where
  pw : PW X e (denB Z m)
section
variable {Z : TSys} {X : Cx} {a b c : Expr} {rest : List Expr} {pos : Pos}
theorem denB_bind {m : MB Z} {f : Bool → MB Z} {σ : L2.St} {H : Hp} {Q : Bool → Hp → Prop}
    (h : denB Z (fun e t => match m e t with | some (b, e', t') => f b e' t' | none => none) σ H Q) : denB Z m σ H fun b H1 => denB Z (f b) σ H1 Q := by
  obtain ⟨ad, env, T, F, A, r, env', T', R, e, k⟩ := h
  cases q : m env T with
  | none => simp only [q] at e; cases e
  | some z =>
    obtain ⟨b, e1, t1⟩ := z
    simp only [q] at e
    exact ⟨ad, env, T, F, A, b, e1, t1, R, q, fun H' F' A' R' S' => ⟨ad, e1, t1, F', A', r, env', T', R', e, fun H2 F2 A2 R2 S2 => k H2 F2 A2 R2 (R'.st S' S2 R2)⟩⟩
theorem denBM_bind {m : MB Z} {f : Bool → M Z} {σ : L2.St} {H : Hp} {Q : VK}
    (h : den Z (fun e t => match m e t with | some (b, e', t') => f b e' t' | none => none) σ H Q) : denB Z m σ H fun b H1 => den Z (f b) σ H1 Q := by
  obtain ⟨ad, env, T, F, A, r, env', T', R, e, k⟩ := h
  cases q : m env T with
  | none => simp only [q] at e; cases e
  | some z =>
    obtain ⟨b, e1, t1⟩ := z
    simp only [q] at e
    exact ⟨ad, env, T, F, A, b, e1, t1, R, q, fun H' F' A' R' S' => ⟨ad, e1, t1, F', A', r, env', T', R', e, fun v H2 F2 A2 R2 S2 => k v H2 F2 A2 R2 (R'.st S' S2 R2)⟩⟩
theorem denB_pure {b : Bool} {σ : L2.St} {H : Hp} {Q : Bool → Hp → Prop} (h : denB Z (fun e t => some (b, e, t)) σ H Q) : Q b H := by
  obtain ⟨ad, env, T, F, A, r, env', T', R, e, k⟩ := h
  simp only [Option.some.injEq, Prod.mk.injEq] at e
  obtain ⟨rfl, rfl, rfl⟩ := e
  exact k H F A R Stp.refl
theorem band_eq {m n : MB Z} : band m n = fun e t => match m e t with | some (b, e', t') => (if b then n else fun e t => some (false, e, t)) e' t' | none => none := by
  funext e t
  unfold band
  cases m e t with
  | none => rfl
  | some z => obtain ⟨b, e1, t1⟩ := z; cases b <;> rfl
theorem bor_eq {m n : MB Z} : bor m n = fun e t => match m e t with | some (b, e', t') => (if b then (fun e t => some (true, e, t)) else n) e' t' | none => none := by
  funext e t
  unfold bor
  cases m e t with
  | none => rfl
  | some z => obtain ⟨b, e1, t1⟩ := z; cases b <;> rfl
theorem bnot_eq {m : MB Z} : bnot m = fun e t => match m e t with | some (b, e', t') => (fun e t => some (!b, e, t) : MB Z) e' t' | none => none := rfl
theorem mite_eq {c : MB Z} {m n : M Z} : mite c m n = fun e t => match c e t with | some (b, e', t') => (if b then m else n) e' t' | none => none := by
  funext e t
  unfold mite
  cases c e t with
  | none => rfl
  | some z => obtain ⟨b, e1, t1⟩ := z; cases b <;> rfl
theorem IsW.t {e : Expr} {m : MB Z} (h : IsW Z X e m) : IsT Z X e m := ⟨h.pw.pt⟩
theorem iw_and1 {m : MB Z} (h : IsT Z X a m) : IsW Z X (.BoolOp .And [a] pos) m := ⟨pw_and1 h.pt⟩
theorem iw_or1 {m : MB Z} (h : IsT Z X a m) : IsW Z X (.BoolOp .Or [a] pos) m := ⟨pw_or1 h.pt⟩
theorem iw_and {m n : MB Z} (ha : IsT Z X a m) (hb : IsW Z X (.BoolOp .And (b :: rest) pos) n) : IsW Z X (.BoolOp .And (a :: b :: rest) pos) (band m n) := ⟨PW.imp (pw_and ha.pt hb.pw) fun σ H Q h => by
  rw [band_eq] at h
  show denB Z m σ H fun c H1 => if c = true then denB Z n σ H1 Q else Q false H1
  obtain ⟨ad, env, T, F, A, r, env', T', R, e, k⟩ := denB_bind (f := fun b => if b then n else fun e t => some (false, e, t)) h
  refine ⟨ad, env, T, F, A, r, env', T', R, e, fun H' F' A' R' S' => ?_⟩
  have q := k H' F' A' R' S'
  cases r with
  | true => exact q
  | false => exact denB_pure q⟩
theorem iw_or {m n : MB Z} (ha : IsT Z X a m) (hb : IsW Z X (.BoolOp .Or (b :: rest) pos) n) : IsW Z X (.BoolOp .Or (a :: b :: rest) pos) (bor m n) := ⟨PW.imp (pw_or ha.pt hb.pw) fun σ H Q h => by
  rw [bor_eq] at h
  show denB Z m σ H fun c H1 => if c = true then Q true H1 else denB Z n σ H1 Q
  obtain ⟨ad, env, T, F, A, r, env', T', R, e, k⟩ := denB_bind (f := fun b => if b then (fun e t => some (true, e, t)) else n) h
  refine ⟨ad, env, T, F, A, r, env', T', R, e, fun H' F' A' R' S' => ?_⟩
  have q := k H' F' A' R' S'
  cases r with
  | true => exact denB_pure q
  | false => exact q⟩
theorem it_not {m : MB Z} (h : IsT Z X a m) : IsT Z X (.UnaryOp .Not a pos) (bnot m) := ⟨PT.imp (pt_not h.pt) fun σ H Q q => by
  rw [bnot_eq] at q
  obtain ⟨ad, env, T, F, A, r, env', T', R, e, k⟩ := denB_bind (f := fun b e t => some (!b, e, t)) q
  exact ⟨ad, env, T, F, A, r, env', T', R, e, fun H' F' A' R' S' => denB_pure (k H' F' A' R' S')⟩⟩
theorem ie_ite {k : MB Z} {m n : M Z} (hc : IsT Z X c k) (ha : IsE Z X a m) (hb : IsE Z X b n) : IsE Z X (.IfExp c a b pos) (mite k m n) := ⟨PE.imp (pe_ifExp hc.pt ha.pe hb.pe) fun σ H Q h => by
  rw [mite_eq] at h
  obtain ⟨ad, env, T, F, A, r, env', T', R, e, k⟩ := denBM_bind (f := fun b => if b then m else n) h
  refine ⟨ad, env, T, F, A, r, env', T', R, e, fun H' F' A' R' S' => ?_⟩
  have q := k H' F' A' R' S'
  cases r with
  | true => exact q
  | false => exact q⟩
theorem den_bool {m : M Z} {f : Bool → M Z} {σ : L2.St} {H : Hp} {Q : VK} (h : den Z (fun e t => match asB m e t with | some (b, e', t') => f b e' t' | none => none) σ H Q) :
    den Z m σ H fun x H1 => ∃ c, x = .bl c ∧ den Z (f c) σ H1 Q := by
  obtain ⟨ad, env, T, F, A, r, env', T', R, e, k⟩ := denBM_bind h
  exact ⟨ad, env, T, F, A, .bl r, env', T', R, asB_inv e, fun v H' F' A' R' S' hv => ⟨r, by simpa only [Holds] using hv, k H' F' A' R' S'⟩⟩
theorem den_pure {d : D} {v : V} {σ : L2.St} {H : Hp} {Q : VK} (hv : ∀ rt F, Holds rt F d v) (h : den Z (fun e t => some (d, e, t)) σ H Q) : Q v H := by
  obtain ⟨ad, env, T, F, A, r, env', T', R, e, k⟩ := h
  simp only [Option.some.injEq, Prod.mk.injEq] at e
  obtain ⟨rfl, rfl, rfl⟩ := e
  exact k v H F A R Stp.refl (hv _ _)
/-- as values -/
def mand {Z : TSys} (m n : M Z) : M Z := fun e t => match asB m e t with
  | some (b, e', t') => (if b then n else fun e t => some (.bl false, e, t)) e' t'
  | none => none
def mor {Z : TSys} (m n : M Z) : M Z := fun e t => match asB m e t with
  | some (b, e', t') => (if b then (fun e t => some (.bl true, e, t)) else n) e' t'
  | none => none
def mnot {Z : TSys} (m : M Z) : M Z := fun e t => match asB m e t with
  | some (b, e', t') => (fun e t => some (.bl (!b), e, t) : M Z) e' t'
  | none => none
theorem ie_one {op} {m : M Z} (h : IsE Z X a m) : IsE Z X (.BoolOp op [a] pos) m := ⟨pe_one h.pe⟩
theorem ie_and {m n : M Z} (ha : IsE Z X a m) (hb : IsE Z X (.BoolOp .And (b :: rest) pos) n) : IsE Z X (.BoolOp .And (a :: b :: rest) pos) (mand m n) := ⟨PE.imp (pe_and ha.pe hb.pe) fun σ H Q h => by
  obtain ⟨ad, env, T, F, A, r, env', T', R, e, k⟩ := den_bool (f := fun b => if b then n else fun e t => some (.bl false, e, t)) h
  refine ⟨ad, env, T, F, A, r, env', T', R, e, fun v H' F' A' R' S' hv => ?_⟩
  obtain ⟨c, ec, q⟩ := k v H' F' A' R' S' hv
  refine ⟨c, ec, ?_⟩
  cases c with
  | true => exact q
  | false => exact den_pure (fun _ _ => by simp only [Holds]) q⟩
theorem ie_or {m n : M Z} (ha : IsE Z X a m) (hb : IsE Z X (.BoolOp .Or (b :: rest) pos) n) : IsE Z X (.BoolOp .Or (a :: b :: rest) pos) (mor m n) := ⟨PE.imp (pe_or ha.pe hb.pe) fun σ H Q h => by
  obtain ⟨ad, env, T, F, A, r, env', T', R, e, k⟩ := den_bool (f := fun b => if b then (fun e t => some (.bl true, e, t)) else n) h
  refine ⟨ad, env, T, F, A, r, env', T', R, e, fun v H' F' A' R' S' hv => ?_⟩
  obtain ⟨c, ec, q⟩ := k v H' F' A' R' S' hv
  refine ⟨c, ec, ?_⟩
  cases c with
  | true => exact den_pure (fun _ _ => by simp only [Holds]) q
  | false => exact q⟩
theorem ie_not {m : M Z} (ha : IsE Z X a m) : IsE Z X (.UnaryOp .Not a pos) (mnot m) := ⟨PE.imp (pe_not ha.pe) fun σ H Q h => by
  obtain ⟨ad, env, T, F, A, r, env', T', R, e, k⟩ := den_bool (f := fun b e t => some (.bl (!b), e, t)) h
  refine ⟨ad, env, T, F, A, r, env', T', R, e, fun v H' F' A' R' S' hv => ?_⟩
  obtain ⟨c, ec, q⟩ := k v H' F' A' R' S' hv
  exact ⟨c, ec, den_pure (fun _ _ => by simp only [Holds]) q⟩⟩
end

/-! ### argument lists, displays -/
def mnil {Z : TSys} : ML Z := fun e t => some ([], e, t)
def mcons {Z : TSys} (m : M Z) (l : ML Z) : ML Z := fun e t => match m e t with
  | some (d, e1, t1) => match l e1 t1 with
    | some (ds, e2, t2) => some (d :: ds, e2, t2)
    | none => none
  | none => none
def mtup {Z : TSys} (l : ML Z) : M Z := fun e t => match l e t with
  | some (ds, e1, t1) => if ds.length ≤ 1000 then some (.tup ds, e1, t1) else none
  | none => none
def mlst {Z : TSys} (l : ML Z) : M Z := fun e t => match l e t with
  | some (ds, e1, t1) => if ds.length ≤ 1000 then some (.lst ds, e1, t1) else none
  | none => none
theorem sz1000 {n : Nat} (h : n ≤ 1000) : n ≤ sizeLine := Nat.le_trans h (by decide)
section
variable {Z : TSys} {X : Cx} {a : Expr} {es : List Expr} {pos : Pos}
theorem il_nil : IsL Z X [] mnil := ⟨PA.imp pa_nil fun σ H Q ⟨ad, env, T, F, A, r, env', T', R, e, k⟩ => by
  simp only [mnil, Option.some.injEq, Prod.mk.injEq] at e
  obtain ⟨rfl, rfl, rfl⟩ := e
  exact k [] H F A R Stp.refl .nil⟩
theorem il_cons {m : M Z} {l : ML Z} (ha : IsE Z X a m) (hl : IsL Z X es l) (hs : starEach (a :: es) X.env = (false, eval a X.env) :: starEach es X.env := by rfl) : IsL Z X (a :: es) (mcons m l) := ⟨PA.imp (pa_cons ha.pe hl.pa hs) fun σ H Q ⟨ad, env, T, F, A, r, env', T', R, e, k⟩ => by
  unfold mcons at e
  cases q : m env T with
  | none => rw [q] at e; cases e
  | some z =>
    obtain ⟨d, e1, t1⟩ := z
    rw [q] at e
    simp only at e
    cases q2 : l e1 t1 with
    | none => rw [q2] at e; cases e
    | some z2 =>
      obtain ⟨ds, e2, t2⟩ := z2
      rw [q2] at e
      simp only [Option.some.injEq, Prod.mk.injEq] at e
      obtain ⟨rfl, rfl, rfl⟩ := e
      refine ⟨ad, env, T, F, A, d, e1, t1, R, q, fun v H' F' A' R' S' hv => ?_⟩
      exact ⟨ad, e1, t1, F', A', ds, e2, t2, R', q2, fun vs H2 F2 A2 R2 S2 hvs => k (v :: vs) H2 F2 A2 R2 (R'.st S' S2 R2) (.cons (hv.mono S2.sF) hvs)⟩⟩
/-- a new tuple, its object known -/
def tTupF (t : TA) : TE := fun σ H Q => t σ H fun xs H1 => xs.length ≤ sizeLine ∧ ∀ p o, H1 p = none → o.dict = none → Q (.ref p) (upd H1 p (.frz o (.tup xs)))
theorem laidT {X : Cx} {pins : List (Addr × Obj)} {σ : L2.St} {H : Hp} {s : Shared} {xs : List V} {us : List Value} (I : Inv X pins σ H s) (r : Vals xs us) (z : xs.length ≤ sizeLine) (t : Nat) :
    Inv X pins σ (upd H s.heap.objs.size (.frz { cls := .type "tuple", data := .seq us.toArray } (.tup xs))) { s with heap := s.heap.push { cls := .type "tuple", data := .seq us.toArray }, toks := t } :=
  I.laid (t' := t) (fun b u e => Heap.get?_push_of_some _ e) (Nat.le_refl _) ⟨Heap.get?_push_size _ rfl, z, us, r, ⟨_, Heap.get?_push_size _ rfl, rfl, _, rfl⟩⟩
theorem pe_tupF {t : TA} {x1} (h : PA X es t) : PE X (.Tuple es x1 pos) (tTupF t) := by
  refine ⟨fun pins s σ H Q I hq => ?_⟩
  refine wpAny_Tuple_spliced (thn (h.run pos pins s σ H _ I hq) fun us s1 ⟨xs, H1, I1, r, z, q⟩ => ⟨by rw [← r.length]; exact z, ?_⟩)
  have hf : H1 s1.heap.objs.size = none := I1.hok.fresh (Nat.le_refl _)
  exact ⟨.ref s1.heap.objs.size, _, laidT I1 r z s1.toks, rfl, q _ _ hf rfl⟩
theorem ie_tup {l : ML Z} {x1} (h : IsL Z X es l) : IsE Z X (.Tuple es x1 pos) (mtup l) := ⟨PE.imp (pe_tupF h.pa) fun σ H Q ⟨ad, env, T, F, A, r, env', T', R, e, k⟩ => by
  unfold mtup at e
  cases q : l env T with
  | none => rw [q] at e; cases e
  | some z =>
    obtain ⟨ds, e1, t1⟩ := z
    rw [q] at e
    simp only at e
    by_cases hz : ds.length ≤ 1000
    · rw [if_pos hz] at e
      simp only [Option.some.injEq, Prod.mk.injEq] at e
      obtain ⟨rfl, rfl, rfl⟩ := e
      refine ⟨ad, env, T, F, A, ds, e1, t1, R, q, fun vs H' F' A' R' S' hv => ⟨by rw [hv.length]; exact sz1000 hz, fun p o hp ho => ?_⟩⟩
      obtain ⟨R2, S2⟩ := R'.upd hp (.frz o (.tup vs))
      refine k _ _ _ _ R2 (R'.st S' S2 R2) ?_
      simp only [Holds]
      exact ⟨p, vs, rfl, ⟨o, upd_same, ho⟩, hv.mono S2.sF⟩
    · rw [if_neg hz] at e; cases e⟩
theorem io_lst {l : ML Z} (h : IsL Z X es l) : IsO Z 1 X (.List es pos) (mlst l) := ⟨PE.imp (pe_lst h.pa) fun σ H Q ⟨ad, env, T, F, A, r, env', T', R, e, k⟩ => by
  unfold mlst at e
  cases q : l env T with
  | none => rw [q] at e; cases e
  | some z =>
    obtain ⟨ds, e1, t1⟩ := z
    rw [q] at e
    simp only at e
    by_cases hz : ds.length ≤ 1000
    · rw [if_pos hz] at e
      simp only [Option.some.injEq, Prod.mk.injEq] at e
      obtain ⟨rfl, rfl, rfl⟩ := e
      refine ⟨ad, env, T, F, A, ds, e1, t1, R, q, fun vs H' F' A' R' S' hv => ⟨by rw [hv.length]; exact sz1000 hz, fun p hp => ?_⟩⟩
      obtain ⟨R2, S2⟩ := R'.own hp (.lst vs)
      obtain ⟨n1, n2⟩ := R'.notin hp
      refine k _ _ F' A' [p] R2 (R'.st S' S2 R2) ⟨p, [], rfl, R'.same.free hp, rfl, vs, upd_same, OwnL.ofHolds hv⟩ (by simp) fun a ha => ?_
      have ea : a = p := by simpa using ha
      subst ea
      exact ⟨n1, S'.none hp, n2⟩
    · rw [if_neg hz] at e; cases e⟩
end
end DL

/-! The data layer, 4: calls, methods, subscripts, slices, chains. -/
namespace DL
open PySem L2

/-! ### operand lists -/
def evAs {Z : TSys} : List (Arg Z) → List Sl → Z.T → Option (List (Option D) × List Sl × Z.T)
  | [], e, t => some ([], e, t)
  | a :: as, e, t => if slotOk a e then match evA a e t with
    | some (o, e1, t1) => match evAs as e1 t1 with
      | some (os, e2, t2) => some (o :: os, e2, t2)
      | none => none
    | none => none
    else none
def getAs {Z : TSys} : List (Arg Z) → List (Option D) → List Sl → Option (List D)
  | [], _, _ => some []
  | a :: as, o :: os, e => match getA a o e with
    | some d => match getAs as os e with
      | some ds => some (d :: ds)
      | none => none
    | none => none
  | _ :: _, [], _ => none
def evN {Z : TSys} (as : List (Arg Z)) : ML Z := fun e t => match evAs as e t with
  | some (os, e1, t1) => match getAs as os e1 with
    | some ds => some (ds, e1, t1)
    | none => none
  | none => none
def ArgVs (Z : TSys) (ad : Z.Ad) (F : Hp) (σ : L2.St) : List (Arg Z) → List (Option D) → List V → Prop
  | [], _, vs => vs = []
  | a :: as, o :: os, vs => ∃ v r, vs = v :: r ∧ ArgV Z ad a o F σ v ∧ ArgVs Z ad F σ as os r
  | _ :: _, [], _ => False
def denAs (Z : TSys) (as : List (Arg Z)) : TA := fun σ H Q => ∃ (ad : Z.Ad) (env : List Sl) (T : Z.T) (F : Hp) (A : List Addr) (os : List (Option D)) (env' : List Sl) (T' : Z.T),
  Rel Z ad env T F σ H A ∧ evAs as env T = some (os, env', T') ∧ ∀ vs H' F' A', Rel Z ad env' T' F' σ H' A' → Stp Z ad A F H A' F' H' → ArgVs Z ad F' σ as os vs → Q vs H'
inductive IsAs (Z : TSys) (X : Cx) : List Expr → List (Arg Z) → Prop
  | nil : IsAs Z X [] []
  | cons {e : Expr} {es : List Expr} {a : Arg Z} {as : List (Arg Z)} : IsA Z X e a → IsAs Z X es as → (starEach (e :: es) X.env = (false, eval e X.env) :: starEach es X.env) → IsAs Z X (e :: es) (a :: as)
theorem ia_cons {Z : TSys} {X : Cx} {e : Expr} {es : List Expr} {a : Arg Z} {as : List (Arg Z)} (h : IsA Z X e a) (hs : IsAs Z X es as) (hq : starEach (e :: es) X.env = (false, eval e X.env) :: starEach es X.env := by rfl) : IsAs Z X (e :: es) (a :: as) := .cons h hs hq
theorem ArgVs.mono {Z : TSys} {ad : Z.Ad} {F F' : Hp} {σ : L2.St} (s : Same F F') : ∀ {as : List (Arg Z)} {os : List (Option D)} {vs : List V}, ArgVs Z ad F σ as os vs → ArgVs Z ad F' σ as os vs
  | [], _, _, h => h
  | _ :: _, [], _, h => h.elim
  | a :: as, o :: os, _, h => by
    obtain ⟨v, r, e, h1, h2⟩ := h
    exact ⟨v, r, e, h1.mono s, h2.mono s⟩
theorem ArgVs.get {Z : TSys} {ad : Z.Ad} {env : List Sl} {T : Z.T} {F H : Hp} {σ : L2.St} {A : List Addr} (R : Rel Z ad env T F σ H A) : ∀ {as : List (Arg Z)} {os : List (Option D)} {vs : List V} {ds : List D}, ArgVs Z ad F σ as os vs → getAs as os env = some ds → HBL (Z.root ad) F H ds vs
  | [], _, _, _, h, g => by simp only [getAs, Option.some.injEq] at g; subst g; exact h
  | _ :: _, [], _, _, h, _ => h.elim
  | a :: as, o :: os, _, ds, h, g => by
    obtain ⟨v, r, e, h1, h2⟩ := h
    subst e
    simp only [getAs] at g
    cases q : getA a o env with
    | none => rw [q] at g; cases g
    | some d =>
      cases q2 : getAs as os env with
      | none => rw [q, q2] at g; cases g
      | some ds' =>
        rw [q, q2] at g
        simp only [Option.some.injEq] at g
        subst g
        exact ⟨v, r, rfl, h1.get R q, ArgVs.get R h2 q2⟩
theorem IsAs.pa {Z : TSys} {X : Cx} : ∀ {es : List Expr} {as : List (Arg Z)}, IsAs Z X es as → PA X es (denAs Z as)
  | _, _, .nil => PA.imp pa_nil fun σ H Q ⟨ad, env, T, F, A, r, env', T', R, e, k⟩ => by
    simp only [evAs, Option.some.injEq, Prod.mk.injEq] at e
    obtain ⟨rfl, rfl, rfl⟩ := e
    exact k [] H F A R Stp.refl rfl
  | _, _, .cons (a := a) (as := as) h hs hq => PA.imp (pa_cons h.pe (IsAs.pa hs) hq) fun σ H Q ⟨ad, env, T, F, A, r, env', T', R, e, k⟩ => by
    simp only [evAs] at e
    by_cases so : slotOk a env = true
    · rw [if_pos so] at e
      cases q : evA a env T with
      | none => rw [q] at e; cases e
      | some z =>
        obtain ⟨o, e1, t1⟩ := z
        rw [q] at e
        simp only at e
        cases q2 : evAs as e1 t1 with
        | none => rw [q2] at e; cases e
        | some z2 =>
          obtain ⟨os, e2, t2⟩ := z2
          rw [q2] at e
          simp only [Option.some.injEq, Prod.mk.injEq] at e
          obtain ⟨rfl, rfl, rfl⟩ := e
          refine ⟨ad, env, T, F, A, o, e1, t1, R, q, slotOk.has R so, fun v H' F' A' R' S' hv => ?_⟩
          exact ⟨ad, e1, t1, F', A', os, e2, t2, R', q2, fun vs H2 F2 A2 R2 S2 hvs => k (v :: vs) H2 F2 A2 R2 (R'.st S' S2 R2) ⟨v, vs, rfl, hv.mono S2.sF, hvs⟩⟩
    · rw [if_neg so] at e; cases e
theorem evN_run {Z : TSys} {as : List (Arg Z)} {env : List Sl} {T : Z.T} {ds : List D} {env' : List Sl} {T' : Z.T} (h : evN as env T = some (ds, env', T')) {ad : Z.Ad} {F H : Hp} {σ : L2.St} {A : List Addr} (R : Rel Z ad env T F σ H A) {Q : List V → Hp → Prop}
    (k : ∀ vs H' F' A', Rel Z ad env' T' F' σ H' A' → Stp Z ad A F H A' F' H' → HBL (Z.root ad) F' H' ds vs → Q vs H') : denAs Z as σ H Q := by
  unfold evN at h
  cases q : evAs as env T with
  | none => rw [q] at h; cases h
  | some z =>
    obtain ⟨os, e1, t1⟩ := z
    rw [q] at h
    simp only at h
    cases g : getAs as os e1 with
    | none => rw [g] at h; cases h
    | some ds' =>
      rw [g] at h
      simp only [Option.some.injEq, Prod.mk.injEq] at h
      obtain ⟨rfl, rfl, rfl⟩ := h
      exact ⟨ad, env, T, F, A, os, e1, t1, R, q, fun vs H' F' A' R' S' hv => k vs H' F' A' R' S' (hv.get R' g)⟩

/-! ### built-in functions -/
def mfn {Z : TSys} (g : List D → Option D) (as : List (Arg Z)) : M Z := fun e t => match evN as e t with
  | some (ds, e1, t1) => match g ds with
    | some d => some (d, e1, t1)
    | none => none
  | none => none
def mfnL {Z : TSys} (g : List D → Option (List D)) (as : List (Arg Z)) : M Z := fun e t => match evN as e t with
  | some (ds, e1, t1) => match g ds with
    | some d => some (.lst d, e1, t1)
    | none => none
  | none => none
section
variable {Z : TSys} {X : Cx} {x : Str} {p pos : Pos} {e : Expr} {es : List Expr} {id T : String} {r : List V → Hp → VK → Prop} {g : List D → Option D} {gl : List D → Option (List D)} {as : List (Arg Z)}
theorem mfn_inv {env : List Sl} {t : Z.T} {d : D} {env' : List Sl} {t' : Z.T} (h : mfn g as env t = some (d, env', t')) : ∃ ds, evN as env t = some (ds, env', t') ∧ g ds = some d := by
  unfold mfn at h
  cases q : evN as env t with
  | none => rw [q] at h; cases h
  | some z =>
    obtain ⟨ds, e1, t1⟩ := z
    rw [q] at h
    simp only at h
    cases q2 : g ds with
    | none => rw [q2] at h; cases h
    | some d' =>
      rw [q2] at h
      simp only [Option.some.injEq, Prod.mk.injEq] at h
      obtain ⟨rfl, rfl, rfl⟩ := h
      exact ⟨ds, rfl, q2⟩
theorem mfnL_inv {env : List Sl} {t : Z.T} {d : D} {env' : List Sl} {t' : Z.T} (h : mfnL gl as env t = some (d, env', t')) : ∃ ds us, evN as env t = some (ds, env', t') ∧ gl ds = some us ∧ d = .lst us := by
  unfold mfnL at h
  cases q : evN as env t with
  | none => rw [q] at h; cases h
  | some z =>
    obtain ⟨ds, e1, t1⟩ := z
    rw [q] at h
    simp only at h
    cases q2 : gl ds with
    | none => rw [q2] at h; cases h
    | some d' =>
      rw [q2] at h
      simp only [Option.some.injEq, Prod.mk.injEq] at h
      obtain ⟨rfl, rfl, rfl⟩ := h
      exact ⟨ds, d', rfl, q2, rfl⟩
theorem fn_core (hd : CallD r g) {σ : L2.St} {H : Hp} {Q : VK} (h : den Z (mfn g as) σ H Q) : tCB r (denAs Z as) σ H Q := by
  obtain ⟨ad, env, T, F, A0, d, env', T', R, e, k⟩ := h
  obtain ⟨ds, e1, e2⟩ := mfn_inv e
  refine evN_run (Q := fun vs H1 => r vs H1 Q) e1 R fun vs H' F' A' R' S' hv => ?_
  refine hd _ F' H' ds d vs Q R'.same hv e2 fun w F2 H2 n hw => ?_
  obtain ⟨R2, S2⟩ := R'.new n
  exact k w H2 F2 A' R2 (R'.st S' S2 R2) hw
theorem fnL_core (hd : CallN r gl) {σ : L2.St} {H : Hp} {Q : VK} (h : denO Z 1 (mfnL gl as) σ H Q) : tCB r (denAs Z as) σ H Q := by
  obtain ⟨ad, env, T, F, A0, d, env', T', R, e, k⟩ := h
  obtain ⟨ds, us, e1, e2, rfl⟩ := mfnL_inv e
  refine evN_run (Q := fun vs H1 => r vs H1 Q) e1 R fun vs H' F' A' R' S' hv => ?_
  refine hd _ F' H' ds us vs Q R'.same hv e2 fun p vs hp hl => ?_
  obtain ⟨R2, S2⟩ := R'.own hp (.lst vs)
  obtain ⟨n1, n2⟩ := R'.notin hp
  refine k _ _ F' A' [p] R2 (R'.st S' S2 R2) ⟨p, [], rfl, R'.same.free hp, rfl, vs, upd_same, OwnL.ofHolds hl⟩ (by simp) fun a ha => ?_
  have ea : a = p := by simpa using ha
  subst ea
  exact ⟨n1, S'.none hp, n2⟩
theorem ie_blt (hc : CallR X (.builtin id) r) (hd : CallD r g) (hg : Gl X x) (hm : X.mg x = none) (hv : bootBuiltins x = some (.builtin id)) (ha : IsAs Z X (e :: es) as) (hn : x ≠ "__name__" := by decide) (hdb : (x == ("__debug__" : Str)) = false := by decide)
    (he : starEach (e :: es) X.env = (false, eval e X.env) :: starEach es X.env := by rfl) (hpl : (backTo pos (starEach es X.env)).any (·.1) = false := by rfl) : IsE Z X (.Call (.Name x p) (e :: es) [] pos) (mfn g as) :=
  ⟨PE.imp (pe_callB hc hg hm hv ha.pa hn hdb he hpl) fun _ _ _ h => fn_core hd h⟩
theorem ie_ty (hc : CallR X (.type T) r) (hd : CallD r g) (hg : Gl X x) (hm : X.mg x = none) (hv : bootBuiltins x = some (.type T)) (ha : IsAs Z X (e :: es) as) (hn : x ≠ "__name__" := by decide) (hdb : (x == ("__debug__" : Str)) = false := by decide)
    (he : starEach (e :: es) X.env = (false, eval e X.env) :: starEach es X.env := by rfl) (hpl : (backTo pos (starEach es X.env)).any (·.1) = false := by rfl) : IsE Z X (.Call (.Name x p) (e :: es) [] pos) (mfn g as) :=
  ⟨PE.imp (pe_callTy hc hg hm hv ha.pa hn hdb he hpl) fun _ _ _ h => fn_core hd h⟩
theorem io_blt (hc : CallR X (.builtin id) r) (hd : CallN r gl) (hg : Gl X x) (hm : X.mg x = none) (hv : bootBuiltins x = some (.builtin id)) (ha : IsAs Z X (e :: es) as) (hn : x ≠ "__name__" := by decide) (hdb : (x == ("__debug__" : Str)) = false := by decide)
    (he : starEach (e :: es) X.env = (false, eval e X.env) :: starEach es X.env := by rfl) (hpl : (backTo pos (starEach es X.env)).any (·.1) = false := by rfl) : IsO Z 1 X (.Call (.Name x p) (e :: es) [] pos) (mfnL gl as) :=
  ⟨PE.imp (pe_callB hc hg hm hv ha.pa hn hdb he hpl) fun _ _ _ h => fnL_core hd h⟩
theorem io_ty (hc : CallR X (.type T) r) (hd : CallN r gl) (hg : Gl X x) (hm : X.mg x = none) (hv : bootBuiltins x = some (.type T)) (ha : IsAs Z X (e :: es) as) (hn : x ≠ "__name__" := by decide) (hdb : (x == ("__debug__" : Str)) = false := by decide)
    (he : starEach (e :: es) X.env = (false, eval e X.env) :: starEach es X.env := by rfl) (hpl : (backTo pos (starEach es X.env)).any (·.1) = false := by rfl) : IsO Z 1 X (.Call (.Name x p) (e :: es) [] pos) (mfnL gl as) :=
  ⟨PE.imp (pe_callTy hc hg hm hv ha.pa hn hdb he hpl) fun _ _ _ h => fnL_core hd h⟩
end

/-! ### operators that give a new list -/
def mopL {Z : TSys} (g : D → D → Option (List D)) (a b : Arg Z) : M Z := mop (fun x y => (g x y).map .lst) a b
section
variable {Z : TSys} {X : Cx} {a b : Expr} {A B : Arg Z} {pos : Pos} {r : R2} {g : D → D → Option (List D)}
theorem io_op {op : Operator} (ho : OpR X (binaryOp op) r) (hd : OpN r g) (ha : IsA Z X a A) (hb : IsA Z X b B) : IsO Z 1 X (.BinOp a op b pos) (mopL g A B) :=
  ⟨PE.imp (pe_op ho ha.pe hb.pe) fun σ H Q h => by
    obtain ⟨ad, env, T, F, A0, d, env', T', R, e, k⟩ := h
    obtain ⟨x, y, e1, e2⟩ := mop_inv e
    cases q : g x y with
    | none => rw [q] at e2; cases e2
    | some us =>
      rw [q] at e2
      simp only [Option.map_some, Option.some.injEq] at e2
      subst e2
      refine ev2_run (Q := fun x y H2 => r x y H2 Q) e1 R fun v u H' F' A' R' S' hv hu => ?_
      refine hd _ F' H' x y us v u Q R'.same hv hu q fun p vs hp hl => ?_
      obtain ⟨R2, S2⟩ := R'.own hp (.lst vs)
      obtain ⟨n1, n2⟩ := R'.notin hp
      refine k _ _ F' A' [p] R2 (R'.st S' S2 R2) ⟨p, [], rfl, R'.same.free hp, rfl, vs, upd_same, OwnL.ofHolds hl⟩ (by simp) fun a ha => ?_
      have ea : a = p := by simpa using ha
      subst ea
      exact ⟨n1, S'.none hp, n2⟩⟩
end

/-! ### subscripts -/
theorem ie_ix {Z : TSys} {X : Cx} {a b : Expr} {A B : Arg Z} {pos : Pos} {r : R2} {g : D → D → Option D} (hr : IxR X r) (hd : OpD r g) (ha : IsA Z X a A) (hb : IsA Z X b B) (hs : PlainIx b := by exact fun _ _ => rfl) : IsE Z X (.Subscript a b pos) (mop g A B) :=
  ⟨PE.imp (pe_ix hr ha.pe hb.pe hs) fun _ _ _ h => op_core hd h⟩

/-! ### slices -/
def SlD (r : V → Option Int → Option Int → Hp → VK → Prop) (g : D → Option Int → Option Int → Option D) : Prop := ∀ (rt : V) (F H : Hp) (dx d : D) (x : V) (lo hi : Option Int) (Q : VK), Same F H → HB rt F H dx x → g dx lo hi = some d →
  (∀ v F' H', New F H F' H' → Holds rt F' d v → Q v H') → r x lo hi H Q
abbrev MO (Z : TSys) := List Sl → Z.T → Option (Option Int × List Sl × Z.T)
def denP (Z : TSys) (m : MO Z) : TO := fun σ H Q => ∃ (ad : Z.Ad) (env : List Sl) (T : Z.T) (F : Hp) (A : List Addr) (r : Option Int) (env' : List Sl) (T' : Z.T),
  Rel Z ad env T F σ H A ∧ m env T = some (r, env', T') ∧ ∀ H' F' A', Rel Z ad env' T' F' σ H' A' → Stp Z ad A F H A' F' H' → Q r H'
structure IsP (Z : TSys) (X : Cx) (e : Option Expr) (m : MO Z) : Prop where
  po : PO X e (denP Z m)
theorem PO.imp {X : Cx} {e : Option Expr} {t u : TO} (h : PO X e t) (f : ∀ σ H Q, u σ H Q → t σ H Q) : PO X e u := ⟨fun pins s σ H Q I q => h.run pins s σ H Q I (f _ _ _ q)⟩
def onone {Z : TSys} : MO Z := fun e t => some (none, e, t)
def osome {Z : TSys} (m : M Z) : MO Z := fun e t => match m e t with
  | some (.int i, e', t') => some (some i, e', t')
  | _ => none
def mslice {Z : TSys} (g : D → Option Int → Option Int → Option D) (a : Arg Z) (lo hi : MO Z) : M Z := fun e t => if slotOk a e then match evA a e t with
  | some (o, e1, t1) => match lo e1 t1 with
    | some (l, e2, t2) => match hi e2 t2 with
      | some (h, e3, t3) => match getA a o e3 with
        | some d => match g d l h with
          | some r => some (r, e3, t3)
          | none => none
        | none => none
      | none => none
    | none => none
  | none => none
  else none
section
variable {Z : TSys} {X : Cx} {e : Expr} {lo hi : Option Expr} {A : Arg Z} {pos p2 : Pos}
theorem ip_none : IsP Z X none onone := ⟨PO.imp po_none fun σ H Q ⟨ad, env, T, F, A, r, env', T', R, e, k⟩ => by
  simp only [onone, Option.some.injEq, Prod.mk.injEq] at e
  obtain ⟨rfl, rfl, rfl⟩ := e
  exact k H F A R Stp.refl⟩
theorem ip_some {m : M Z} (h : IsE Z X e m) : IsP Z X (some e) (osome m) := ⟨PO.imp (po_some h.pe) fun σ H Q ⟨ad, env, T, F, A, r, env', T', R, e, k⟩ => by
  unfold osome at e
  split at e
  · rename_i i e1 t1 q
    simp only [Option.some.injEq, Prod.mk.injEq] at e
    obtain ⟨rfl, rfl, rfl⟩ := e
    exact ⟨ad, env, T, F, A, .int i, e1, t1, R, q, fun v H' F' A' R' S' hv => ⟨i, by simpa only [Holds] using hv, k H' F' A' R' S'⟩⟩
  · cases e⟩
theorem ie_slice {r : V → Option Int → Option Int → Hp → VK → Prop} {g : D → Option Int → Option Int → Option D} {ml mh : MO Z} (hr : SlR X r) (hd : SlD r g) (ha : IsA Z X e A) (hl : IsP Z X lo ml) (hh : IsP Z X hi mh) :
    IsE Z X (.Subscript e (.Slice lo hi none p2) pos) (mslice g A ml mh) := ⟨PE.imp (pe_slice hr ha.pe hl.po hh.po) fun σ H Q ⟨ad, env, T, F, A0, d, env', T', R, e, k⟩ => by
  unfold mslice at e
  by_cases so : slotOk A env = true
  · rw [if_pos so] at e
    cases q : evA A env T with
    | none => rw [q] at e; cases e
    | some z =>
      obtain ⟨o, e1, t1⟩ := z
      rw [q] at e
      simp only at e
      cases q2 : ml e1 t1 with
      | none => rw [q2] at e; cases e
      | some z2 =>
        obtain ⟨l, e2, t2⟩ := z2
        rw [q2] at e
        simp only at e
        cases q3 : mh e2 t2 with
        | none => rw [q3] at e; cases e
        | some z3 =>
          obtain ⟨h, e3, t3⟩ := z3
          rw [q3] at e
          simp only at e
          cases q4 : getA A o e3 with
          | none => rw [q4] at e; cases e
          | some d0 =>
            rw [q4] at e
            simp only at e
            cases q5 : g d0 l h with
            | none => rw [q5] at e; cases e
            | some d1 =>
              rw [q5] at e
              simp only [Option.some.injEq, Prod.mk.injEq] at e
              obtain ⟨rfl, rfl, rfl⟩ := e
              refine ⟨ad, env, T, F, A0, o, e1, t1, R, q, slotOk.has R so, fun v H' F' A' R' S' hv => ?_⟩
              refine ⟨ad, e1, t1, F', A', l, e2, t2, R', q2, fun H2 F2 A2 R2 S2 => ?_⟩
              refine ⟨ad, e2, t2, F2, A2, h, e3, t3, R2, q3, fun H3 F3 A3 R3 S3 => ?_⟩
              refine hd _ F3 H3 d0 d1 v l h Q R3.same ((hv.mono (S2.sF.trans S3.sF)).get R3 q4) q5 fun w F4 H4 n hw => ?_
              obtain ⟨R4, S4⟩ := R3.new n
              exact k w H4 F4 A3 R4 ((S'.trans S2).trans (S3.trans S4)) hw
  · rw [if_neg so] at e; cases e⟩
end

/-! ### a < b < c -/
def mchain {Z : TSys} (g g' : D → D → Option D) (a b c : Arg Z) : M Z := fun e t => if slotOk a e then match evA a e t with
  | some (o, e1, t1) => if slotOk b e1 then match evA b e1 t1 with
    | some (o2, e2, t2) => match getA a o e2, getA b o2 e2 with
      | some d, some d2 => match g d d2 with
        | some (.bl true) => if slotOk c e2 then match evA c e2 t2 with
          | some (o3, e3, t3) => match getA b o2 e3, getA c o3 e3 with
            | some d2', some d3 => match g' d2' d3 with
              | some r => some (r, e3, t3)
              | none => none
            | _, _ => none
          | none => none
          else none
        | some (.bl false) => some (.bl false, e2, t2)
        | _ => none
      | _, _ => none
    | none => none
    else none
  | none => none
  else none
section
variable {Z : TSys} {X : Cx} {a b c : Expr} {A B C : Arg Z} {pos : Pos} {r r' : R2} {g g' : D → D → Option D}
theorem chain_core (hd : OpD r g) (hd' : OpD r' g') {σ : L2.St} {H : Hp} {Q : VK} (h : den Z (mchain g g' A B C) σ H Q) : tChain r r' (denA Z A) (denA Z B) (denA Z C) σ H Q := by
  obtain ⟨ad, env, T, F, A0, d, env', T', R, e, k⟩ := h
  unfold mchain at e
  by_cases so : slotOk A env = true
  · rw [if_pos so] at e
    cases q : evA A env T with
    | none => rw [q] at e; cases e
    | some z =>
      obtain ⟨o, e1, t1⟩ := z
      rw [q] at e
      simp only at e
      by_cases so2 : slotOk B e1 = true
      · rw [if_pos so2] at e
        cases q2 : evA B e1 t1 with
        | none => rw [q2] at e; cases e
        | some z2 =>
          obtain ⟨o2, e2, t2⟩ := z2
          rw [q2] at e
          simp only at e
          cases g1 : getA A o e2 with
          | none => rw [g1] at e; cases e
          | some d1 =>
            cases g2 : getA B o2 e2 with
            | none => rw [g1, g2] at e; cases e
            | some d2 =>
              rw [g1, g2] at e
              simp only at e
              refine ⟨ad, env, T, F, A0, o, e1, t1, R, q, slotOk.has R so, fun v H' F' A' R' S' hv => ?_⟩
              refine ⟨ad, e1, t1, F', A', o2, e2, t2, R', q2, slotOk.has R' so2, fun u H2 F2 A2 R2 S2 hu => ?_⟩
              cases gg : g d1 d2 with
              | none => rw [gg] at e; cases e
              | some db =>
                rw [gg] at e
                refine hd _ F2 H2 d1 d2 db v u _ R2.same ((hv.mono S2.sF).get R2 g1) (hu.get R2 g2) gg fun w F3 H3 n hw => ?_
                obtain ⟨R3, S3⟩ := R2.new n
                cases db with
                | bl bb =>
                  refine ⟨bb, by simpa only [Holds] using hw, ?_⟩
                  cases bb with
                  | false =>
                    simp only [Option.some.injEq, Prod.mk.injEq] at e
                    obtain ⟨rfl, rfl, rfl⟩ := e
                    exact k _ H3 F3 A2 R3 ((S'.trans S2).trans S3) (by simp only [Holds])
                  | true =>
                    simp only at e
                    by_cases so3 : slotOk C e2 = true
                    · rw [if_pos so3] at e
                      cases q3 : evA C e2 t2 with
                      | none => rw [q3] at e; cases e
                      | some z3 =>
                        obtain ⟨o3, e3, t3⟩ := z3
                        rw [q3] at e
                        simp only at e
                        cases g3 : getA B o2 e3 with
                        | none => rw [g3] at e; cases e
                        | some d2' =>
                          cases g4 : getA C o3 e3 with
                          | none => rw [g3, g4] at e; cases e
                          | some d3 =>
                            rw [g3, g4] at e
                            simp only at e
                            cases gr : g' d2' d3 with
                            | none => rw [gr] at e; cases e
                            | some dr =>
                              rw [gr] at e
                              simp only [Option.some.injEq, Prod.mk.injEq] at e
                              obtain ⟨rfl, rfl, rfl⟩ := e
                              refine ⟨ad, e2, t2, F3, A2, o3, e3, t3, R3, q3, slotOk.has R3 so3, fun y H4 F4 A4 R4 S4 hy => ?_⟩
                              refine hd' _ F4 H4 d2' d3 dr u y Q R4.same ((hu.mono (S3.sF.trans S4.sF)).get R4 g3) (hy.get R4 g4) gr fun w' F5 H5 n5 hw' => ?_
                              obtain ⟨R5, S5⟩ := R4.new n5
                              exact k w' H5 F5 A4 R5 (((S'.trans S2).trans S3).trans (S4.trans S5)) hw'
                    · rw [if_neg so3] at e; cases e
                | _ => cases e
      · rw [if_neg so2] at e; cases e
  · rw [if_neg so] at e; cases e
end

/-! ### defs of the text -/
abbrev FnM (Z : TSys) := List D → Z.T → Option (D × Z.T)
def spD (Z : TSys) (n : Nat) (f : FnM Z) : Sp := fun vs H Q _ => vs.length = n ∧ ∃ (ad : Z.Ad) (ds : List D) (T : Z.T) (F : Hp) (r : D) (T' : Z.T),
  HoldsL (Z.root ad) F ds vs ∧ Rel Z ad [] T F [] H [] ∧ f ds T = some (r, T') ∧ ∀ v H' F', Rel Z ad [] T' F' [] H' [] → Stp Z ad [] F H [] F' H' → Holds (Z.root ad) F' r v → Q v H'
structure Fn (Z : TSys) (P : Program) (w : World) (K : PySem.W.Frag) (mg : Str → Option Value) (base : Heap) (A : Around) (x : Str) (n : Nat) (f : FnM Z) : Prop where
  ex : ∃ (k : Nat) (fa : Addr) (fd : FuncData) (ps : List Str), ps.length = n ∧ FnOk P w K mg base CX0 k fa fd ps (spD Z n f) ∧ Room k A ∧ mg x = some (.ref fa) ∧ PySem.W.keepIn K (.ref fa) = true ∧ Binds K fd ps []
def mcall {Z : TSys} (n : Nat) (f : FnM Z) (l : ML Z) : M Z := fun e t => match l e t with
  | some (ds, e1, t1) => if ds.length = n then match f ds t1 with
    | some (r, t2) => some (r, e1, t2)
    | none => none
    else none
  | none => none
section
variable {Z : TSys} {ad : Z.Ad} {env : List Sl} {T T1 : Z.T} {F H F1 H1 : Hp} {σ : L2.St} {A : List Addr}
theorem Rel.bare (R : Rel Z ad env T F σ H A) : Rel Z ad [] T F [] H [] := ⟨R.same, ⟨rfl, rfl⟩, List.nodup_nil, R.tp, fun a ha => ⟨(R.tf a ha).1, by simp⟩⟩
theorem Rel.back (R : Rel Z ad env T F σ H A) (R1 : Rel Z ad [] T1 F1 [] H1 []) (S : Stp Z ad [] F H [] F1 H1) : Rel Z ad env T1 F1 σ H1 A ∧ Stp Z ad A F H A F1 H1 := by
  refine ⟨⟨R1.same, R.env.keep S.sF fun a ha => ?_, R.nd, R1.tp, fun b hb => ⟨(R1.tf b hb).1, (R.tf b hb).2⟩⟩, S.sF, fun a h => ?_, fun a h => .inl h, fun a o h _ ht => S.fr a o h (by simp) ht, S.ex⟩
  · obtain ⟨f, o, ho⟩ := R.at a ha
    refine ⟨(S.fr a o ho (by simp) fun z => (R.tf a z).2 ha).trans ho.symm, ?_⟩
    cases q : F1 a with
    | none => rfl
    | some x =>
      rcases S.nF a (by rw [q]; exact fun z => by cases z) with z | z | z
      · exact absurd f z
      · simp at z
      · rw [ho] at z; cases z
  · rcases S.nF a h with z | z | z
    · exact .inl z
    · simp at z
    · exact .inr (.inr z)
end
theorem ie_call {Z : TSys} {X : Cx} {x : Str} {n : Nat} {f : FnM Z} {e : Expr} {es : List Expr} {l : ML Z} {p pos : Pos} (hf : Fn Z X.prog X.w X.K X.mg X.base X.A x n f) (hg : Gl X x) (ha : IsL Z X (e :: es) l) (hdb : (x == ("__debug__" : Str)) = false := by decide)
    (he : starEach (e :: es) X.env = (false, eval e X.env) :: starEach es X.env := by rfl) (hpl : (backTo pos (starEach es X.env)).any (·.1) = false := by rfl) : IsE Z X (.Call (.Name x p) (e :: es) [] pos) (mcall n f l) := by
  obtain ⟨k, fa, fd, ps, hn, F, hr, hm, hk, hb⟩ := hf.ex
  refine ⟨PE.imp (pe_call F hr hg hm hk hb .nil pass0 ha.pa hdb he hpl) fun σ H Q ⟨ad, env, T, F0, A, r, env', T', R, e, kk⟩ => ?_⟩
  unfold mcall at e
  cases q : l env T with
  | none => rw [q] at e; cases e
  | some z =>
    obtain ⟨ds, e1, t1⟩ := z
    rw [q] at e
    simp only at e
    by_cases hl : ds.length = n
    · rw [if_pos hl] at e
      cases q2 : f ds t1 with
      | none => rw [q2] at e; cases e
      | some z2 =>
        obtain ⟨d, t2⟩ := z2
        rw [q2] at e
        simp only [Option.some.injEq, Prod.mk.injEq] at e
        obtain ⟨rfl, rfl, rfl⟩ := e
        refine ⟨ad, env, T, F0, A, ds, e1, t1, R, q, fun vs H' F' A' R' S' hv => ?_⟩
        show spD Z n f (vs ++ []) H' Q E0
        rw [List.append_nil]
        refine ⟨by rw [hv.length, hl], ad, ds, t1, F', d, t2, hv, R'.bare, q2, fun v H2 F2 R2 S2 hw => ?_⟩
        obtain ⟨R3, S3⟩ := R'.back R2 S2
        exact kk v H2 F2 A' R3 (S'.trans S3) hw
    · rw [if_neg hl] at e; cases e
end DL

/-! The data layer, 5: statements, targets, loops, comprehensions, defs. -/
namespace DL
open PySem L2

/-! ### slots set -/
section
variable {Z : TSys} {ad : Z.Ad} {env : List Sl} {T : Z.T} {F H : Hp} {σ : L2.St} {A : List Addr}
theorem set_out {α : Type} {l : List α} {i : Nat} {x : α} (h : l[i]? = none) : l.set i x = l := by
  rw [List.set_eq_of_length_le]; simpa using h
theorem Rel.setSh (R : Rel Z ad env T F σ H A) (i : Nat) {d : D} {v : V} (hv : Holds (Z.root ad) F d v) : ∃ A', Rel Z ad (env.set i (.sh d)) T F (σ.set i (some v)) H A' ∧ Stp Z ad A F H A' F H := by
  cases q : env[i]? with
  | none =>
    have q2 : σ[i]? = none := by
      rw [List.getElem?_eq_none_iff] at q ⊢
      rw [R.env.length]; exact q
    rw [set_out q, set_out q2]
    exact ⟨A, R, Stp.refl⟩
  | some x =>
    obtain ⟨o, A0, A1, A2, e1, eA, _, re⟩ := R.env.split q
    subst eA
    have sub : ∀ a ∈ A0 ++ [] ++ A2, a ∈ A0 ++ A1 ++ A2 := fun a ha => by
      simp only [List.append_nil, List.mem_append] at ha ⊢
      rcases ha with z | z
      · exact .inl (.inl z)
      · exact .inr z
    refine ⟨A0 ++ [] ++ A2, ⟨R.same, re (Same.refl _) (fun a ha => ⟨rfl, ?_⟩) ⟨rfl, v, rfl, hv⟩, ?_, R.tp, fun b hb => ⟨(R.tf b hb).1, fun z => (R.tf b hb).2 (sub b z)⟩⟩, Same.refl _, fun a h => .inl h, fun a ha => .inl (sub a ha), fun a o h _ _ => h, fun a o h => ⟨o, h⟩⟩
    · exact (R.at a (sub a (by simpa using ha))).1
    · have nd := R.nd
      rw [List.append_nil]
      rw [List.nodup_append, List.nodup_append] at nd
      rw [List.nodup_append]
      exact ⟨nd.1.1, nd.2.1, fun a h1 b h2 => nd.2.2 a (List.mem_append_left _ h1) b h2⟩
theorem Rel.setNo (R : Rel Z ad env T F σ H A) (i : Nat) (o' : Option V) : ∃ A', Rel Z ad (env.set i .no) T F (σ.set i o') H A' ∧ Stp Z ad A F H A' F H := by
  cases q : env[i]? with
  | none =>
    have q2 : σ[i]? = none := by
      rw [List.getElem?_eq_none_iff] at q ⊢
      rw [R.env.length]; exact q
    rw [set_out q, set_out q2]
    exact ⟨A, R, Stp.refl⟩
  | some x =>
    obtain ⟨o, A0, A1, A2, e1, eA, _, re⟩ := R.env.split q
    subst eA
    have sub : ∀ a ∈ A0 ++ [] ++ A2, a ∈ A0 ++ A1 ++ A2 := fun a ha => by
      simp only [List.append_nil, List.mem_append] at ha ⊢
      rcases ha with z | z
      · exact .inl (.inl z)
      · exact .inr z
    refine ⟨A0 ++ [] ++ A2, ⟨R.same, re (Same.refl _) (fun a ha => ⟨rfl, ?_⟩) rfl, ?_, R.tp, fun b hb => ⟨(R.tf b hb).1, fun z => (R.tf b hb).2 (sub b z)⟩⟩, Same.refl _, fun a h => .inl h, fun a ha => .inl (sub a ha), fun a o h _ _ => h, fun a o h => ⟨o, h⟩⟩
    · exact (R.at a (sub a (by simpa using ha))).1
    · have nd := R.nd
      rw [List.append_nil]
      rw [List.nodup_append, List.nodup_append] at nd
      rw [List.nodup_append]
      exact ⟨nd.1.1, nd.2.1, fun a h1 b h2 => nd.2.2 a (List.mem_append_left _ h1) b h2⟩
theorem Rel.setOw (R : Rel Z ad env T F σ H A) (i : Nat) {n : Nat} {d : D} {v : V} {B : List Addr} (hv : Own (Z.root ad) F H n d v B) (nB : B.Nodup) (hB : ∀ a ∈ B, a ∉ A ∧ a ∉ Z.addrs ad) :
    ∃ A', Rel Z ad (env.set i (.ow n d)) T F (σ.set i (some v)) H A' ∧ Same F F ∧ (∀ a ∈ A', a ∈ A ∨ a ∈ B) := by
  cases q : env[i]? with
  | none =>
    have q2 : σ[i]? = none := by
      rw [List.getElem?_eq_none_iff] at q ⊢
      rw [R.env.length]; exact q
    rw [set_out q, set_out q2]
    exact ⟨A, R, Same.refl _, fun a h => .inl h⟩
  | some x =>
    obtain ⟨o, A0, A1, A2, e1, eA, _, re⟩ := R.env.split q
    subst eA
    have nd := R.nd
    rw [List.nodup_append, List.nodup_append] at nd
    have inA : ∀ a, a ∈ A0 ∨ a ∈ A2 → a ∈ A0 ++ A1 ++ A2 := fun a ha => by
      simp only [List.mem_append]
      rcases ha with z | z
      · exact .inl (.inl z)
      · exact .inr z
    refine ⟨A0 ++ B ++ A2, ⟨R.same, re (Same.refl _) (fun a ha => ⟨rfl, ?_⟩) ⟨v, rfl, hv⟩, ?_, R.tp, fun b hb => ⟨(R.tf b hb).1, fun z => ?_⟩⟩, Same.refl _, fun a ha => ?_⟩
    · exact (R.at a (inA a (List.mem_append.mp ha))).1
    · rw [List.nodup_append, List.nodup_append]
      refine ⟨⟨nd.1.1, nB, fun a h1 b h2 e => (hB b h2).1 (inA b (.inl (e ▸ h1)))⟩, nd.2.1, fun a h1 b h2 e => ?_⟩
      rcases List.mem_append.mp h1 with z | z
      · exact nd.2.2 a (List.mem_append_left _ z) b h2 e
      · exact (hB a z).1 (inA a (.inr (e ▸ h2)))
    · simp only [List.mem_append] at z
      rcases z with (z | z) | z
      · exact (R.tf b hb).2 (inA b (.inl z))
      · exact (hB b z).2 hb
      · exact (R.tf b hb).2 (inA b (.inr z))
    · simp only [List.mem_append] at ha
      rcases ha with (z | z) | z
      · exact .inl (inA a (.inl z))
      · exact .inr z
      · exact .inl (inA a (.inr z))
end

/-! ### statements -/
inductive Fl where
  | nx | bk | ct | rt (d : D)
abbrev SM (Z : TSys) := List Sl → Z.T → Option (Fl × List Sl × Z.T)
def endS (Dn : Ends) (rt : V) (F : Hp) (σ : L2.St) (H : Hp) : Fl → Prop
  | .nx => Dn.nx σ H
  | .bk => Dn.bk σ H
  | .ct => Dn.ct σ H
  | .rt d => ∀ v, Holds rt F d v → Dn.rt v H
def denS (Z : TSys) (m : SM Z) : TS := fun Dn σ H => ∃ (ad : Z.Ad) (env : List Sl) (T : Z.T) (F : Hp) (A : List Addr) (fl : Fl) (env' : List Sl) (T' : Z.T),
  Rel Z ad env T F σ H A ∧ m env T = some (fl, env', T') ∧ ∀ σ' H' F' A', Rel Z ad env' T' F' σ' H' A' → Stp Z ad A F H A' F' H' → endS Dn (Z.root ad) F' σ' H' fl
structure IsS (Z : TSys) (X : Cx) (st : Stmt) (m : SM Z) : Prop where
  ps : PS X st (denS Z m)
structure IsB (Z : TSys) (X : Cx) (sts : List Stmt) (m : SM Z) : Prop where
  ps : PSs X sts (denS Z m)
theorem PS.imp {X : Cx} {st : Stmt} {t u : TS} (h : PS X st t) (f : ∀ D σ H, u D σ H → t D σ H) : PS X st u := ⟨fun pins s σ H D I q => h.run pins s σ H D I (f _ _ _ q)⟩
theorem PSs.imp {X : Cx} {st : List Stmt} {t u : TS} (h : PSs X st t) (f : ∀ D σ H, u D σ H → t D σ H) : PSs X st u := ⟨fun pins s σ H D I q => h.run pins s σ H D I (f _ _ _ q)⟩
def snil {Z : TSys} : SM Z := fun e t => some (.nx, e, t)
def scons {Z : TSys} (a b : SM Z) : SM Z := fun e t => match a e t with
  | some (.nx, e1, t1) => b e1 t1
  | some (.bk, e1, t1) => some (.bk, e1, t1)
  | some (.ct, e1, t1) => some (.ct, e1, t1)
  | some (.rt d, e1, t1) => some (.rt d, e1, t1)
  | none => none
def sfl {Z : TSys} (f : Fl) : SM Z := fun e t => some (f, e, t)
def sret {Z : TSys} (m : M Z) : SM Z := fun e t => match m e t with
  | some (d, e1, t1) => some (.rt d, e1, t1)
  | none => none
def sset {Z : TSys} (i : Nat) (m : M Z) : SM Z := fun e t => match m e t with
  | some (d, e1, t1) => some (.nx, e1.set i (.sh d), t1)
  | none => none
def ssetO {Z : TSys} (i n : Nat) (m : M Z) : SM Z := fun e t => match m e t with
  | some (d, e1, t1) => some (.nx, e1.set i (.ow n d), t1)
  | none => none
def sdrop {Z : TSys} (m : M Z) : SM Z := fun e t => match m e t with
  | some (d, e1, t1) => some (.nx, e1, t1)
  | none => none
def sif {Z : TSys} (c : MB Z) (a b : SM Z) : SM Z := fun e t => match c e t with
  | some (true, e1, t1) => a e1 t1
  | some (false, e1, t1) => b e1 t1
  | none => none
section
variable {Z : TSys} {X : Cx} {st : Stmt} {rest : List Stmt} {e c : Expr} {pos pos' : Pos}
theorem ib_nil : IsB Z X [] snil := ⟨PSs.imp pss_nil fun D σ H ⟨ad, env, T, F, A, fl, env', T', R, e, k⟩ => by
  simp only [snil, Option.some.injEq, Prod.mk.injEq] at e
  obtain ⟨rfl, rfl, rfl⟩ := e
  exact k σ H F A R Stp.refl⟩
theorem ib_cons {a b : SM Z} (h1 : IsS Z X st a) (h2 : IsB Z X rest b) : IsB Z X (st :: rest) (scons a b) := ⟨PSs.imp (pss_cons h1.ps h2.ps) fun D σ H ⟨ad, env, T, F, A, fl, env', T', R, e, k⟩ => by
  unfold scons at e
  cases q : a env T with
  | none => rw [q] at e; cases e
  | some z =>
    obtain ⟨f1, e1, t1⟩ := z
    rw [q] at e
    refine ⟨ad, env, T, F, A, f1, e1, t1, R, q, fun σ' H' F' A' R' S' => ?_⟩
    cases f1 with
    | nx => exact ⟨ad, e1, t1, F', A', fl, env', T', R', e, fun σ2 H2 F2 A2 R2 S2 => k σ2 H2 F2 A2 R2 (S'.trans S2)⟩
    | bk => simp only [Option.some.injEq, Prod.mk.injEq] at e; obtain ⟨rfl, rfl, rfl⟩ := e; exact k σ' H' F' A' R' S'
    | ct => simp only [Option.some.injEq, Prod.mk.injEq] at e; obtain ⟨rfl, rfl, rfl⟩ := e; exact k σ' H' F' A' R' S'
    | rt d => simp only [Option.some.injEq, Prod.mk.injEq] at e; obtain ⟨rfl, rfl, rfl⟩ := e; exact k σ' H' F' A' R' S'⟩
theorem ib_one {a : SM Z} (h1 : IsS Z X st a) : IsB Z X [st] a := ⟨pss_one h1.ps⟩
theorem is_break : IsS Z X (.Break pos) (sfl .bk) := ⟨PS.imp ps_break fun D σ H ⟨ad, env, T, F, A, fl, env', T', R, e, k⟩ => by
  simp only [sfl, Option.some.injEq, Prod.mk.injEq] at e
  obtain ⟨rfl, rfl, rfl⟩ := e
  exact k σ H F A R Stp.refl⟩
theorem is_continue : IsS Z X (.Continue pos) (sfl .ct) := ⟨PS.imp ps_continue fun D σ H ⟨ad, env, T, F, A, fl, env', T', R, e, k⟩ => by
  simp only [sfl, Option.some.injEq, Prod.mk.injEq] at e
  obtain ⟨rfl, rfl, rfl⟩ := e
  exact k σ H F A R Stp.refl⟩
theorem is_pass : IsS Z X (.Pass pos) (sfl .nx) := ⟨PS.imp ps_pass fun D σ H ⟨ad, env, T, F, A, fl, env', T', R, e, k⟩ => by
  simp only [sfl, Option.some.injEq, Prod.mk.injEq] at e
  obtain ⟨rfl, rfl, rfl⟩ := e
  exact k σ H F A R Stp.refl⟩
theorem is_ret {m : M Z} (h : IsE Z X e m) : IsS Z X (.Return (some e) pos) (sret m) := ⟨PS.imp (ps_ret h.pe) fun D σ H ⟨ad, env, T, F, A, fl, env', T', R, e, k⟩ => by
  unfold sret at e
  cases q : m env T with
  | none => rw [q] at e; cases e
  | some z =>
    obtain ⟨d, e1, t1⟩ := z
    rw [q] at e
    simp only [Option.some.injEq, Prod.mk.injEq] at e
    obtain ⟨rfl, rfl, rfl⟩ := e
    exact ⟨ad, env, T, F, A, d, e1, t1, R, q, fun v H' F' A' R' S' hv => k σ H' F' A' R' S' v hv⟩⟩
theorem is_drop {m : M Z} (h : IsE Z X e m) (hs : swapsWith e none pos.line X.env = pure false := by rfl) : IsS Z X (.Expr e pos) (sdrop m) := ⟨PS.imp (ps_expr h.pe hs) fun D σ H ⟨ad, env, T, F, A, fl, env', T', R, e, k⟩ => by
  unfold sdrop at e
  cases q : m env T with
  | none => rw [q] at e; cases e
  | some z =>
    obtain ⟨d, e1, t1⟩ := z
    rw [q] at e
    simp only [Option.some.injEq, Prod.mk.injEq] at e
    obtain ⟨rfl, rfl, rfl⟩ := e
    exact ⟨ad, env, T, F, A, d, e1, t1, R, q, fun v H' F' A' R' S' hv => k σ H' F' A' R' S'⟩⟩
theorem set_core {i : Nat} {m : M Z} {t : TE} (ht : ∀ σ H Q, den Z m σ H Q → t σ H Q) {D : Ends} {σ : L2.St} {H : Hp} (h : denS Z (sset i m) D σ H) : tAsg t (gName i) D σ H := by
  obtain ⟨ad, env, T, F, A, fl, env', T', R, e, k⟩ := h
  unfold sset at e
  cases q : m env T with
  | none => rw [q] at e; cases e
  | some z =>
    obtain ⟨d, e1, t1⟩ := z
    rw [q] at e
    simp only [Option.some.injEq, Prod.mk.injEq] at e
    obtain ⟨rfl, rfl, rfl⟩ := e
    refine ht σ H _ ⟨ad, env, T, F, A, d, e1, t1, R, q, fun v H' F' A' R' S' hv => ?_⟩
    obtain ⟨A2, R2, S2⟩ := R'.setSh i hv
    exact k (σ.set i (some v)) H' F' A2 R2 (S'.trans S2)
theorem setO_core {i n : Nat} {m : M Z} {t : TE} (ht : ∀ σ H Q, denO Z n m σ H Q → t σ H Q) {D : Ends} {σ : L2.St} {H : Hp} (h : denS Z (ssetO i n m) D σ H) : tAsg t (gName i) D σ H := by
  obtain ⟨ad, env, T, F, A, fl, env', T', R, e, k⟩ := h
  unfold ssetO at e
  cases q : m env T with
  | none => rw [q] at e; cases e
  | some z =>
    obtain ⟨d, e1, t1⟩ := z
    rw [q] at e
    simp only [Option.some.injEq, Prod.mk.injEq] at e
    obtain ⟨rfl, rfl, rfl⟩ := e
    refine ht σ H _ ⟨ad, env, T, F, A, d, e1, t1, R, q, fun v H' F' A' B R' S' ho nB hB => ?_⟩
    obtain ⟨A2, R2, _, inA⟩ := R'.setOw i ho nB fun a ha => ⟨(hB a ha).1, (hB a ha).2.2⟩
    refine k (σ.set i (some v)) H' F' A2 R2 ⟨S'.sF, fun a ha => S'.nF a ha, fun a ha => ?_, S'.fr, S'.ex⟩
    rcases inA a ha with z | z
    · exact S'.nA a z
    · exact .inr (hB a z).2.1
theorem is_set {i : Nat} {x : Str} {m : M Z} (hN : X.N.Nodup) (hi : X.N[i]? = some x) (hx : Loc X.env.scope x) (he : IsE Z X e m) (hs : swapsWith e (some (.Name x pos')) pos.line X.env = pure false := by rfl) (hf : X.fn x = true ∨ X.env.scope.names.lookup x = some .local := by first | exact .inl rfl | exact .inr rfl | assumption) :
    IsS Z X (.Assign [.Name x pos'] e pos) (sset i m) := ⟨PS.imp (ps_set hN hi hx he.pe hs hf) fun _ _ _ h => set_core (fun _ _ _ h => h) h⟩
theorem is_setO {i n : Nat} {x : Str} {m : M Z} (hN : X.N.Nodup) (hi : X.N[i]? = some x) (hx : Loc X.env.scope x) (he : IsO Z n X e m) (hs : swapsWith e (some (.Name x pos')) pos.line X.env = pure false := by rfl) (hf : X.fn x = true ∨ X.env.scope.names.lookup x = some .local := by first | exact .inl rfl | exact .inr rfl | assumption) :
    IsS Z X (.Assign [.Name x pos'] e pos) (ssetO i n m) := ⟨PS.imp (ps_set hN hi hx he.pe hs hf) fun _ _ _ h => setO_core (fun _ _ _ h => h) h⟩
theorem is_if {k : MB Z} {a b : List Stmt} {ma mb : SM Z} (hc : IsT Z X c k) (ha : IsB Z X a ma) (hb : IsB Z X b mb) : IsS Z X (.If c a b pos) (sif k ma mb) := ⟨PS.imp (ps_if hc.pt ha.ps hb.ps) fun D σ H ⟨ad, env, T, F, A, fl, env', T', R, e, kk⟩ => by
  unfold sif at e
  cases q : k env T with
  | none => rw [q] at e; cases e
  | some z =>
    obtain ⟨b, e1, t1⟩ := z
    rw [q] at e
    refine ⟨ad, env, T, F, A, b, e1, t1, R, q, fun H' F' A' R' S' => ?_⟩
    cases b with
    | true => exact ⟨ad, e1, t1, F', A', fl, env', T', R', e, fun σ2 H2 F2 A2 R2 S2 => kk σ2 H2 F2 A2 R2 (S'.trans S2)⟩
    | false => exact ⟨ad, e1, t1, F', A', fl, env', T', R', e, fun σ2 H2 F2 A2 R2 S2 => kk σ2 H2 F2 A2 R2 (S'.trans S2)⟩⟩
end

/-! ### targets -/
abbrev G := D → List Sl → Option (List Sl)
def denG (Z : TSys) (is : List Nat) (g : G) : TG := fun v σ H Q => ∃ (ad : Z.Ad) (env : List Sl) (T : Z.T) (F : Hp) (A : List Addr) (d : D) (env' : List Sl),
  Rel Z ad env T F σ H A ∧ Holds (Z.root ad) F d v ∧ g d env = some env' ∧ ∀ σ' A', Rel Z ad env' T F σ' H A' → Stp Z ad A F H A' F H → σ'.length = σ.length → (∀ j, j ∉ is → σ'[j]? = σ[j]?) → Q σ' H
structure IsG (Z : TSys) (X : Cx) (tg : Expr) (is : List Nat) (g : G) : Prop where
  pg : PG X tg (denG Z is g)
theorem PG.imp {X : Cx} {tg : Expr} {t u : TG} (h : PG X tg t) (f : ∀ v σ H Q, u v σ H Q → t v σ H Q) : PG X tg u := ⟨fun pins s σ H v w Q I r q => h.run pins s σ H v w Q I r (f _ _ _ _ q)⟩
abbrev Gs := List D → List Sl → Option (List Sl)
def denGs (Z : TSys) (is : List Nat) (g : Gs) : TGs := fun vs σ H Q => ∃ (ad : Z.Ad) (env : List Sl) (T : Z.T) (F : Hp) (A : List Addr) (ds : List D) (env' : List Sl),
  Rel Z ad env T F σ H A ∧ HoldsL (Z.root ad) F ds vs ∧ g ds env = some env' ∧ ∀ σ' A', Rel Z ad env' T F σ' H A' → Stp Z ad A F H A' F H → σ'.length = σ.length → (∀ j, j ∉ is → σ'[j]? = σ[j]?) → Q σ' H
structure IsGs (Z : TSys) (X : Cx) (tgs : List Expr) (is : List Nat) (g : Gs) : Prop where
  pg : PGs X tgs (denGs Z is g)
theorem PGs.imp {X : Cx} {tg : List Expr} {t u : TGs} (h : PGs X tg t) (f : ∀ v σ H Q, u v σ H Q → t v σ H Q) : PGs X tg u := ⟨fun pins s σ H v w Q I r q => h.run pins s σ H v w Q I r (f _ _ _ _ q)⟩
def gset (i : Nat) : G := fun d env => some (env.set i (.sh d))
def gnil : Gs := fun ds env => match ds with
  | [] => some env
  | _ :: _ => none
def gcons (g : G) (h : Gs) : Gs := fun ds env => match ds with
  | [] => none
  | d :: r => match g d env with
    | some e1 => h r e1
    | none => none
def gtup (n : Nat) (g : Gs) : G := fun d env => match d with
  | .tup ds => if ds.length = n then g ds env else none
  | _ => none
section
variable {Z : TSys} {X : Cx} {pos : Pos}
theorem ig_name {i : Nat} {x : Str} (hN : X.N.Nodup) (hi : X.N[i]? = some x) (hx : Loc X.env.scope x) (hf : X.fn x = true ∨ X.env.scope.names.lookup x = some .local := by first | exact .inl rfl | exact .inr rfl | assumption) : IsG Z X (.Name x pos) [i] (gset i) :=
  ⟨PG.imp (pg_name hN hi hx hf) fun v σ H Q ⟨ad, env, T, F, A, d, env', R, hv, e, k⟩ => by
    simp only [gset, Option.some.injEq] at e
    subst e
    obtain ⟨A', R', S'⟩ := R.setSh i hv
    refine k _ A' R' S' (by simp) fun j hj => ?_
    rw [List.getElem?_set_ne]
    simpa using fun z => hj (by simp [z])⟩
theorem igs_nil : IsGs Z X [] [] gnil := ⟨PGs.imp pgs_nil fun v σ H Q ⟨ad, env, T, F, A, ds, env', R, hv, e, k⟩ => by
  cases ds with
  | nil =>
    simp only [gnil, Option.some.injEq] at e
    subst e
    simp only [HoldsL] at hv
    exact ⟨hv, k σ A R Stp.refl rfl fun _ _ => rfl⟩
  | cons d ds => cases e⟩
theorem igs_cons {e : Expr} {es : List Expr} {is js : List Nat} {g : G} {h : Gs} (h1 : IsG Z X e is g) (h2 : IsGs Z X es js h) (hs : (assignEach (e :: es) X.env).map (·.2) = assign e X.env :: (assignEach es X.env).map (·.2) := by rfl) : IsGs Z X (e :: es) (is ++ js) (gcons g h) :=
  ⟨PGs.imp (pgs_cons h1.pg h2.pg hs) fun v σ H Q ⟨ad, env, T, F, A, ds, env', R, hv, e, k⟩ => by
    cases ds with
    | nil => cases e
    | cons d ds =>
      simp only [gcons] at e
      simp only [HoldsL] at hv
      obtain ⟨v0, r, rfl, hv0, hr⟩ := hv
      cases q : g d env with
      | none => rw [q] at e; cases e
      | some e1 =>
        rw [q] at e
        refine ⟨v0, r, rfl, ad, env, T, F, A, d, e1, R, hv0, q, fun σ' A' R' S' l1 o1 => ?_⟩
        refine ⟨ad, e1, T, F, A', ds, env', R', hr, e, fun σ2 A2 R2 S2 l2 o2 => k σ2 A2 R2 (S'.trans S2) (l2.trans l1) fun j hj => ?_⟩
        exact (o2 j fun z => hj (List.mem_append_right _ z)).trans (o1 j fun z => hj (List.mem_append_left _ z))⟩
theorem ig_tup {es : List Expr} {k n : Nat} {is : List Nat} {g : Gs} (hc : X.calm = true) (h : IsGs Z X es is g) (hn : (assignEach es X.env).length = n := by rfl) (hst : (assignEach es X.env).findIdx? (·.1) = none := by rfl) : IsG Z X (.Tuple es k pos) is (gtup n g) :=
  ⟨PG.imp (pg_tup hc h.pg hn hst) fun v σ H Q ⟨ad, env, T, F, A, d, env', R, hv, e, kk⟩ => by
    cases d with
    | tup ds =>
      simp only [gtup] at e
      simp only [Holds] at hv
      obtain ⟨a, vs, rfl, fa, hl⟩ := hv
      by_cases q : ds.length = n
      · rw [if_pos q] at e
        exact ⟨a, vs, rfl, (fa.mono R.same).sq, by rw [hl.length, q], ad, env, T, F, A, ds, env', R, hl, e, kk⟩
      · rw [if_neg q] at e; cases e
    | _ => cases e⟩
/-- target = value -/
def sasg {Z : TSys} (g : G) (m : M Z) : SM Z := fun e t => match m e t with
  | some (d, e1, t1) => match g d e1 with
    | some e2 => some (.nx, e2, t1)
    | none => none
  | none => none
theorem is_asg {tg e : Expr} {is : List Nat} {g : G} {m : M Z} (he : IsE Z X e m) (hg : IsG Z X tg is g) (hs : swapsWithSole [tg] e pos.line X.env = pure false := by rfl) (hw : swappedStores [tg] e X.env = pure none := by rfl)
    (h1 : (assignEach [tg] X.env).map (·.2) = [assign tg X.env] := by rfl) : IsS Z X (.Assign [tg] e pos) (sasg g m) := ⟨PS.imp (ps_asg he.pe hg.pg hs hw h1) fun D σ H ⟨ad, env, T, F, A, fl, env', T', R, e, k⟩ => by
  unfold sasg at e
  cases q : m env T with
  | none => rw [q] at e; cases e
  | some z =>
    obtain ⟨d, e1, t1⟩ := z
    rw [q] at e
    simp only at e
    cases q2 : g d e1 with
    | none => rw [q2] at e; cases e
    | some e2 =>
      rw [q2] at e
      simp only [Option.some.injEq, Prod.mk.injEq] at e
      obtain ⟨rfl, rfl, rfl⟩ := e
      refine ⟨ad, env, T, F, A, d, e1, t1, R, q, fun v H' F' A' R' S' hv => ?_⟩
      exact ⟨ad, e1, t1, F', A', d, e2, R', hv, q2, fun σ2 A2 R2 S2 _ _ => k σ2 H' F' A2 R2 (S'.trans S2)⟩⟩
end

/-! ### what is walked -/
structure Walks (rt : V) (F : Hp) (ds : List D) (J : It) : Prop where
  go : ∀ i H d, Same F H → ds[i]? = some d → J.go i H
  yld : ∀ i H d x H' F2, Same F H → Same F2 H → Same F F2 → ds[i]? = some d → J.yld i H x H' → ∃ F3, New F2 H F3 H' ∧ Holds rt F3 d x
  stop : ∀ i H, Same F H → ds.length ≤ i → J.stop i H
def denI (Z : TSys) (m : ML Z) : TI := fun σ H R => ∃ (ad : Z.Ad) (env : List Sl) (T : Z.T) (F : Hp) (A : List Addr) (ds : List D) (env' : List Sl) (T' : Z.T),
  Rel Z ad env T F σ H A ∧ m env T = some (ds, env', T') ∧ ∀ J H' F' A', Rel Z ad env' T' F' σ H' A' → Stp Z ad A F H A' F' H' → Walks (Z.root ad) F' ds J → R J H'
structure IsI (Z : TSys) (X : Cx) (tg e : Expr) (m : ML Z) : Prop where
  pi : PI X tg e (denI Z m)
theorem PI.imp {X : Cx} {tg e : Expr} {t u : TI} (h : PI X tg e t) (f : ∀ σ H R, u σ H R → t σ H R) : PI X tg e u := ⟨fun pins s σ H R I q => h.run pins s σ H R I (f _ _ _ q)⟩
def signsD (x : Str) : List D := x.cps.toList.map fun c => .str ⟨#[c]⟩
/-- a list, a tuple, a text -/
def iseq {Z : TSys} (m : M Z) : ML Z := fun e t => match m e t with
  | some (.lst ds, e1, t1) => some (ds, e1, t1)
  | some (.tup ds, e1, t1) => some (ds, e1, t1)
  | some (.str x, e1, t1) => some (signsD x, e1, t1)
  | _ => none
def rangeD (lo : Int) (n : Nat) : List D := (List.range n).map fun (k : Nat) => D.int (lo + (k : Int))
def irange1 {Z : TSys} (l : ML Z) : ML Z := fun e t => match l e t with
  | some ([.int j], e1, t1) => if j < 2 ^ 62 ∧ -(2 ^ 62) ≤ j then some (rangeD 0 j.toNat, e1, t1) else none
  | _ => none
def irange2 {Z : TSys} (l : ML Z) : ML Z := fun e t => match l e t with
  | some ([.int i, .int j], e1, t1) => if (i < 2 ^ 62 ∧ -(2 ^ 62) ≤ i) ∧ (j < 2 ^ 62 ∧ -(2 ^ 62) ≤ j) then some (rangeD i (j - i).toNat, e1, t1) else none
  | _ => none
section
variable {X : Cx} {tg : Expr}
def iSeq (K : PySem.W.Frag) (tl : TE) : TI := fun σ H R => tl σ H fun x H1 => (∃ a, x = .ref a ∧ (∃ xs, SqL K H1 a xs) ∧ R (Itl K a) H1) ∨ (∃ a, x = .ref a ∧ (∃ xs, SqT K H1 a xs) ∧ R (Itt K a) H1) ∨ ∃ z, x = .str z ∧ R (Its z) H1
theorem pi_seq {l : Expr} {tl : TE} (hl : PE X l tl) : PI X tg l (iSeq X.K tl) := by
  refine ⟨fun pins s σ H R I h => ?_⟩
  refine thn (hl.run pins s σ H _ I h) fun v s1 ⟨x, H1, I1, r1, q1⟩ => ?_
  rcases q1 with ⟨a, e, ⟨xs, hq⟩, q⟩ | ⟨a, e, ⟨xs, hq⟩, q⟩ | ⟨z, e, q⟩
  · subst e
    cases r1
    obtain ⟨its, rv, p, hz⟩ := I1.list hq
    refine wpAny_pyIter_list p.isList ?_
    refine ⟨s1.heap.objs.size, [s1.heap.objs.size], _, _, H1, rfl, I1.kept (t' := s1.toks) fun b o e => Heap.get?_push_of_some _ e, turn_list a _, ⟨_, Heap.get?_push_size _ rfl, rfl, rfl⟩, fun b hb => ?_, q⟩
    have e : b = s1.heap.objs.size := by simpa using hb
    subst e
    exact I1.fpOk (Nat.le_refl _) (I1.hok.fresh (Nat.le_refl _))
  · subst e
    cases r1
    obtain ⟨its, rv, p, hz⟩ := I1.tuple hq
    refine wpAny_pyIter_tuple (show s1.heap.IsTuple a its.toArray from p) ?_
    refine ⟨s1.heap.objs.size, [s1.heap.objs.size], _, _, H1, rfl, I1.kept (t' := s1.toks) fun b o e => Heap.get?_push_of_some _ e, turn_tuple a _, ⟨_, Heap.get?_push_size _ rfl, rfl, rfl⟩, fun b hb => ?_, q⟩
    have e : b = s1.heap.objs.size := by simpa using hb
    subst e
    exact I1.fpOk (Nat.le_refl _) (I1.hok.fresh (Nat.le_refl _))
  · subst e
    obtain ⟨t, rfl⟩ := r1
    cases ha : z.cps.all (· < 128)
    · exact wpAny_pyIter_wide ha (pi_one (tk := s1.toks) I1 _ (turn_str _ z t "str_iterator" (.inr rfl)) ⟨_, Heap.get?_push_size _ rfl, rfl, rfl⟩ q)
    · exact wpAny_pyIter_ascii ha (pi_one (tk := s1.toks) I1 _ (turn_str _ z t "str_ascii_iterator" (.inl rfl)) ⟨_, Heap.get?_push_size _ rfl, rfl, rfl⟩ q)
end
section
variable {rt : V} {F : Hp}
theorem walks_list {K : PySem.W.Frag} {a : Addr} {ds : List D} {vs : List V} (f : F a = some (.lst vs)) (h : HoldsL rt F ds vs) : Walks rt F ds (Itl K a) := by
  refine ⟨fun i H d s e => ?_, fun i H d x H' F2 s s2 s3 e y => ?_, fun i H s hl => ⟨vs, SqL.of (s _ _ f), by rw [h.length]; exact hl⟩⟩
  · obtain ⟨v, ev, _⟩ := h.get e
    exact ⟨vs, v, SqL.of (s _ _ f), ev⟩
  · obtain ⟨rfl, y⟩ := y
    obtain ⟨v, ev, hv⟩ := h.get e
    have := y vs (SqL.of (s _ _ f))
    rw [ev] at this; cases this
    exact ⟨F2, New.refl s2, hv.mono s3⟩
theorem walks_tup {K : PySem.W.Frag} {a : Addr} {ds : List D} {vs : List V} (f : TupF F a vs) (h : HoldsL rt F ds vs) : Walks rt F ds (Itt K a) := by
  refine ⟨fun i H d s e => ?_, fun i H d x H' F2 s s2 s3 e y => ?_, fun i H s hl => ⟨vs, (f.mono s).sq, by rw [h.length]; exact hl⟩⟩
  · obtain ⟨v, ev, _⟩ := h.get e
    exact ⟨vs, v, (f.mono s).sq, ev⟩
  · obtain ⟨rfl, y⟩ := y
    obtain ⟨v, ev, hv⟩ := h.get e
    have := y vs ((f.mono s).sq)
    rw [ev] at this; cases this
    exact ⟨F2, New.refl s2, hv.mono s3⟩
theorem signsD_length (z : Str) : (signsD z).length = z.cps.size := by simp [signsD]
theorem walks_str {z : Str} : Walks rt F (signsD z) (Its z) := by
  refine ⟨fun i H d s e => ?_, fun i H d x H' F2 s s2 s3 e y => ?_, fun i H s hl => by rw [signsD_length] at hl; exact hl⟩
  · have := (List.getElem?_eq_some_iff.mp e).1
    rw [signsD_length] at this
    exact this
  · obtain ⟨rfl, c, hc, rfl⟩ := y
    refine ⟨F2, New.refl s2, ?_⟩
    have e2 : (signsD z)[i]? = some (.str ⟨#[c]⟩) := by
      unfold signsD
      rw [List.getElem?_map, Array.getElem?_toList, hc]; rfl
    rw [e2] at e; cases e
    simp only [Holds]
theorem rangeD_length (lo : Int) (n : Nat) : (rangeD lo n).length = n := by simp [rangeD]
theorem rangeD_get {lo : Int} {n i : Nat} {d : D} (h : (rangeD lo n)[i]? = some d) : i < n ∧ d = .int (lo + (i : Int)) := by
  have hi := (List.getElem?_eq_some_iff.mp h).1
  rw [rangeD_length] at hi
  unfold rangeD at h
  rw [List.getElem?_map, List.getElem?_range hi] at h
  simp at h
  exact ⟨hi, h.symm⟩
theorem walks_range {lo : Int} {n : Nat} : Walks rt F (rangeD lo n) (Itr lo n) := by
  refine ⟨fun i H d s e => (rangeD_get e).1, fun i H d x H' F2 s s2 s3 e y => ?_, fun i H s hl => by rw [rangeD_length] at hl; exact hl⟩
  obtain ⟨rfl, rfl⟩ := y
  obtain ⟨_, rfl⟩ := rangeD_get e
  exact ⟨F2, New.refl s2, by simp only [Holds]⟩
end
section
variable {Z : TSys} {X : Cx} {tg e a b : Expr} {p pos : Pos}
theorem ii_seq {m : M Z} (h : IsE Z X e m) : IsI Z X tg e (iseq m) := ⟨PI.imp (pi_seq h.pe) fun σ H Rr ⟨ad, env, T, F, A, ds, env', T', R, e, k⟩ => by
  unfold iseq at e
  split at e
  · rename_i ds' e1 t1 q
    simp only [Option.some.injEq, Prod.mk.injEq] at e
    obtain ⟨rfl, rfl, rfl⟩ := e
    refine ⟨ad, env, T, F, A, _, e1, t1, R, q, fun v H' F' A' R' S' hv => .inl ?_⟩
    simp only [Holds] at hv
    obtain ⟨a, vs, rfl, f, hl⟩ := hv
    exact ⟨a, rfl, ⟨vs, SqL.of (R'.same _ _ f)⟩, k _ H' F' A' R' S' (walks_list f hl)⟩
  · rename_i ds' e1 t1 q
    simp only [Option.some.injEq, Prod.mk.injEq] at e
    obtain ⟨rfl, rfl, rfl⟩ := e
    refine ⟨ad, env, T, F, A, _, e1, t1, R, q, fun v H' F' A' R' S' hv => .inr (.inl ?_)⟩
    simp only [Holds] at hv
    obtain ⟨a, vs, rfl, f, hl⟩ := hv
    exact ⟨a, rfl, ⟨vs, (f.mono R'.same).sq⟩, k _ H' F' A' R' S' (walks_tup f hl)⟩
  · rename_i x e1 t1 q
    simp only [Option.some.injEq, Prod.mk.injEq] at e
    obtain ⟨rfl, rfl, rfl⟩ := e
    refine ⟨ad, env, T, F, A, _, e1, t1, R, q, fun v H' F' A' R' S' hv => .inr (.inr ?_)⟩
    simp only [Holds] at hv
    exact ⟨x, hv, k _ H' F' A' R' S' walks_str⟩
  · cases e⟩
theorem ii_range1 {l : ML Z} (hg : Gl X "range") (hm : X.mg "range" = none) (ha : IsL Z X [a] l) (hs : starEach [a] X.env = [(false, eval a X.env)] := by rfl) : IsI Z X tg (.Call (.Name "range" p) [a] [] pos) (irange1 l) := ⟨PI.imp (pi_range1 hg hm ha.pa hs) fun σ H Rr ⟨ad, env, T, F, A, ds, env', T', R, e, k⟩ => by
  unfold irange1 at e
  split at e
  · rename_i j e1 t1 q
    by_cases hj : j < 2 ^ 62 ∧ -(2 ^ 62) ≤ j
    · rw [if_pos hj] at e
      simp only [Option.some.injEq, Prod.mk.injEq] at e
      obtain ⟨rfl, rfl, rfl⟩ := e
      refine ⟨ad, env, T, F, A, _, e1, t1, R, q, fun vs H' F' A' R' S' hv => ?_⟩
      simp only [HoldsL, Holds] at hv
      obtain ⟨v, r, rfl, rfl, rfl⟩ := hv
      exact ⟨j, rfl, hj.2, hj.1, k _ H' F' A' R' S' walks_range⟩
    · rw [if_neg hj] at e; cases e
  · cases e⟩
theorem ii_range2 {l : ML Z} (hg : Gl X "range") (hm : X.mg "range" = none) (ha : IsL Z X [a, b] l) (hs : starEach [a, b] X.env = [(false, eval a X.env), (false, eval b X.env)] := by rfl) (hs2 : starEach [b] X.env = [(false, eval b X.env)] := by rfl) :
    IsI Z X tg (.Call (.Name "range" p) [a, b] [] pos) (irange2 l) := ⟨PI.imp (pi_range2 hg hm ha.pa hs hs2) fun σ H Rr ⟨ad, env, T, F, A, ds, env', T', R, e, k⟩ => by
  unfold irange2 at e
  split at e
  · rename_i i j e1 t1 q
    by_cases hj : (i < 2 ^ 62 ∧ -(2 ^ 62) ≤ i) ∧ (j < 2 ^ 62 ∧ -(2 ^ 62) ≤ j)
    · rw [if_pos hj] at e
      simp only [Option.some.injEq, Prod.mk.injEq] at e
      obtain ⟨rfl, rfl, rfl⟩ := e
      refine ⟨ad, env, T, F, A, _, e1, t1, R, q, fun vs H' F' A' R' S' hv => ?_⟩
      simp only [HoldsL, Holds] at hv
      obtain ⟨v, r, rfl, rfl, v2, r2, rfl, rfl, rfl⟩ := hv
      exact ⟨i, j, rfl, ⟨hj.1.2, hj.1.1, hj.2.2, hj.2.1⟩, k _ H' F' A' R' S' walks_range⟩
    · rw [if_neg hj] at e; cases e
  · cases e⟩
end

/-! ### for -/
def forL {Z : TSys} (g : G) (b : SM Z) : List D → SM Z
  | [], e, t => some (.nx, e, t)
  | d :: ds, e, t => match g d e with
    | some e1 => match b e1 t with
      | some (.nx, e2, t2) => forL g b ds e2 t2
      | some (.ct, e2, t2) => forL g b ds e2 t2
      | some (.bk, e2, t2) => some (.nx, e2, t2)
      | some (.rt r, e2, t2) => some (.rt r, e2, t2)
      | none => none
    | none => none
def sfor {Z : TSys} (src : ML Z) (g : G) (b : SM Z) : SM Z := fun e t => match src e t with
  | some (ds, e1, t1) => forL g b ds e1 t1
  | none => none
theorem is_for {Z : TSys} {X : Cx} {tg iter : Expr} {body : List Stmt} {src : ML Z} {is : List Nat} {g : G} {b : SM Z} {pos : Pos} (hp : PassesOwn (model X.prog X.w) X.A X.env X.xe) (hc : X.calm = true) (hi : IsI Z X tg iter src) (hg : IsG Z X tg is g) (hb : IsB Z X body b)
    (hs : ∀ x, foldedSetIterable iter X.env x = pure x := by intro _; rfl) : IsS Z X (.For tg iter body [] pos) (sfor src g b) := ⟨PS.imp (ps_for hp hc hi.pi hg.pg hb.ps hs) fun D σ H ⟨ad, env, T, F, A, fl, env', T', R, e, k⟩ => by
  unfold sfor at e
  cases q : src env T with
  | none => rw [q] at e; cases e
  | some z =>
    obtain ⟨ds, e1, t1⟩ := z
    rw [q] at e
    refine ⟨ad, env, T, F, A, ds, e1, t1, R, q, fun J H1 F1 A1 R1 S1 wk => ?_⟩
    refine ⟨fun i m σ' H' => m = ds.length - i ∧ ∃ env2 T2 F2 A2, Rel Z ad env2 T2 F2 σ' H' A2 ∧ Stp Z ad A1 F1 H1 A2 F2 H' ∧ forL g b (ds.drop i) env2 T2 = some (fl, env', T'), ⟨ds.length, by simp, e1, t1, F1, A1, R1, Stp.refl, e⟩, ?_⟩
    rintro i m σ2 H2 ⟨rfl, env2, T2, F2, A2, R2, S2, e2⟩
    have sF : Same F1 H2 := S2.sF.trans R2.same
    by_cases hlt : i < ds.length
    · refine .inr ⟨wk.go i H2 ds[i] sF (List.getElem?_eq_getElem hlt), fun σ' H' => ds.length - (i + 1) = ds.length - (i + 1) ∧ ∃ env2 T2 F2 A2, Rel Z ad env2 T2 F2 σ' H' A2 ∧ Stp Z ad A1 F1 H1 A2 F2 H' ∧ forL g b (ds.drop (i + 1)) env2 T2 = some (fl, env', T'), fun σ' H' h => ⟨_, by omega, h⟩, fun x H3 y => ?_⟩
      obtain ⟨F3, n3, hx⟩ := wk.yld i H2 ds[i] x H3 F2 sF R2.same S2.sF (List.getElem?_eq_getElem hlt) y
      obtain ⟨R3, S3⟩ := R2.new n3
      rw [List.drop_eq_getElem_cons hlt] at e2
      simp only [forL] at e2
      cases q3 : g ds[i] env2 with
      | none => rw [q3] at e2; cases e2
      | some e3 =>
        rw [q3] at e2
        simp only at e2
        refine ⟨ad, env2, T2, F3, A2, ds[i], e3, R3, hx, q3, fun σ4 A4 R4 S4 _ _ => ?_⟩
        cases q4 : b e3 T2 with
        | none => rw [q4] at e2; cases e2
        | some z4 =>
          obtain ⟨f4, e4, t4⟩ := z4
          rw [q4] at e2
          refine ⟨ad, e3, T2, F3, A4, f4, e4, t4, R4, q4, fun σ5 H5 F5 A5 R5 S5 => ?_⟩
          have S' := ((S2.trans S3).trans S4).trans S5
          cases f4 with
          | nx => exact ⟨rfl, e4, t4, F5, A5, R5, S', e2⟩
          | ct => exact ⟨rfl, e4, t4, F5, A5, R5, S', e2⟩
          | bk =>
            simp only [Option.some.injEq, Prod.mk.injEq] at e2
            obtain ⟨rfl, rfl, rfl⟩ := e2
            exact k σ5 H5 F5 A5 R5 (S1.trans S')
          | rt r =>
            simp only [Option.some.injEq, Prod.mk.injEq] at e2
            obtain ⟨rfl, rfl, rfl⟩ := e2
            exact k σ5 H5 F5 A5 R5 (S1.trans S')
    · refine .inl ⟨wk.stop i H2 sF (by omega), ?_⟩
      rw [List.drop_eq_nil_of_le (by omega)] at e2
      simp only [forL, Option.some.injEq, Prod.mk.injEq] at e2
      obtain ⟨rfl, rfl, rfl⟩ := e2
      exact k σ2 H2 F2 A2 R2 (S1.trans S2)⟩

/-! ### while -/
def whileL {Z : TSys} (c : MB Z) (b : SM Z) : Nat → SM Z
  | 0, _, _ => none
  | n + 1, e, t => match c e t with
    | some (true, e1, t1) => match b e1 t1 with
      | some (.nx, e2, t2) => whileL c b n e2 t2
      | some (.ct, e2, t2) => whileL c b n e2 t2
      | some (.bk, e2, t2) => some (.nx, e2, t2)
      | some (.rt r, e2, t2) => some (.rt r, e2, t2)
      | none => none
    | some (false, e1, t1) => some (.nx, e1, t1)
    | none => none
theorem is_while {Z : TSys} {X : Cx} {c : Expr} {body : List Stmt} {mc : MB Z} {b : SM Z} {pos : Pos} (n : Nat) (hp : PassesOwn (model X.prog X.w) X.A X.env X.xe) (hc : IsT Z X c mc) (hb : IsB Z X body b) : IsS Z X (.While c body [] pos) (whileL mc b n) :=
  ⟨PS.imp (ps_while hp hc.pt hb.ps) fun D σ H ⟨ad, env, T, F, A, fl, env', T', R, e, k⟩ => by
  refine ⟨fun m σ' H' => ∃ env2 T2 F2 A2, Rel Z ad env2 T2 F2 σ' H' A2 ∧ Stp Z ad A F H A2 F2 H' ∧ whileL mc b m env2 T2 = some (fl, env', T'), ⟨n, env, T, F, A, R, Stp.refl, e⟩, ?_⟩
  rintro m σ2 H2 ⟨env2, T2, F2, A2, R2, S2, e2⟩
  cases m with
  | zero => cases e2
  | succ m =>
    simp only [whileL] at e2
    cases q : mc env2 T2 with
    | none => rw [q] at e2; cases e2
    | some z =>
      obtain ⟨kb, e3, t3⟩ := z
      rw [q] at e2
      refine ⟨ad, env2, T2, F2, A2, kb, e3, t3, R2, q, fun H3 F3 A3 R3 S3 => ?_⟩
      cases kb with
      | false =>
        simp only [Option.some.injEq, Prod.mk.injEq] at e2
        obtain ⟨rfl, rfl, rfl⟩ := e2
        exact k σ2 H3 F3 A3 R3 (S2.trans S3)
      | true =>
        simp only at e2
        refine ⟨fun σ' H' => ∃ env2 T2 F2 A2, Rel Z ad env2 T2 F2 σ' H' A2 ∧ Stp Z ad A F H A2 F2 H' ∧ whileL mc b m env2 T2 = some (fl, env', T'), fun σ' H' h => ⟨m, Nat.lt_succ_self m, h⟩, ?_⟩
        cases q4 : b e3 t3 with
        | none => rw [q4] at e2; cases e2
        | some z4 =>
          obtain ⟨f4, e4, t4⟩ := z4
          rw [q4] at e2
          refine ⟨ad, e3, t3, F3, A3, f4, e4, t4, R3, q4, fun σ5 H5 F5 A5 R5 S5 => ?_⟩
          have S' := (S2.trans S3).trans S5
          cases f4 with
          | nx => exact ⟨e4, t4, F5, A5, R5, S', e2⟩
          | ct => exact ⟨e4, t4, F5, A5, R5, S', e2⟩
          | bk =>
            simp only [Option.some.injEq, Prod.mk.injEq] at e2
            obtain ⟨rfl, rfl, rfl⟩ := e2
            exact k σ5 H5 F5 A5 R5 S'
          | rt r =>
            simp only [Option.some.injEq, Prod.mk.injEq] at e2
            obtain ⟨rfl, rfl, rfl⟩ := e2
            exact k σ5 H5 F5 A5 R5 S'⟩

/-! ### a def's promise from its body -/
def runFn {Z : TSys} (N n : Nat) (m : SM Z) : FnM Z := fun ds T => match m (ds.map .sh ++ List.replicate (N - n) .no) T with
  | some (.rt d, _, T') => some (d, T')
  | some (.nx, _, T') => some (.non, T')
  | _ => none
section
variable {Z : TSys} {P : Program} {w : World} {K : PySem.W.Frag} {mg : Str → Option Value} {base : Heap}
theorem env_start {rt : V} {F H : Hp} (k : Nat) : ∀ {ds : List D} {vs : List V}, HoldsL rt F ds vs → EnvR rt F H (ds.map .sh ++ List.replicate k .no) (vs.map some ++ List.replicate k none) []
  | [], _, h => by
    simp only [HoldsL] at h
    subst h
    simp only [List.map_nil, List.nil_append]
    induction k with
    | zero => exact ⟨rfl, rfl⟩
    | succ k ih => exact ⟨none, _, [], [], rfl, rfl, rfl, ih⟩
  | d :: ds, _, h => by
    simp only [HoldsL] at h
    obtain ⟨v, r, rfl, h1, h2⟩ := h
    exact ⟨some v, _, [], [], rfl, rfl, ⟨rfl, v, rfl, h1⟩, env_start k h2⟩
theorem fn_ok {x qual : Str} {st : Stmt} {f : Addr} {fd : FuncData} {N ps : List Str} {k : Nat} {m : SM Z} (Fu : Fun K x qual st f fd) (S : FnScope N ps (defScope st))
    (h : ∀ (cdv : Value) (A : Around) (outer : List Env) (s : Shared) (H : Hp) (E : XK), Room k (A.deeper (PyProof.Rows.envOfC qual (defScope st) s.heap.objs.size f cdv)) →
      IsB Z (cxOf CX0 P w K mg base N qual (defScope st) f cdv A outer s H E).nox (defBody st) m) : FnOk P w K mg base CX0 (k + 1) f fd ps (spD Z ps.length (runFn N.length ps.length m)) := by
  refine Fu.ok S (fun vs H Q E h => h.1) fun cdv A outer s H vs Q E hr hsp => ?_
  obtain ⟨hl, ad, ds, T, F, r, T', hv, R, e, kk⟩ := hsp
  refine ⟨_, (h cdv A outer s H E hr).ps, ?_⟩
  have hlen : ds.length = ps.length := by rw [← hv.length, hl]
  have hst : L2.start N vs = vs.map some ++ List.replicate (N.length - ps.length) none := by unfold L2.start; rw [hl]
  unfold runFn at e
  have R0 : Rel Z ad (ds.map .sh ++ List.replicate (N.length - ps.length) .no) T F (L2.start N vs) H [] := ⟨R.same, by rw [hst]; exact env_start _ hv, List.nodup_nil, R.tp, R.tf⟩
  split at e
  · rename_i d e1 t1 q
    simp only [Option.some.injEq, Prod.mk.injEq] at e
    obtain ⟨rfl, rfl⟩ := e
    refine ⟨ad, _, T, F, [], .rt d, e1, t1, R0, q, fun σ' H' F' A' R' S' v hv => ?_⟩
    exact kk v H' F' R'.bare ⟨S'.sF, S'.nF, fun a ha => by simp at ha, S'.fr, S'.ex⟩ hv
  · rename_i e1 t1 q
    simp only [Option.some.injEq, Prod.mk.injEq] at e
    obtain ⟨rfl, rfl⟩ := e
    refine ⟨ad, _, T, F, [], .nx, e1, t1, R0, q, fun σ' H' F' A' R' S' => ?_⟩
    exact kk .non H' F' R'.bare ⟨S'.sF, S'.nF, fun a ha => by simp at ha, S'.fr, S'.ex⟩ (by simp only [Holds])
  · cases e
end
end DL

/-! The data layer, 6: comprehensions. -/
namespace DL
open PySem L2

/-! ### the block's own slots: wiped, and back -/
def wipeE (env : List Sl) : List Nat → List Sl
  | [] => env
  | v :: vs => (wipeE env vs).set v .no
def restE (env : List Sl) : List Nat → List Sl → List Sl
  | [], e => e
  | v :: vs, e => restE env vs (e.set v (env.getD v .no))
def restS (σ : L2.St) : List Nat → L2.St → L2.St
  | [], e => e
  | v :: vs, e => restS σ vs (e.set v (σ.getD v none))
/-- none of these slots owns anything -/
def ownOk (env : List Sl) (vs : List Nat) : Bool := vs.all fun v => match env[v]? with
  | some (.ow _ _) => false
  | _ => true
theorem wipe_in {σ : L2.St} {i : Nat} : ∀ {vs : List Nat}, i ∈ vs → (wipe σ vs)[i]? = (if i < σ.length then some none else none)
  | v :: vs, h => by
    unfold wipe
    by_cases e : v = i
    · subst e
      rw [List.getElem?_set, wipe_length]
      simp
    · rw [List.getElem?_set_ne e]
      exact wipe_in (by rcases List.mem_cons.mp h with z | z; exact absurd z.symm e; exact z)
theorem wipe_off {σ : L2.St} {i : Nat} : ∀ {vs : List Nat}, i ∉ vs → (wipe σ vs)[i]? = σ[i]?
  | [], _ => rfl
  | v :: vs, h => by
    unfold wipe
    rw [List.getElem?_set_ne (fun e => h (by simp [e]))]
    exact wipe_off fun z => h (List.mem_cons_of_mem _ z)
/-- slots that agree but at these -/
theorem wipe_agree {σ τ : L2.St} {vs : List Nat} (hl : σ.length = τ.length) (h : ∀ j, j ∉ vs → σ[j]? = τ[j]?) : wipe σ vs = wipe τ vs := by
  apply List.ext_getElem?
  intro i
  by_cases hi : i ∈ vs
  · rw [wipe_in hi, wipe_in hi, hl]
  · rw [wipe_off hi, wipe_off hi, h i hi]
theorem wipe_wipe {σ : L2.St} {vs : List Nat} : wipe (wipe σ vs) vs = wipe σ vs :=
  wipe_agree (wipe_length σ vs) fun j hj => wipe_off hj
theorem restS_length (σ : L2.St) : ∀ (vs : List Nat) (e : L2.St), (restS σ vs e).length = e.length
  | [], _ => rfl
  | v :: vs, e => by unfold restS; rw [restS_length σ vs, List.length_set]
theorem restS_off {σ : L2.St} {i : Nat} : ∀ {vs : List Nat} {e : L2.St}, i ∉ vs → (restS σ vs e)[i]? = e[i]?
  | [], _, _ => rfl
  | v :: vs, e, h => by
    unfold restS
    rw [restS_off fun z => h (List.mem_cons_of_mem _ z), List.getElem?_set_ne fun z => h (by simp [z])]
theorem restS_in {σ : L2.St} {i : Nat} : ∀ {vs : List Nat} {e : L2.St}, i ∈ vs → i < e.length → (restS σ vs e)[i]? = some (σ.getD i none)
  | v :: vs, e, h, hl => by
    unfold restS
    by_cases m : i ∈ vs
    · exact restS_in m (by rw [List.length_set]; exact hl)
    · rw [restS_off m]
      have ev : v = i := by rcases List.mem_cons.mp h with z | z; exact z.symm; exact absurd z m
      subst ev
      rw [List.getElem?_set_self hl]
theorem restS_wipe {σ : L2.St} {vs : List Nat} : restS σ vs (wipe σ vs) = σ := by
  apply List.ext_getElem?
  intro i
  by_cases hi : i ∈ vs
  · by_cases hl : i < σ.length
    · rw [restS_in hi (by rw [wipe_length]; exact hl)]
      rw [List.getD_eq_getElem?_getD, List.getElem?_eq_getElem hl]
      rfl
    · rw [List.getElem?_eq_none (by rw [restS_length, wipe_length]; omega), List.getElem?_eq_none (by omega)]
  · rw [restS_off hi, wipe_off hi]
section
variable {Z : TSys} {ad : Z.Ad} {env : List Sl} {T : Z.T} {F H : Hp} {σ : L2.St} {A : List Addr}
theorem Rel.wipe (R : Rel Z ad env T F σ H A) : ∀ vs : List Nat, ∃ A', Rel Z ad (wipeE env vs) T F (L2.wipe σ vs) H A' ∧ Stp Z ad A F H A' F H
  | [] => ⟨A, R, Stp.refl⟩
  | v :: vs => by
    obtain ⟨A1, R1, S1⟩ := R.wipe vs
    obtain ⟨A2, R2, S2⟩ := R1.setNo v none
    exact ⟨A2, R2, S1.trans S2⟩
/-- back to the outer slots, which own nothing at these places -/
theorem Rel.rest (R : Rel Z ad env T F σ H A) {vs : List Nat} (ok : ownOk env vs = true) {env2 : List Sl} {T2 : Z.T} {F2 H2 : Hp} {A2 : List Addr} (sF : Same F F2) :
    ∀ (us : List Nat) {e : List Sl} {τ : L2.St} {A3 : List Addr}, (∀ v ∈ us, v ∈ vs) → Rel Z ad e T2 F2 τ H2 A3 → ∃ A4, Rel Z ad (restE env us e) T2 F2 (restS σ us τ) H2 A4 ∧ Stp Z ad A3 F2 H2 A4 F2 H2
  | [], e, τ, A3, _, R3 => ⟨A3, R3, Stp.refl⟩
  | v :: us, e, τ, A3, hu, R3 => by
    have step : ∃ A', Rel Z ad (e.set v (env.getD v .no)) T2 F2 (τ.set v (σ.getD v none)) H2 A' ∧ Stp Z ad A3 F2 H2 A' F2 H2 := by
      have okv := List.all_eq_true.mp ok v (hu v List.mem_cons_self)
      cases q : env[v]? with
      | none =>
        rw [List.getD_eq_getElem?_getD, q]
        exact R3.setNo v _
      | some x =>
        rw [List.getD_eq_getElem?_getD, q]
        cases x with
        | no => exact R3.setNo v _
        | ow n d => rw [q] at okv; cases okv
        | sh d =>
          obtain ⟨o, A0, A1, Ab, e1, _, ⟨_, w, ew, hw⟩, _⟩ := R.env.split q
          subst ew
          rw [List.getD_eq_getElem?_getD, e1]
          exact R3.setSh v (hw.mono sF)
    obtain ⟨A4, R4, S4⟩ := step
    obtain ⟨A5, R5, S5⟩ := R.rest ok sF us (fun v hv => hu v (List.mem_cons_of_mem _ hv)) R4 (env2 := env2) (A2 := A2)
    exact ⟨A5, R5, S4.trans S5⟩
end

/-! ### one clause -/
def lcL {Z : TSys} (own : List Nat) (g : G) (tt : MB Z) (el : M Z) : List D → List D → List Sl → Z.T → Option (List D × List Sl × Z.T)
  | [], acc, e, t => some (acc, e, t)
  | d :: ds, acc, e, t => match g d (wipeE e own) with
    | some e1 => match tt e1 t with
      | some (true, e2, t2) => match el e2 t2 with
        | some (y, e3, t3) => lcL own g tt el ds (acc ++ [y]) (wipeE e3 own) t3
        | none => none
      | some (false, e2, t2) => lcL own g tt el ds acc (wipeE e2 own) t2
      | none => none
    | none => none
def byes {Z : TSys} : MB Z := fun e t => some (true, e, t)
def mlc {Z : TSys} (own : List Nat) (src : ML Z) (g : G) (tt : MB Z) (el : M Z) : M Z := fun e t => match src e t with
  | some (ds, e1, t1) => if ownOk e1 own && decide (ds.length ≤ sizeLine) then match lcL own g tt el ds [] (wipeE e1 own) t1 with
    | some (acc, e2, t2) => some (.lst acc, restE e1 own e2, t2)
    | none => none
    else none
  | none => none
structure IsTs (Z : TSys) (X : Cx) (ifs : List Expr) (m : MB Z) : Prop where
  pt : PTs X ifs (denB Z m)
theorem PTs.imp {X : Cx} {ifs : List Expr} {t u : TT} (h : PTs X ifs t) (f : ∀ σ H Q, u σ H Q → t σ H Q) : PTs X ifs u := ⟨fun pins s σ H Q I q => h.run pins s σ H Q I (f _ _ _ q)⟩
theorem its_nil {Z : TSys} {X : Cx} : IsTs Z X [] byes := ⟨PTs.imp pts_nil fun σ H Q ⟨ad, env, T, F, A, r, env', T', R, e, k⟩ => by
  simp only [byes, Option.some.injEq, Prod.mk.injEq] at e
  obtain ⟨rfl, rfl, rfl⟩ := e
  exact k H F A R Stp.refl⟩
theorem its_one {Z : TSys} {X : Cx} {c : Expr} {m : MB Z} (h : IsT Z X c m) : IsTs Z X [c] m := ⟨pts_one h.pt⟩
section
variable {Z : TSys}
/-- L, the new list, is not ours -/
def Out (Z : TSys) (ad : Z.Ad) (L : Addr) (A : List Addr) (F : Hp) : Prop := L ∉ A ∧ F L = none ∧ L ∉ Z.addrs ad
theorem Out.step {ad : Z.Ad} {L : Addr} {A2 A3 : List Addr} {F2 F3 H2 H3 : Hp} {us : List V} (S : Stp Z ad A2 F2 H2 A3 F3 H3) (h : Out Z ad L A2 F2) (h3 : H2 L = some (.lst us)) : Out Z ad L A3 F3 ∧ H3 L = some (.lst us) := by
  obtain ⟨h1, h2, nt⟩ := h
  refine ⟨⟨fun z => ?_, ?_, nt⟩, S.fr L _ h3 h1 nt⟩
  · rcases S.nA L z with w | w
    · exact h1 w
    · rw [h3] at w; cases w
  · cases qq : F3 L with
    | none => rfl
    | some o =>
      rcases S.nF L (by rw [qq]; exact fun z => by cases z) with w | w | w
      · exact absurd h2 w
      · exact absurd w h1
      · rw [h3] at w; cases w
/-- the new list grows -/
theorem Rel.grow {ad : Z.Ad} {env : List Sl} {T : Z.T} {F H : Hp} {σ : L2.St} {A : List Addr} (R : Rel Z ad env T F σ H A) {L : Addr} (o : Out Z ad L A F) (x : HO) : Rel Z ad env T F σ (L2.upd H L x) A := by
  obtain ⟨nm, nF, nT⟩ := o
  refine ⟨fun a o z => ?_, R.env.keep (Same.refl _) fun a ha => ⟨L2.upd_ne fun z => nm (z ▸ ha), (R.at a ha).1⟩, R.nd, Z.loc R.tp fun b hb => L2.upd_ne fun z => nT (z ▸ hb), R.tf⟩
  rw [L2.upd_ne fun w => by rw [w, nF] at z; cases z]
  exact R.same _ _ z
theorem lcL_len {own : List Nat} {g : G} {tt : MB Z} {el : M Z} : ∀ {ds acc : List D} {e : List Sl} {t : Z.T} {r : List D} {e' : List Sl} {t' : Z.T}, lcL own g tt el ds acc e t = some (r, e', t') → acc.length ≤ r.length ∧ r.length ≤ acc.length + ds.length
  | [], acc, e, t, r, e', t', h => by
    simp only [lcL, Option.some.injEq, Prod.mk.injEq] at h
    obtain ⟨rfl, rfl, rfl⟩ := h
    exact ⟨Nat.le_refl _, Nat.le_add_right _ _⟩
  | d :: ds, acc, e, t, r, e', t', h => by
    simp only [lcL] at h
    cases q : g d (wipeE e own) with
    | none => rw [q] at h; cases h
    | some e1 =>
      rw [q] at h
      simp only at h
      cases q2 : tt e1 t with
      | none => rw [q2] at h; cases h
      | some z =>
        obtain ⟨b, e2, t2⟩ := z
        rw [q2] at h
        cases b with
        | false =>
          have := lcL_len h
          simp only [List.length_cons]
          omega
        | true =>
          simp only at h
          cases q3 : el e2 t2 with
          | none => rw [q3] at h; cases h
          | some z3 =>
            obtain ⟨y, e3, t3⟩ := z3
            rw [q3] at h
            have := lcL_len h
            simp only [List.length_append, List.length_cons, List.length_nil] at this ⊢
            omega
/-- the loop of one clause, the new list at L -/
theorem lc_loop {own is : List Nat} {g : G} {tt : MB Z} {el : M Z} (sub : ∀ j ∈ is, j ∈ own) {ad : Z.Ad} {ds : List D} {J : It} {σ : L2.St} {L : Addr} {e1 : List Sl} {t1 : Z.T} {F1 H1 : Hp} {A1 : List Addr} {ac0 acc : List D} {us0 : List V} {e2 : List Sl} {t2 : Z.T} {K : Hp → Prop}
    (R1 : Rel Z ad e1 t1 F1 (L2.wipe σ own) H1 A1) (o1 : Out Z ad L A1 F1) (h1 : H1 L = some (.lst us0)) (hac0 : HoldsL (Z.root ad) F1 ac0 us0) (wk : Walks (Z.root ad) F1 ds J) (hz : acc.length ≤ sizeLine)
    (q : lcL own g tt el ds ac0 e1 t1 = some (acc, e2, t2))
    (hK : ∀ H' F' A' us, Rel Z ad e2 t2 F' (L2.wipe σ own) H' A' → (∀ a o, H1 a = some o → a ∉ A1 → a ∉ Z.addrs ad → a ≠ L → H' a = some o) → Same F1 F' → (∀ a, F' a ≠ none → F1 a ≠ none ∨ a ∈ A1 ∨ H1 a = none) → (∀ a ∈ A', a ∈ A1 ∨ H1 a = none) → (∀ a o, H1 a = some o → ∃ o', H' a = some o') → Out Z ad L A' F' → H' L = some (.lst us) → HoldsL (Z.root ad) F' acc us → K H') :
    ∃ W : Nat → Nat → Hp → Prop, (∃ m, W 0 m H1) ∧ ∀ i m H, W i m H → (J.stop i H ∧ K H) ∨ (J.go i H ∧ ∃ Nx : Hp → Prop, (∀ H', Nx H' → ∃ m', m' < m ∧ W (i + 1) m' H') ∧ ∀ x H', J.yld i H x H' → denG Z is g x (L2.wipe σ own) H' fun σ2 H2 => L2.wipe σ2 own = L2.wipe σ own ∧ denB Z tt σ2 H2 fun b H3 =>
      if b = true then den Z el σ2 H3 fun y H4 => ∃ acc, H4 L = some (.lst acc) ∧ acc.length < sizeLine ∧ Nx (upd H4 L (.lst (acc ++ [y]))) else Nx H3) := by
  let W : Nat → Nat → Hp → Prop := fun i m H' => m = ds.length - i ∧ ∃ (en : List Sl) (T2 : Z.T) (F2 : Hp) (A2 : List Addr) (ac : List D) (us : List V),
    Rel Z ad en T2 F2 (L2.wipe σ own) H' A2 ∧ ((∀ a o, H1 a = some o → a ∉ A1 → a ∉ Z.addrs ad → a ≠ L → H' a = some o) ∧ Same F1 F2 ∧ (∀ a, F2 a ≠ none → F1 a ≠ none ∨ a ∈ A1 ∨ H1 a = none) ∧ (∀ a ∈ A2, a ∈ A1 ∨ H1 a = none) ∧ (∀ a o, H1 a = some o → ∃ o', H' a = some o')) ∧ Out Z ad L A2 F2 ∧ H' L = some (.lst us) ∧ HoldsL (Z.root ad) F2 ac us ∧ lcL own g tt el (ds.drop i) ac en T2 = some (acc, e2, t2)
  have go : ∀ {A2 A3 : List Addr} {F2 F3 H2 H3 : Hp}, (∀ a o, H1 a = some o → a ∉ A1 → a ∉ Z.addrs ad → a ≠ L → H2 a = some o) ∧ Same F1 F2 ∧ (∀ a, F2 a ≠ none → F1 a ≠ none ∨ a ∈ A1 ∨ H1 a = none) ∧ (∀ a ∈ A2, a ∈ A1 ∨ H1 a = none) ∧ (∀ a o, H1 a = some o → ∃ o', H2 a = some o') → Stp Z ad A2 F2 H2 A3 F3 H3 →
      (∀ a o, H1 a = some o → a ∉ A1 → a ∉ Z.addrs ad → a ≠ L → H3 a = some o) ∧ Same F1 F3 ∧ (∀ a, F3 a ≠ none → F1 a ≠ none ∨ a ∈ A1 ∨ H1 a = none) ∧ (∀ a ∈ A3, a ∈ A1 ∨ H1 a = none) ∧ (∀ a o, H1 a = some o → ∃ o', H3 a = some o') := by
    intro A2 A3 F2 F3 H2 H3 ⟨c1, c2, c3, c4, c5⟩ S
    have back : ∀ a, H2 a = none → H1 a = none := fun a e => by
      cases q : H1 a with
      | none => rfl
      | some o => obtain ⟨o', e'⟩ := c5 a o q; rw [e] at e'; cases e'
    refine ⟨fun a o e hA hT hL => S.fr a o (c1 a o e hA hT hL) (fun z => ?_) hT, c2.trans S.sF, fun a ha => ?_, fun a ha => ?_, fun a o e => ?_⟩
    · rcases c4 a z with w | w
      · exact hA w
      · rw [e] at w; cases w
    · rcases S.nF a ha with w | w | w
      · exact c3 a w
      · exact .inr (c4 a w)
      · exact .inr (.inr (back a w))
    · rcases S.nA a ha with w | w
      · exact c4 a w
      · exact .inr (back a w)
    · obtain ⟨o', e'⟩ := c5 a o e
      exact S.ex a o' e'
  refine ⟨W, ⟨ds.length, by simp, e1, t1, F1, A1, ac0, us0, R1, ⟨fun _ _ h _ _ _ => h, Same.refl _, fun _ h => .inl h, fun _ h => .inl h, fun _ o h => ⟨o, h⟩⟩, o1, h1, hac0, q⟩, ?_⟩
  rintro i m H2 ⟨rfl, en, T2, F2, A2, ac, us, R2, c, hap, hDu, hac, e3⟩
  have sF : Same F1 H2 := c.2.1.trans R2.same
  by_cases hlt : i < ds.length
  · refine .inr ⟨wk.go i H2 ds[i] sF (List.getElem?_eq_getElem hlt), fun H' => W (i + 1) (ds.length - (i + 1)) H', fun H' h => ⟨_, by omega, h⟩, fun x H3 y => ?_⟩
    obtain ⟨F3, n3, hx⟩ := wk.yld i H2 ds[i] x H3 F2 sF R2.same c.2.1 (List.getElem?_eq_getElem hlt) y
    obtain ⟨R3, S3⟩ := R2.new n3
    rw [List.drop_eq_getElem_cons hlt] at e3
    simp only [lcL] at e3
    cases q3 : g ds[i] (wipeE en own) with
    | none => rw [q3] at e3; cases e3
    | some e4 =>
      rw [q3] at e3
      simp only at e3
      obtain ⟨A3w, R3w, S3w⟩ := R3.wipe own
      rw [wipe_wipe] at R3w
      refine ⟨ad, wipeE en own, T2, F3, A3w, ds[i], e4, R3w, hx, q3, fun σ4 A4 R4 S4 l4 o4 => ?_⟩
      have eσ : L2.wipe σ4 own = L2.wipe σ own := by
        rw [wipe_agree (τ := L2.wipe σ own) l4 fun j hj => o4 j fun z => hj (sub j z), wipe_wipe]
      refine ⟨eσ, ?_⟩
      have S24 := (S3.trans S3w).trans S4
      cases q4 : tt e4 T2 with
      | none => rw [q4] at e3; cases e3
      | some z4 =>
        obtain ⟨b4, e5, t5⟩ := z4
        rw [q4] at e3
        refine ⟨ad, e4, T2, F3, A4, b4, e5, t5, R4, q4, fun H5 F5 A5 R5 S5 => ?_⟩
        have S25 := S24.trans S5
        cases b4 with
        | false =>
          simp only at e3
          refine iteF ?_
          obtain ⟨A6, R6, S6⟩ := R5.wipe own
          rw [eσ] at R6
          have S26 := S25.trans S6
          obtain ⟨ap, hD6⟩ := hap.step S26 hDu
          exact ⟨rfl, _, _, F5, A6, ac, us, R6, go c S26, ap, hD6, hac.mono S26.sF, e3⟩
        | true =>
          simp only at e3
          refine iteT ?_
          cases q5 : el e5 t5 with
          | none => rw [q5] at e3; cases e3
          | some z5 =>
            obtain ⟨y5, e6, t6⟩ := z5
            rw [q5] at e3
            simp only at e3
            refine ⟨ad, e5, t5, F5, A5, y5, e6, t6, R5, q5, fun v6 H6 F6 A6 R6 S6 hv6 => ?_⟩
            obtain ⟨A7, R7, S7⟩ := R6.wipe own
            rw [eσ] at R7
            have S27 := (S25.trans S6).trans S7
            obtain ⟨ap, hD6⟩ := hap.step S27 hDu
            have hl := (lcL_len e3).1
            simp only [List.length_append, List.length_singleton] at hl
            refine ⟨us, hD6, by rw [hac.length]; omega, ?_⟩
            obtain ⟨c1, c2, c3, c4, c5⟩ := go c S27
            refine ⟨rfl, _, _, F6, A7, ac ++ [y5], us ++ [v6], R7.grow ap _, ⟨fun a o z hA hT hL => ?_, c2, c3, c4, fun a o z => ?_⟩, ap, upd_same, (hac.mono S27.sF).app (.one hv6), e3⟩
            · rw [upd_ne hL]; exact c1 a o z hA hT hL
            · by_cases w : a = L
              · subst w; exact ⟨_, upd_same⟩
              · rw [upd_ne w]; exact c5 a o z
  · refine .inl ⟨wk.stop i H2 sF (by omega), ?_⟩
    rw [List.drop_eq_nil_of_le (by omega)] at e3
    simp only [lcL, Option.some.injEq, Prod.mk.injEq] at e3
    obtain ⟨rfl, rfl, rfl⟩ := e3
    obtain ⟨c1, c2, c3, c4, c5⟩ := c
    exact hK H2 F2 A2 us R2 c1 c2 c3 c4 c5 hap hDu hac
end
section
variable {Z : TSys} {X : Cx}
theorem lc_run {own is : List Nat} {src : ML Z} {g : G} {tt : MB Z} {el : M Z} (sub : ∀ j ∈ is, j ∈ own) {σ : L2.St} {H : Hp} {Q : VK} (h : denO Z 1 (mlc own src g tt el) σ H Q) :
    tLc (denI Z src) (denG Z is g) (denB Z tt) (den Z el) own σ H Q := by
  obtain ⟨ad, env, T, F, A, r, env', T', R, e, k⟩ := h
  unfold mlc at e
  cases q : src env T with
  | none => rw [q] at e; cases e
  | some z =>
    obtain ⟨ds, e1, t1⟩ := z
    rw [q] at e
    simp only at e
    by_cases hok : (ownOk e1 own && decide (ds.length ≤ sizeLine)) = true
    · rw [if_pos hok] at e
      have ok1 : ownOk e1 own = true := (Bool.and_eq_true_iff.mp hok).1
      have ok2 : ds.length ≤ sizeLine := of_decide_eq_true (Bool.and_eq_true_iff.mp hok).2
      cases q2 : lcL own g tt el ds [] (wipeE e1 own) t1 with
      | none => rw [q2] at e; cases e
      | some z2 =>
        obtain ⟨acc, e2, t2⟩ := z2
        rw [q2] at e
        simp only [Option.some.injEq, Prod.mk.injEq] at e
        obtain ⟨rfl, rfl, rfl⟩ := e
        refine ⟨ad, env, T, F, A, ds, e1, t1, R, q, fun J H1 F1 A1 R1 S1 wk L hL => ?_⟩
        obtain ⟨Aw, Rw, Sw⟩ := R1.wipe own
        obtain ⟨RD, SD⟩ := Rw.own hL (.lst [])
        obtain ⟨nD1, nD2⟩ := Rw.notin hL
        have fD : F1 L = none := R1.same.free hL
        refine lc_loop sub RD ⟨nD1, fD, nD2⟩ upd_same .nil wk (by have := (lcL_len q2).2; simp at this; omega) q2 fun H2 F2 A2 us R2 c1 c2 c3 c4 c5 ap hD hac => ?_
        have S2 : Stp Z ad Aw F1 H1 A2 F2 H2 := ⟨c2, fun a ha => ?_, fun a ha => ?_, fun a o e hA hT => ?_, fun a o e => ?_⟩
        · obtain ⟨A4, R4, S4⟩ := R1.rest ok1 c2 own (fun v hv => hv) R2 (env2 := e2) (A2 := A2)
          rw [restS_wipe] at R4
          have S := (S1.trans (Sw.trans S2)).trans S4
          obtain ⟨ap4, hD4⟩ := ap.step S4 hD
          refine k _ H2 F2 A4 [L] R4 S ⟨L, [], rfl, ap4.2.1, rfl, us, hD4, OwnL.ofHolds hac⟩ (by simp) fun a ha => ?_
          have ea : a = L := by simpa using ha
          subst ea
          exact ⟨ap4.1, S1.none hL, nD2⟩
        · rcases c3 a ha with w | w | w
          · exact .inl w
          · exact .inr (.inl w)
          · refine .inr (.inr ?_)
            by_cases z : a = L
            · rw [z]; exact hL
            · rw [upd_ne z] at w; exact w
        · rcases c4 a ha with w | w
          · exact .inl w
          · refine .inr ?_
            by_cases z : a = L
            · rw [z]; exact hL
            · rw [upd_ne z] at w; exact w
        · have ne : a ≠ L := fun z => by rw [z, hL] at e; cases e
          exact c1 a o (by rw [upd_ne ne]; exact e) hA hT ne
        · have ne : a ≠ L := fun z => by rw [z, hL] at e; cases e
          exact c5 a o (by rw [upd_ne ne]; exact e)
    · rw [if_neg hok] at e; cases e
end

/-! ### two clauses -/
def lc2L {Z : TSys} (own own1 : List Nat) (g : G) (tt : MB Z) (src1 : ML Z) (g1 : G) (tt1 : MB Z) (el : M Z) : List D → List D → List Sl → Z.T → Option (List D × List Sl × Z.T)
  | [], acc, e, t => some (acc, e, t)
  | d :: ds, acc, e, t => match g d (wipeE e own) with
    | some e1 => match tt e1 t with
      | some (true, e2, t2) => match src1 e2 t2 with
        | some (ds1, e3, t3) => match lcL own1 g1 tt1 el ds1 acc (wipeE e3 own1) t3 with
          | some (acc', e4, t4) => lc2L own own1 g tt src1 g1 tt1 el ds acc' (wipeE e4 own) t4
          | none => none
        | none => none
      | some (false, e2, t2) => lc2L own own1 g tt src1 g1 tt1 el ds acc (wipeE e2 own) t2
      | none => none
    | none => none
def mlc2 {Z : TSys} (own own1 : List Nat) (src : ML Z) (g : G) (tt : MB Z) (src1 : ML Z) (g1 : G) (tt1 : MB Z) (el : M Z) : M Z := fun e t => match src e t with
  | some (ds, e1, t1) => if ownOk e1 own then match lc2L own own1 g tt src1 g1 tt1 el ds [] (wipeE e1 own) t1 with
    | some (acc, e2, t2) => if acc.length ≤ sizeLine then some (.lst acc, restE e1 own e2, t2) else none
    | none => none
    else none
  | none => none
section
variable {Z : TSys}
theorem lc2L_len {own own1 : List Nat} {g : G} {tt : MB Z} {src1 : ML Z} {g1 : G} {tt1 : MB Z} {el : M Z} : ∀ {ds acc : List D} {e : List Sl} {t : Z.T} {r : List D} {e' : List Sl} {t' : Z.T}, lc2L own own1 g tt src1 g1 tt1 el ds acc e t = some (r, e', t') → acc.length ≤ r.length
  | [], acc, e, t, r, e', t', h => by
    simp only [lc2L, Option.some.injEq, Prod.mk.injEq] at h
    obtain ⟨rfl, rfl, rfl⟩ := h
    exact Nat.le_refl _
  | d :: ds, acc, e, t, r, e', t', h => by
    simp only [lc2L] at h
    cases q : g d (wipeE e own) with
    | none => rw [q] at h; cases h
    | some e1 =>
      rw [q] at h
      simp only at h
      cases q2 : tt e1 t with
      | none => rw [q2] at h; cases h
      | some z =>
        obtain ⟨b, e2, t2⟩ := z
        rw [q2] at h
        cases b with
        | false => exact lc2L_len h
        | true =>
          simp only at h
          cases q3 : src1 e2 t2 with
          | none => rw [q3] at h; cases h
          | some z3 =>
            obtain ⟨ds1, e3, t3⟩ := z3
            rw [q3] at h
            simp only at h
            cases q4 : lcL own1 g1 tt1 el ds1 acc (wipeE e3 own1) t3 with
            | none => rw [q4] at h; cases h
            | some z4 =>
              obtain ⟨acc', e4, t4⟩ := z4
              rw [q4] at h
              exact Nat.le_trans (lcL_len q4).1 (lc2L_len h)
theorem lc2_run {own own1 is is1 : List Nat} {src src1 : ML Z} {g g1 : G} {tt tt1 : MB Z} {el : M Z} (sub : ∀ j ∈ is, j ∈ own) (sub1 : ∀ j ∈ is1, j ∈ own1) (s11 : ∀ j ∈ own1, j ∈ own) {σ : L2.St} {H : Hp} {Q : VK} (h : denO Z 1 (mlc2 own own1 src g tt src1 g1 tt1 el) σ H Q) :
    tLc2 (denI Z src) (denG Z is g) (denB Z tt) (denI Z src1) (denG Z is1 g1) (denB Z tt1) (den Z el) own own1 σ H Q := by
  obtain ⟨ad, env, T, F, A, r, env', T', R, e, k⟩ := h
  unfold mlc2 at e
  cases q : src env T with
  | none => rw [q] at e; cases e
  | some z =>
    obtain ⟨ds, e1, t1⟩ := z
    rw [q] at e
    simp only at e
    by_cases ok1 : ownOk e1 own = true
    · rw [if_pos ok1] at e
      cases q2 : lc2L own own1 g tt src1 g1 tt1 el ds [] (wipeE e1 own) t1 with
      | none => rw [q2] at e; cases e
      | some z2 =>
        obtain ⟨acc, e2, t2⟩ := z2
        rw [q2] at e
        simp only at e
        by_cases ok2 : acc.length ≤ sizeLine
        · rw [if_pos ok2] at e
          simp only [Option.some.injEq, Prod.mk.injEq] at e
          obtain ⟨rfl, rfl, rfl⟩ := e
          refine ⟨ad, env, T, F, A, ds, e1, t1, R, q, fun J H1 F1 A1 R1 S1 wk L hL => ?_⟩
          obtain ⟨Aw, Rw, Sw⟩ := R1.wipe own
          obtain ⟨RD, SD⟩ := Rw.own hL (.lst [])
          obtain ⟨nD1, nD2⟩ := Rw.notin hL
          have fD : F1 L = none := R1.same.free hL
          let W : Nat → Nat → Hp → Prop := fun i m H' => m = ds.length - i ∧ ∃ (en : List Sl) (T2 : Z.T) (F2 : Hp) (A2 : List Addr) (ac : List D) (us : List V),
            Rel Z ad en T2 F2 (L2.wipe σ own) H' A2 ∧ Stp Z ad Aw F1 H1 A2 F2 H' ∧ Out Z ad L A2 F2 ∧ H' L = some (.lst us) ∧ HoldsL (Z.root ad) F2 ac us ∧ lc2L own own1 g tt src1 g1 tt1 el (ds.drop i) ac en T2 = some (acc, e2, t2)
          refine ⟨W, ⟨ds.length, by simp, wipeE e1 own, t1, F1, Aw, [], [], RD, SD, ⟨nD1, fD, nD2⟩, upd_same, .nil, q2⟩, ?_⟩
          rintro i m H2 ⟨rfl, en, T2, F2, A2, ac, us, R2, S2, hap, hDu, hac, e3⟩
          have sF : Same F1 H2 := S2.sF.trans R2.same
          by_cases hlt : i < ds.length
          · refine .inr ⟨wk.go i H2 ds[i] sF (List.getElem?_eq_getElem hlt), fun H' => W (i + 1) (ds.length - (i + 1)) H', fun H' h => ⟨_, by omega, h⟩, fun x H3 y => ?_⟩
            obtain ⟨F3, n3, hx⟩ := wk.yld i H2 ds[i] x H3 F2 sF R2.same S2.sF (List.getElem?_eq_getElem hlt) y
            obtain ⟨R3, S3⟩ := R2.new n3
            rw [List.drop_eq_getElem_cons hlt] at e3
            simp only [lc2L] at e3
            cases q3 : g ds[i] (wipeE en own) with
            | none => rw [q3] at e3; cases e3
            | some e4 =>
              rw [q3] at e3
              simp only at e3
              obtain ⟨A3w, R3w, S3w⟩ := R3.wipe own
              rw [wipe_wipe] at R3w
              refine ⟨ad, wipeE en own, T2, F3, A3w, ds[i], e4, R3w, hx, q3, fun σ4 A4 R4 S4 l4 o4 => ?_⟩
              have eσ : L2.wipe σ4 own = L2.wipe σ own := by
                rw [wipe_agree (τ := L2.wipe σ own) l4 fun j hj => o4 j fun z => hj (sub j z), wipe_wipe]
              refine ⟨eσ, ?_⟩
              have S24 := (S3.trans S3w).trans S4
              cases q4 : tt e4 T2 with
              | none => rw [q4] at e3; cases e3
              | some z4 =>
                obtain ⟨b4, e5, t5⟩ := z4
                rw [q4] at e3
                refine ⟨ad, e4, T2, F3, A4, b4, e5, t5, R4, q4, fun H5 F5 A5 R5 S5 => ?_⟩
                have S25 := S24.trans S5
                cases b4 with
                | false =>
                  simp only at e3
                  refine iteF ?_
                  obtain ⟨A6, R6, S6⟩ := R5.wipe own
                  rw [eσ] at R6
                  have S26 := S25.trans S6
                  obtain ⟨ap, hD6⟩ := hap.step S26 hDu
                  exact ⟨rfl, _, _, F5, A6, ac, us, R6, S2.trans S26, ap, hD6, hac.mono S26.sF, e3⟩
                | true =>
                  simp only at e3
                  refine iteT ?_
                  cases q5 : src1 e5 t5 with
                  | none => rw [q5] at e3; cases e3
                  | some z5 =>
                    obtain ⟨ds1, e6, t6⟩ := z5
                    rw [q5] at e3
                    simp only at e3
                    cases q6 : lcL own1 g1 tt1 el ds1 ac (wipeE e6 own1) t6 with
                    | none => rw [q6] at e3; cases e3
                    | some z6 =>
                      obtain ⟨ac7, e7, t7⟩ := z6
                      rw [q6] at e3
                      simp only at e3
                      refine ⟨ad, e5, t5, F5, A5, ds1, e6, t6, R5, q5, fun J1 H6 F6 A6 R6 S6 wk1 => ?_⟩
                      have S26 := S25.trans S6
                      obtain ⟨ap6, hD6⟩ := hap.step S26 hDu
                      obtain ⟨A6w, R6w, S6w⟩ := R6.wipe own1
                      obtain ⟨ap6w, hD6w⟩ := ap6.step S6w hD6
                      have hl2 := lc2L_len e3
                      have c26 := S2.trans (S26.trans S6w)
                      refine lc_loop sub1 R6w ap6w hD6w (hac.mono S26.sF) wk1 (by omega) q6 fun H8 F8 A8 us8 R8 c1 c2 c3 c4 c5 ap8 hD8 hac8 => ?_
                      obtain ⟨A9, R9, S9⟩ := R8.wipe own
                      have eσ2 : L2.wipe (L2.wipe σ4 own1) own = L2.wipe σ own := by
                        rw [← eσ]
                        exact wipe_agree (wipe_length _ _) fun j hj => wipe_off fun z => hj (s11 j z)
                      rw [eσ2] at R9
                      obtain ⟨ap9, hD9⟩ := ap8.step S9 hD8
                      have S28 : Stp Z ad Aw F1 H1 A8 F8 H8 := ⟨c26.sF.trans c2, fun a ha => ?_, fun a ha => ?_, fun a o e hA hT => ?_, fun a o e => ?_⟩
                      · exact ⟨rfl, _, _, F8, A9, ac7, us8, R9, S28.trans S9, ap9, hD9, hac8, e3⟩
                      · rcases c3 a ha with w | w | w
                        · exact c26.nF a w
                        · exact .inr (c26.nA a w)
                        · exact .inr (.inr (c26.none w))
                      · rcases c4 a ha with w | w
                        · exact c26.nA a w
                        · exact .inr (c26.none w)
                      · refine c1 a o (c26.fr a o e hA hT) (fun z => ?_) hT fun z => by rw [z, hL] at e; cases e
                        rcases c26.nA a z with w | w
                        · exact hA w
                        · rw [e] at w; cases w
                      · obtain ⟨o', e'⟩ := c26.ex a o e
                        exact c5 a o' e'
          · refine .inl ⟨wk.stop i H2 sF (by omega), ?_⟩
            rw [List.drop_eq_nil_of_le (by omega)] at e3
            simp only [lc2L, Option.some.injEq, Prod.mk.injEq] at e3
            obtain ⟨rfl, rfl, rfl⟩ := e3
            obtain ⟨A4, R4, S4⟩ := R1.rest ok1 S2.sF own (fun v hv => hv) R2 (env2 := en) (A2 := A2)
            rw [restS_wipe] at R4
            have S := (S1.trans (Sw.trans S2)).trans S4
            obtain ⟨ap4, hD4⟩ := hap.step S4 hDu
            refine k _ H2 F2 A4 [L] R4 S ⟨L, [], rfl, ap4.2.1, rfl, us, hD4, OwnL.ofHolds hac⟩ (by simp) fun a ha => ?_
            have ea : a = L := by simpa using ha
            subst ea
            exact ⟨ap4.1, S1.none hL, nD2⟩
        · rw [if_neg ok2] at e; cases e
    · rw [if_neg ok1] at e; cases e
end

/-! ### the judgements -/
theorem den_O {Z : TSys} {n : Nat} {m : M Z} {σ : L2.St} {H : Hp} {Q : VK} (h : den Z m σ H Q) : denO Z n m σ H Q := by
  obtain ⟨ad, env, T, F, A, r, env', T', R, e, k⟩ := h
  refine ⟨ad, env, T, F, A, r, env', T', R, e, fun v H' F' A' B R' S' ho nd hB => ?_⟩
  obtain ⟨R2, s2, h2, n2⟩ := R'.frzB ho fun a ha => ⟨(hB a ha).1, (hB a ha).2.2⟩
  refine k v H' _ A' R2 ⟨S'.sF.trans s2, fun a ha => ?_, S'.nA, S'.fr, S'.ex⟩ h2
  rcases n2 a ha with z | z
  · exact S'.nF a z
  · exact .inr (.inr (hB a z).2.1)
section
variable {Z : TSys} {X : Cx} {elt tg iter tg1 iter1 : Expr} {ifs ifs1 : List Expr} {scope : Scope} {own : List (Str × Nat)} {pos spos : Pos} {src src1 : ML Z} {is is1 own1 : List Nat} {g g1 : G} {tt tt1 : MB Z} {el : M Z}
theorem io_lc (own : List (Str × Nat)) (hc : X.calm = true) (hN : X.N.Nodup) (hi : IsI Z X tg iter src) (ok : BlkOk X.N X.env.scope scope own)
    (hg : ∀ (s : Shared) (H : Hp) (C : Addr) (cl : List (Str × Addr)) (fp : List Addr), IsG Z (X.blk s H scope (compEnvC scope cl C X.env) fp) tg is g) (ht : ∀ (s : Shared) (H : Hp) (C : Addr) (cl : List (Str × Addr)) (fp : List Addr), IsTs Z (X.blk s H scope (compEnvC scope cl C X.env) fp) ifs tt)
    (he : ∀ (s : Shared) (H : Hp) (C : Addr) (cl : List (Str × Addr)) (fp : List Addr), IsE Z (X.blk s H scope (compEnvC scope cl C X.env) fp) elt el) (sub : ∀ j ∈ is, j ∈ own.map (·.2) := by decide) (hs : ∀ x, foldedSetIterable iter X.env x = pure x := by intro _; rfl) :
    IsO Z 1 X (.ListComp elt [⟨tg, iter, ifs, 0⟩] scope pos) (mlc (own.map (·.2)) src g tt el) :=
  ⟨PE.imp (pe_lc hc hN hi.pi ok (fun s H C cl fp => (hg s H C cl fp).pg) (fun s H C cl fp => (ht s H C cl fp).pt) (fun s H C cl fp => (he s H C cl fp).pe) hs) fun σ H Q h => lc_run sub h⟩
theorem is_lcO (own : List (Str × Nat)) {i : Nat} {y : Str} {py : Pos} (hc : X.calm = true) (hN : X.N.Nodup) (hy : X.N[i]? = some y) (hyl : X.env.scope.names.lookup y = some .local)
    (hsw : swapsWith (.ListComp elt [⟨tg, iter, ifs, 0⟩] scope pos) (some (.Name y py)) spos.line X.env = pure true) (hi : IsI Z X tg iter src) (ok : BlkOk X.N X.env.scope scope own)
    (hg : ∀ (s : Shared) (H : Hp) (C : Addr) (cl : List (Str × Addr)) (fp : List Addr), IsG Z (X.blk s H scope (compEnvC scope cl C X.env) fp) tg is g) (ht : ∀ (s : Shared) (H : Hp) (C : Addr) (cl : List (Str × Addr)) (fp : List Addr), IsTs Z (X.blk s H scope (compEnvC scope cl C X.env) fp) ifs tt)
    (he : ∀ (s : Shared) (H : Hp) (C : Addr) (cl : List (Str × Addr)) (fp : List Addr), IsE Z (X.blk s H scope (compEnvC scope cl C X.env) fp) elt el) (sub : ∀ j ∈ is, j ∈ own.map (·.2) := by decide) (hs : ∀ x, foldedSetIterable iter X.env x = pure x := by intro _; rfl) :
    IsS Z X (.Assign [.Name y py] (.ListComp elt [⟨tg, iter, ifs, 0⟩] scope pos) spos) (ssetO i 1 (mlc (own.map (·.2)) src g tt el)) :=
  ⟨PS.imp (ps_setLc hc hN hy hyl hsw hi.pi ok (fun s H C cl fp => (hg s H C cl fp).pg) (fun s H C cl fp => (ht s H C cl fp).pt) (fun s H C cl fp => (he s H C cl fp).pe) hs) fun D σ H h => setO_core (fun _ _ _ h => lc_run sub h) h⟩
theorem is_lc (own : List (Str × Nat)) {i : Nat} {y : Str} {py : Pos} (hc : X.calm = true) (hN : X.N.Nodup) (hy : X.N[i]? = some y) (hyl : X.env.scope.names.lookup y = some .local)
    (hsw : swapsWith (.ListComp elt [⟨tg, iter, ifs, 0⟩] scope pos) (some (.Name y py)) spos.line X.env = pure true) (hi : IsI Z X tg iter src) (ok : BlkOk X.N X.env.scope scope own)
    (hg : ∀ (s : Shared) (H : Hp) (C : Addr) (cl : List (Str × Addr)) (fp : List Addr), IsG Z (X.blk s H scope (compEnvC scope cl C X.env) fp) tg is g) (ht : ∀ (s : Shared) (H : Hp) (C : Addr) (cl : List (Str × Addr)) (fp : List Addr), IsTs Z (X.blk s H scope (compEnvC scope cl C X.env) fp) ifs tt)
    (he : ∀ (s : Shared) (H : Hp) (C : Addr) (cl : List (Str × Addr)) (fp : List Addr), IsE Z (X.blk s H scope (compEnvC scope cl C X.env) fp) elt el) (sub : ∀ j ∈ is, j ∈ own.map (·.2) := by decide) (hs : ∀ x, foldedSetIterable iter X.env x = pure x := by intro _; rfl) :
    IsS Z X (.Assign [.Name y py] (.ListComp elt [⟨tg, iter, ifs, 0⟩] scope pos) spos) (sset i (mlc (own.map (·.2)) src g tt el)) :=
  ⟨PS.imp (ps_setLc hc hN hy hyl hsw hi.pi ok (fun s H C cl fp => (hg s H C cl fp).pg) (fun s H C cl fp => (ht s H C cl fp).pt) (fun s H C cl fp => (he s H C cl fp).pe) hs) fun D σ H h => set_core (fun _ _ _ h => lc_run sub (den_O h)) h⟩
theorem io_lc2 (own : List (Str × Nat)) (own1 : List Nat) (hc : X.calm = true) (hN : X.N.Nodup) (hi : IsI Z X tg iter src) (ok : BlkOk X.N X.env.scope scope own) (s11 : ∀ j ∈ own1, j ∈ own.map (·.2))
    (hg : ∀ (s : Shared) (H : Hp) (C : Addr) (cl : List (Str × Addr)) (fp : List Addr), IsG Z (X.blk s H scope (compEnvC scope cl C X.env) fp) tg is g) (ht : ∀ (s : Shared) (H : Hp) (C : Addr) (cl : List (Str × Addr)) (fp : List Addr), IsTs Z (X.blk s H scope (compEnvC scope cl C X.env) fp) ifs tt)
    (hi1 : ∀ (s : Shared) (H : Hp) (C : Addr) (cl : List (Str × Addr)) (fp : List Addr), IsI Z (X.blk s H scope (compEnvC scope cl C X.env) fp) tg1 iter1 src1)
    (hg1 : ∀ (s : Shared) (H : Hp) (C : Addr) (cl : List (Str × Addr)) (fp : List Addr), IsG Z (X.blk s H scope (compEnvC scope cl C X.env) fp) tg1 is1 g1) (ht1 : ∀ (s : Shared) (H : Hp) (C : Addr) (cl : List (Str × Addr)) (fp : List Addr), IsTs Z (X.blk s H scope (compEnvC scope cl C X.env) fp) ifs1 tt1)
    (he : ∀ (s : Shared) (H : Hp) (C : Addr) (cl : List (Str × Addr)) (fp : List Addr), IsE Z (X.blk s H scope (compEnvC scope cl C X.env) fp) elt el) (sub : ∀ j ∈ is, j ∈ own.map (·.2) := by decide) (sub1 : ∀ j ∈ is1, j ∈ own1 := by decide) (hs : ∀ x, foldedSetIterable iter X.env x = pure x := by intro _; rfl) (hs1 : ∀ env x, foldedSetIterable iter1 env x = pure x := by intro _ _; rfl) :
    IsO Z 1 X (.ListComp elt [⟨tg, iter, ifs, 0⟩, ⟨tg1, iter1, ifs1, 0⟩] scope pos) (mlc2 (own.map (·.2)) own1 src g tt src1 g1 tt1 el) :=
  ⟨PE.imp (pe_lc2 hc hN hi.pi ok s11 (fun s H C cl fp => (hg s H C cl fp).pg) (fun s H C cl fp => (ht s H C cl fp).pt) (fun s H C cl fp => (hi1 s H C cl fp).pi) (fun s H C cl fp => (hg1 s H C cl fp).pg) (fun s H C cl fp => (ht1 s H C cl fp).pt) (fun s H C cl fp => (he s H C cl fp).pe) hs hs1) fun σ H Q h => lc2_run sub sub1 s11 h⟩
theorem is_lc2 (own : List (Str × Nat)) (own1 : List Nat) {i : Nat} {y : Str} {py : Pos} (hc : X.calm = true) (hN : X.N.Nodup) (hy : X.N[i]? = some y) (hyl : X.env.scope.names.lookup y = some .local)
    (hsw : swapsWith (.ListComp elt [⟨tg, iter, ifs, 0⟩, ⟨tg1, iter1, ifs1, 0⟩] scope pos) (some (.Name y py)) spos.line X.env = pure true) (hi : IsI Z X tg iter src) (ok : BlkOk X.N X.env.scope scope own) (s11 : ∀ j ∈ own1, j ∈ own.map (·.2))
    (hg : ∀ (s : Shared) (H : Hp) (C : Addr) (cl : List (Str × Addr)) (fp : List Addr), IsG Z (X.blk s H scope (compEnvC scope cl C X.env) fp) tg is g) (ht : ∀ (s : Shared) (H : Hp) (C : Addr) (cl : List (Str × Addr)) (fp : List Addr), IsTs Z (X.blk s H scope (compEnvC scope cl C X.env) fp) ifs tt)
    (hi1 : ∀ (s : Shared) (H : Hp) (C : Addr) (cl : List (Str × Addr)) (fp : List Addr), IsI Z (X.blk s H scope (compEnvC scope cl C X.env) fp) tg1 iter1 src1)
    (hg1 : ∀ (s : Shared) (H : Hp) (C : Addr) (cl : List (Str × Addr)) (fp : List Addr), IsG Z (X.blk s H scope (compEnvC scope cl C X.env) fp) tg1 is1 g1) (ht1 : ∀ (s : Shared) (H : Hp) (C : Addr) (cl : List (Str × Addr)) (fp : List Addr), IsTs Z (X.blk s H scope (compEnvC scope cl C X.env) fp) ifs1 tt1)
    (he : ∀ (s : Shared) (H : Hp) (C : Addr) (cl : List (Str × Addr)) (fp : List Addr), IsE Z (X.blk s H scope (compEnvC scope cl C X.env) fp) elt el) (sub : ∀ j ∈ is, j ∈ own.map (·.2) := by decide) (sub1 : ∀ j ∈ is1, j ∈ own1 := by decide) (hs : ∀ x, foldedSetIterable iter X.env x = pure x := by intro _; rfl) (hs1 : ∀ env x, foldedSetIterable iter1 env x = pure x := by intro _ _; rfl) :
    IsS Z X (.Assign [.Name y py] (.ListComp elt [⟨tg, iter, ifs, 0⟩, ⟨tg1, iter1, ifs1, 0⟩] scope pos) spos) (sset i (mlc2 (own.map (·.2)) own1 src g tt src1 g1 tt1 el)) :=
  ⟨PS.imp (ps_setLc2 hc hN hy hyl hsw hi.pi ok s11 (fun s H C cl fp => (hg s H C cl fp).pg) (fun s H C cl fp => (ht s H C cl fp).pt) (fun s H C cl fp => (hi1 s H C cl fp).pi) (fun s H C cl fp => (hg1 s H C cl fp).pg) (fun s H C cl fp => (ht1 s H C cl fp).pt) (fun s H C cl fp => (he s H C cl fp).pe) hs hs1) fun D σ H h => set_core (fun _ _ _ h => lc2_run sub sub1 s11 (den_O h)) h⟩
end
end DL

/-! The data layer, 7: pure operations. -/
namespace DL
open PySem L2

/-! ### helpers -/
def intsD : List D → Option (List Int)
  | [] => some []
  | .int i :: r => match intsD r with
    | some l => some (i :: l)
    | none => none
  | _ :: _ => none
def blsD : List D → Option (List Bool)
  | [] => some []
  | .bl i :: r => match blsD r with
    | some l => some (i :: l)
    | none => none
  | _ :: _ => none
def strsD : List D → Option (List Str)
  | [] => some []
  | .str i :: r => match strsD r with
    | some l => some (i :: l)
    | none => none
  | _ :: _ => none
@[simp] theorem intsD_map (ns : List Int) : intsD (ns.map .int) = some ns := by induction ns with | nil => rfl | cons a r ih => simp [intsD, ih]
@[simp] theorem blsD_map (ns : List Bool) : blsD (ns.map .bl) = some ns := by induction ns with | nil => rfl | cons a r ih => simp [blsD, ih]
@[simp] theorem strsD_map (ns : List Str) : strsD (ns.map .str) = some ns := by induction ns with | nil => rfl | cons a r ih => simp [strsD, ih]
theorem intsD_inv : ∀ {ds : List D} {ns : List Int}, intsD ds = some ns → ds = ns.map .int
  | [], _, h => by simp only [intsD, Option.some.injEq] at h; subst h; rfl
  | d :: r, ns, h => by
    cases d with
    | int i =>
      simp only [intsD] at h
      cases q : intsD r with
      | none => rw [q] at h; cases h
      | some l => rw [q] at h; simp only [Option.some.injEq] at h; subst h; rw [intsD_inv q]; rfl
    | _ => cases h
theorem blsD_inv : ∀ {ds : List D} {ns : List Bool}, blsD ds = some ns → ds = ns.map .bl
  | [], _, h => by simp only [blsD, Option.some.injEq] at h; subst h; rfl
  | d :: r, ns, h => by
    cases d with
    | bl i =>
      simp only [blsD] at h
      cases q : blsD r with
      | none => rw [q] at h; cases h
      | some l => rw [q] at h; simp only [Option.some.injEq] at h; subst h; rw [blsD_inv q]; rfl
    | _ => cases h
theorem strsD_inv : ∀ {ds : List D} {ns : List Str}, strsD ds = some ns → ds = ns.map .str
  | [], _, h => by simp only [strsD, Option.some.injEq] at h; subst h; rfl
  | d :: r, ns, h => by
    cases d with
    | str i =>
      simp only [strsD] at h
      cases q : strsD r with
      | none => rw [q] at h; cases h
      | some l => rw [q] at h; simp only [Option.some.injEq] at h; subst h; rw [strsD_inv q]; rfl
    | _ => cases h
section
variable {rt : V} {F H : Hp}
theorem holds_ints : ∀ {ns : List Int} {vs : List V}, HoldsL rt F (ns.map .int) vs → vs = ns.map V.int
  | [], _, h => by simpa only [List.map_nil, HoldsL] using h
  | n :: r, _, h => by
    simp only [List.map_cons, HoldsL, Holds] at h
    obtain ⟨v, t, rfl, rfl, h⟩ := h
    rw [holds_ints h]; rfl
theorem holds_bls : ∀ {ns : List Bool} {vs : List V}, HoldsL rt F (ns.map .bl) vs → vs = ns.map V.bl
  | [], _, h => by simpa only [List.map_nil, HoldsL] using h
  | n :: r, _, h => by
    simp only [List.map_cons, HoldsL, Holds] at h
    obtain ⟨v, t, rfl, rfl, h⟩ := h
    rw [holds_bls h]; rfl
theorem holds_strs : ∀ {ns : List Str} {vs : List V}, HoldsL rt F (ns.map .str) vs → vs = ns.map V.str
  | [], _, h => by simpa only [List.map_nil, HoldsL] using h
  | n :: r, _, h => by
    simp only [List.map_cons, HoldsL, Holds] at h
    obtain ⟨v, t, rfl, rfl, h⟩ := h
    rw [holds_strs h]; rfl
theorem hbl1 {d : D} {vs : List V} (h : HBL rt F H [d] vs) : ∃ v, vs = [v] ∧ HB rt F H d v := by
  obtain ⟨v, r, rfl, h1, rfl⟩ := h
  exact ⟨v, rfl, h1⟩
theorem hbl2 {d e : D} {vs : List V} (h : HBL rt F H [d, e] vs) : ∃ v w, vs = [v, w] ∧ HB rt F H d v ∧ HB rt F H e w := by
  obtain ⟨v, r, rfl, h1, w, r2, rfl, h2, rfl⟩ := h
  exact ⟨v, w, rfl, h1, h2⟩
theorem HB.int {i : Int} {v : V} (h : HB rt F H (.int i) v) : v = .int i := by simpa only [HB, Holds] using h
theorem HB.bl {i : Bool} {v : V} (h : HB rt F H (.bl i) v) : v = .bl i := by simpa only [HB, Holds] using h
theorem HB.str {i : Str} {v : V} (h : HB rt F H (.str i) v) : v = .str i := by simpa only [HB, Holds] using h
theorem HB.non {v : V} (h : HB rt F H .non v) : v = .non := by simpa only [HB, Holds] using h
theorem HB.tup {ds : List D} {v : V} (h : HB rt F H (.tup ds) v) : ∃ a vs, v = .ref a ∧ TupF F a vs ∧ HoldsL rt F ds vs := by simpa only [HB, Holds] using h
theorem HB.lst {ds : List D} {v : V} (h : HB rt F H (.lst ds) v) : ∃ a vs, v = .ref a ∧ H a = some (.lst vs) ∧ HoldsL rt F ds vs := h
/-- a list or a tuple -/
theorem HB.seq {K : PySem.W.Frag} (s : Same F H) {d : D} {ds : List D} {v : V} (h : HB rt F H d v) (e : d = .lst ds ∨ d = .tup ds) : ∃ a vs, v = .ref a ∧ (SqL K H a vs ∨ SqT K H a vs) ∧ HoldsL rt F ds vs := by
  rcases e with rfl | rfl
  · obtain ⟨a, vs, e, f, l⟩ := h.lst
    exact ⟨a, vs, e, .inl (SqL.of f), l⟩
  · obtain ⟨a, vs, e, f, l⟩ := h.tup
    exact ⟨a, vs, e, .inr (f.mono s).sq, l⟩
end
/-- a result without a new object -/
theorem fin0 {rt : V} {F H : Hp} {d : D} {v : V} {Q : VK} (s : Same F H) (k : ∀ v F' H', New F H F' H' → Holds rt F' d v → Q v H') (h : Holds rt F d v) : Q v H := k v F H (New.refl s) h

/-! ### a new tuple, its object known -/
theorem TupF.new {F : Hp} {p : Addr} {o : Obj} {vs : List V} (ho : o.dict = none) : TupF (upd F p (.frz o (.tup vs))) p vs := ⟨o, upd_same, ho⟩
theorem finT {rt : V} {F H : Hp} {ds : List D} {vs : List V} {Q : VK} {p : Addr} {o : Obj} (s : Same F H) (k : ∀ v F' H', New F H F' H' → Holds rt F' (.tup ds) v → Q v H') (hp : H p = none) (ho : o.dict = none) (h : HoldsL rt F ds vs) :
    Q (.ref p) (upd H p (.frz o (.tup vs))) := k _ _ _ (New.upd s hp _) (by
  simp only [Holds]
  exact ⟨p, vs, rfl, TupF.new ho, h.mono (New.upd s hp _).sF⟩)
section
variable {X : Cx}
def rCatF (K : PySem.W.Frag) : R2 := fun x y H Q => ∃ a b xs ys, x = .ref a ∧ y = .ref b ∧ SqT K H a xs ∧ SqT K H b ys ∧ xs.length + ys.length ≤ sizeLine ∧
  (xs = [] → Q (.ref b) H) ∧ (xs ≠ [] → ys = [] → Q (.ref a) H) ∧ (xs ≠ [] → ys ≠ [] → ∀ p o, H p = none → o.dict = none → Q (.ref p) (upd H p (.frz o (.tup (xs ++ ys)))))
theorem op_catF : OpR X (binaryOp .Add) (rCatF X.K) := by
  intro pins s σ H x y v u Q I rx ry h
  obtain ⟨a, b, xs, ys, rfl, rfl, ha, hb, hz, q0, q1, q2⟩ := h
  cases rx
  cases ry
  obtain ⟨its, r1, p1, _⟩ := I.tuple ha
  obtain ⟨its2, r2, p2, _⟩ := I.tuple hb
  by_cases hx : xs = []
  · subst hx
    cases r1
    exact cat_tup0 p1 p2 ⟨.ref b, H, I, rfl, q0 rfl⟩
  · refine HT.cat_tup p1 p2 (fun z => hx (r1.nil_iff.mp z)) (fun z => ⟨.ref a, H, I, rfl, q1 hx (r2.nil_iff.mp z)⟩) (fun z => ?_) (by rw [← r1.length, ← r2.length]; exact hz)
    exact ⟨.ref s.heap.objs.size, _, laidT I (r1.append r2) (by rw [List.length_append]; exact hz) s.toks, rfl, q2 hx (fun w => z (r2.nil_iff.mpr w)) _ _ (I.hok.fresh (Nat.le_refl _)) rfl⟩
def rSlF (K : PySem.W.Frag) : V → Option Int → Option Int → Hp → VK → Prop := fun x lo hi H Q => ∃ a xs, x = .ref a ∧ SqT K H a xs ∧
  (cutV xs lo hi = xs → Q (.ref a) H) ∧ (∀ p o, H p = none → o.dict = none → Q (.ref p) (upd H p (.frz o (.tup (cutV xs lo hi)))))
theorem sl_tupF : L2.SlR X (rSlF X.K) := by
  intro pins s σ H x v vl vu lo hi sl Q I rx hs pl pu h
  obtain ⟨a, xs, rfl, hx, q1, q2⟩ := h
  cases rx
  obtain ⟨its, r, ht, hz⟩ := I.tuple hx
  have hlen : its.toArray.size = xs.length := by rw [List.size_toArray]; exact r.length.symm
  refine ⟨"tuple", _, PyProof.Rows.slot_tuple_getitem.lookup, ht.typeIs, ?_⟩
  by_cases hw : HT.sIx xs.length 0 lo = 0 ∧ HT.sIx xs.length xs.length hi = xs.length
  · refine getItem_tuple_whole ht hs pl pu (by rw [hlen]; exact hw) ⟨.ref a, H, I, rfl, q1 ?_⟩
    unfold cutV
    rw [hw.1, hw.2]; simp
  · refine HT.getItem_tuple_cut ht hs pl pu (by rw [hlen]; exact hw) ?_ (by rw [hlen]; exact hz)
    rw [hlen]
    exact ⟨.ref s.heap.objs.size, _, laidT I ((r.drop (HT.sIx xs.length 0 lo)).take (HT.sIx xs.length xs.length hi - HT.sIx xs.length 0 lo)) (Nat.le_trans (cutV_length xs lo hi) hz) s.toks, rfl, q2 _ _ (I.hok.fresh (Nat.le_refl _)) rfl⟩
theorem call_tuple_F : CallR X (.type "tuple") (fun xs H Q => ∃ p ys, xs = [.ref p] ∧ ((SqL X.K H p ys ∧ ∀ l o, H l = none → o.dict = none → Q (.ref l) (upd H l (.frz o (.tup ys)))) ∨ (SqT X.K H p ys ∧ Q (.ref p) H))) := by
  intro pins s σ H xs us Q I r h
  obtain ⟨p, ys, rfl, h⟩ := h
  obtain ⟨u, rfl, rx⟩ := vals1 r
  cases rx
  rcases h with ⟨hq, q⟩ | ⟨hq, q⟩
  · obtain ⟨its, r', pl, hz⟩ := I.list hq
    have hlen := r'.length
    refine PySem.call_tuple_list pl.isList (fun h' kp => ?_) (by simp only [List.size_toArray] <;> omega)
    have I1 : Inv X pins σ H { s with heap := h' } := I.kept (t' := s.toks) kp
    exact ⟨.ref h'.objs.size, _, laidT I1 r' hz s.toks, rfl, q _ _ (I1.hok.fresh (Nat.le_refl _)) rfl⟩
  · obtain ⟨its, r', pl, hz⟩ := I.tuple hq
    exact PySem.call_tuple_same pl ⟨.ref p, H, I, rfl, q⟩
end

/-! ### + - * // % -/
def addD : D → D → Option D
  | .int i, .int j => some (.int (i + j))
  | .str x, .str y => if x.length + y.length ≤ sizeLine then some (.str (x ++ y)) else none
  | .tup xs, .tup ys => if xs.length + ys.length ≤ sizeLine then some (.tup (xs ++ ys)) else none
  | .lst xs, .lst ys => if xs.length + ys.length ≤ sizeLine then some (.lst (xs ++ ys)) else none
  | _, _ => none
def catN : D → D → Option (List D)
  | .lst xs, .lst ys => if xs.length + ys.length ≤ sizeLine then some (xs ++ ys) else none
  | _, _ => none
theorem od_cat : OpN rCat catN := by
  intro rt F H dx dy ds x y Q s hx hy e k
  cases dx with
  | lst xs =>
    cases dy with
    | lst ys =>
      simp only [catN] at e
      split at e
      · rename_i hz
        simp only [Option.some.injEq] at e
        subst e
        obtain ⟨a, vs, rfl, f, l⟩ := hx.lst
        obtain ⟨b, us, rfl, f2, l2⟩ := hy.lst
        exact ⟨a, b, vs, us, rfl, rfl, f, f2, by rw [l.length, l2.length]; exact hz, fun p hp => k p _ hp (l.app l2)⟩
      · cases e
    | _ => cases e
  | _ => cases e
def rAddAll (K : PySem.W.Frag) : R2 := fun x y H Q => (rI0 fun i j => .int (i + j)) x y H Q ∨ (∃ i j, x = .str i ∧ y = .str j ∧ i.length + j.length ≤ sizeLine ∧ Q (.str (i ++ j)) H) ∨ rCatF K x y H Q ∨ rCat x y H Q
theorem op_addAll {X : Cx} : OpR X (binaryOp .Add) (rAddAll X.K) := op_add.or (op_add_str.or (op_catF.or op_cat))
theorem od_add {K : PySem.W.Frag} : OpD (rAddAll K) addD := by
  intro rt F H dx dy d x y Q s hx hy e k
  cases dx with
  | int i =>
    cases dy with
    | int j =>
      simp only [addD, Option.some.injEq] at e
      subst e
      exact .inl ⟨i, j, hx.int, hy.int, fin0 s k (by simp only [Holds])⟩
    | _ => cases e
  | str i =>
    cases dy with
    | str j =>
      simp only [addD] at e
      split at e
      · rename_i hz
        simp only [Option.some.injEq] at e
        subst e
        exact .inr (.inl ⟨i, j, hx.str, hy.str, hz, fin0 s k (by simp only [Holds])⟩)
      · cases e
    | _ => cases e
  | tup xs =>
    cases dy with
    | tup ys =>
      simp only [addD] at e
      split at e
      · rename_i hz
        simp only [Option.some.injEq] at e
        subst e
        obtain ⟨a, vs, rfl, f, l⟩ := hx.tup
        obtain ⟨b, us, rfl, f2, l2⟩ := hy.tup
        refine .inr (.inr (.inl ⟨a, b, vs, us, rfl, rfl, (f.mono s).sq, (f2.mono s).sq, by rw [l.length, l2.length]; exact hz, fun e => ?_, fun _ e => ?_, fun _ _ p o hp ho => finT s k hp ho (l.app l2)⟩))
        · subst e
          have : xs = [] := List.eq_nil_of_length_eq_zero l.length.symm
          subst this
          exact fin0 s k (by simp only [Holds]; exact ⟨b, us, rfl, f2, l2⟩)
        · subst e
          have : ys = [] := List.eq_nil_of_length_eq_zero l2.length.symm
          subst this
          rw [List.append_nil] at k
          exact fin0 s k (by simp only [Holds]; exact ⟨a, vs, rfl, f, l⟩)
      · cases e
    | _ => cases e
  | lst xs =>
    cases dy with
    | lst ys =>
      simp only [addD] at e
      refine .inr (.inr (.inr (od_cat.toD rt F H (.lst xs) (.lst ys) d x y Q s hx hy ?_ k)))
      simp only [catN]
      split at e
      · rename_i hz; rw [if_pos hz]; exact e
      · cases e
    | _ => cases e
  | _ => cases e
def subD : D → D → Option D
  | .int i, .int j => some (.int (i - j))
  | _, _ => none
theorem od_sub : OpD (rI0 fun i j => .int (i - j)) subD := by
  intro rt F H dx dy d x y Q s hx hy e k
  cases dx with
  | int i =>
    cases dy with
    | int j =>
      simp only [subD, Option.some.injEq] at e
      subst e
      exact ⟨i, j, hx.int, hy.int, fin0 s k (by simp only [Holds])⟩
    | _ => cases e
  | _ => cases e
def modD : D → D → Option D
  | .int i, .int j => if 0 < j then some (.int (i % j)) else none
  | _, _ => none
theorem od_mod : OpD (rI (fun _ j => 0 < j) fun i j => .int (i % j)) modD := by
  intro rt F H dx dy d x y Q s hx hy e k
  cases dx with
  | int i =>
    cases dy with
    | int j =>
      simp only [modD] at e
      split at e
      · rename_i hj
        simp only [Option.some.injEq] at e
        subst e
        exact ⟨i, j, hx.int, hy.int, hj, fin0 s k (by simp only [Holds])⟩
      · cases e
    | _ => cases e
  | _ => cases e
def divD : D → D → Option D
  | .int i, .int j => if 0 < j ∧ j < 1073741824 then some (.int (i / j)) else none
  | _, _ => none
theorem od_div : OpD (rI CDiv fun i j => .int (i / j)) divD := by
  intro rt F H dx dy d x y Q s hx hy e k
  cases dx with
  | int i =>
    cases dy with
    | int j =>
      simp only [divD] at e
      split at e
      · rename_i hj
        simp only [Option.some.injEq] at e
        subst e
        exact ⟨i, j, hx.int, hy.int, hj, fin0 s k (by simp only [Holds])⟩
      · cases e
    | _ => cases e
  | _ => cases e

/-! ### order and equality -/
def cmpD (p : Int → Int → Bool) : D → D → Option D
  | .int i, .int j => some (.bl (p i j))
  | _, _ => none
theorem od_cmp {p : Int → Int → Bool} : OpD (rI0 fun i j => .bl (p i j)) (cmpD p) := by
  intro rt F H dx dy d x y Q s hx hy e k
  cases dx with
  | int i =>
    cases dy with
    | int j =>
      simp only [cmpD, Option.some.injEq] at e
      subst e
      exact ⟨i, j, hx.int, hy.int, fin0 s k (by simp only [Holds])⟩
    | _ => cases e
  | _ => cases e
def cmpSD (p : List Nat → List Nat → Bool) : D → D → Option D
  | .str i, .str j => some (.bl (p i.cps.toList j.cps.toList))
  | _, _ => none
theorem od_cmpS {p : List Nat → List Nat → Bool} : OpD (fun x y H Q => ∃ i j : Str, x = .str i ∧ y = .str j ∧ Q (.bl (p i.cps.toList j.cps.toList)) H) (cmpSD p) := by
  intro rt F H dx dy d x y Q s hx hy e k
  cases dx with
  | str i =>
    cases dy with
    | str j =>
      simp only [cmpSD, Option.some.injEq] at e
      subst e
      exact ⟨i, j, hx.str, hy.str, fin0 s k (by simp only [Holds])⟩
    | _ => cases e
  | _ => cases e
def leD : D → D → Option D := fun x y => match cmpD (fun i j => decide (i ≤ j)) x y with
  | some d => some d
  | none => cmpSD (fun i j => !decide (j < i)) x y
def ltD : D → D → Option D := fun x y => match cmpD (fun i j => decide (i < j)) x y with
  | some d => some d
  | none => cmpSD (fun i j => decide (i < j)) x y
def gtD : D → D → Option D := fun x y => match cmpD (fun i j => decide (j < i)) x y with
  | some d => some d
  | none => cmpSD (fun i j => decide (j < i)) x y
def geD : D → D → Option D := fun x y => match cmpD (fun i j => decide (j ≤ i)) x y with
  | some d => some d
  | none => cmpSD (fun i j => !decide (i < j)) x y
section
variable {X : Cx}
def rLeA : R2 := fun x y H Q => (rI0 fun i j => .bl (decide (i ≤ j))) x y H Q ∨ (∃ i j : Str, x = .str i ∧ y = .str j ∧ Q (.bl (!decide (j.cps.toList < i.cps.toList))) H)
def rLtA : R2 := fun x y H Q => (rI0 fun i j => .bl (decide (i < j))) x y H Q ∨ (∃ i j : Str, x = .str i ∧ y = .str j ∧ Q (.bl (decide (i.cps.toList < j.cps.toList))) H)
def rGtA : R2 := fun x y H Q => (rI0 fun i j => .bl (decide (j < i))) x y H Q ∨ (∃ i j : Str, x = .str i ∧ y = .str j ∧ Q (.bl (decide (j.cps.toList < i.cps.toList))) H)
def rGeA : R2 := fun x y H Q => (rI0 fun i j => .bl (decide (j ≤ i))) x y H Q ∨ (∃ i j : Str, x = .str i ∧ y = .str j ∧ Q (.bl (!decide (i.cps.toList < j.cps.toList))) H)
theorem op_leA : OpR X (compareOp .LtE) rLeA := op_le.or op_le_str
theorem op_ltA : OpR X (compareOp .Lt) rLtA := op_lt.or op_lt_str
theorem op_gtA : OpR X (compareOp .Gt) rGtA := op_gt.or op_gt_str
theorem op_geA : OpR X (compareOp .GtE) rGeA := op_ge.or op_ge_str
theorem od_le : OpD rLeA leD := od_cmp.or (od_cmpS (p := fun i j => !decide (j < i)))
theorem od_lt : OpD rLtA ltD := od_cmp.or (od_cmpS (p := fun i j => decide (i < j)))
theorem od_gt : OpD rGtA gtD := od_cmp.or (od_cmpS (p := fun i j => decide (j < i)))
theorem od_ge : OpD rGeA geD := od_cmp.or (od_cmpS (p := fun i j => !decide (i < j)))
end
/-- data of plain kinds, at most so deep -/
def okD : Nat → D → Bool
  | _, .non => true
  | _, .bl _ => true
  | _, .int _ => true
  | _, .str x => PyData.strOk x
  | n + 1, .tup xs => xs.all (okD n)
  | n + 1, .lst xs => xs.all (okD n)
  | _, _ => false
mutual
def eqvD : D → D → Bool
  | .non, .non => true
  | .bl a, .bl b => a == b
  | .bl a, .int j => (if a then 1 else 0) == j
  | .int i, .bl b => i == (if b then 1 else 0)
  | .int i, .int j => i == j
  | .str x, .str y => x == y
  | .lst xs, .lst ys => eqvL xs ys
  | .tup xs, .tup ys => eqvL xs ys
  | _, _ => false
def eqvL : List D → List D → Bool
  | [], [] => true
  | x :: xs, y :: ys => eqvD x y && eqvL xs ys
  | _, _ => false
end
mutual
def toPy : D → PyData
  | .non => .none
  | .bl b => .bool b
  | .int i => .int i
  | .str x => .str x
  | .lst xs => .list (toPyL xs)
  | .tup xs => .tuple (toPyL xs)
  | .dic _ _ => .dict []
  | .set _ => .dict []
  | .tape => .dict []
def toPyL : List D → List PyData
  | [] => []
  | x :: xs => toPy x :: toPyL xs
end
theorem toPyL_map : ∀ xs : List D, toPyL xs = xs.map toPy
  | [] => rfl
  | x :: xs => by simp only [toPyL, List.map_cons, toPyL_map xs]
end DL

/-! The data layer, 8: pure operations, further. -/
namespace DL
open PySem L2

/-! ### == != in -/
mutual
theorem eqvD_py : ∀ x y : D, PyData.eqv (toPy x) (toPy y) = eqvD x y
  | .lst xs, y => by
    cases y with
    | lst ys => simp only [toPy, PyData.eqv, eqvD]; exact eqvL_py xs ys
    | _ => simp [toPy, PyData.eqv, eqvD]
  | .tup xs, y => by
    cases y with
    | tup ys => simp only [toPy, PyData.eqv, eqvD]; exact eqvL_py xs ys
    | _ => simp [toPy, PyData.eqv, eqvD]
  | .non, y => by cases y <;> simp [toPy, PyData.eqv, eqvD]
  | .bl _, y => by cases y <;> simp [toPy, PyData.eqv, eqvD]
  | .int _, y => by cases y <;> simp [toPy, PyData.eqv, eqvD]
  | .str _, y => by cases y <;> simp [toPy, PyData.eqv, eqvD]
  | .dic _ _, y => by cases y <;> simp [toPy, PyData.eqv, eqvD]
  | .set _, y => by cases y <;> simp [toPy, PyData.eqv, eqvD]
  | .tape, y => by cases y <;> simp [toPy, PyData.eqv, eqvD]
theorem eqvL_py : ∀ xs ys : List D, PyData.eqvAll (toPyL xs) (toPyL ys) = eqvL xs ys
  | [], [] => by simp [toPyL, PyData.eqvAll, eqvL]
  | [], _ :: _ => by simp [toPyL, PyData.eqvAll, eqvL]
  | _ :: _, [] => by simp [toPyL, PyData.eqvAll, eqvL]
  | x :: xs, y :: ys => by simp only [toPyL, PyData.eqvAll, eqvL]; rw [eqvD_py x y, eqvL_py xs ys]
end
theorem lay_all : ∀ {ds : List PyData}, PyData.canLayAll0 ds = ds.all (·.canLay0)
  | [] => by simp [PyData.canLayAll0]
  | d :: ds => by simp only [PyData.canLayAll0, List.all_cons, lay_all (ds := ds)]
theorem depth_all_le {n : Nat} : ∀ {ds : List PyData}, (∀ d ∈ ds, d.depth ≤ n) → PyData.depthAll ds ≤ n
  | [], _ => by simp [PyData.depthAll]
  | d :: ds, h => by
    simp only [PyData.depthAll]
    exact Nat.max_le.mpr ⟨h d List.mem_cons_self, depth_all_le fun x hx => h x (List.mem_cons_of_mem _ hx)⟩
theorem okD_lay : ∀ {n : Nat} {d : D}, okD n d = true → (toPy d).canLay0 = true ∧ (toPy d).depth ≤ n := by
  intro n
  induction n with
  | zero => intro d h; cases d <;> simp_all [okD, toPy, PyData.canLay0, PyData.depth]
  | succ n ih =>
    intro d h
    cases d with
    | tup xs =>
      simp only [okD, List.all_eq_true] at h
      simp only [toPy, PyData.canLay0, PyData.depth, toPyL_map, lay_all, List.all_eq_true]
      refine ⟨fun x hx => ?_, Nat.succ_le_succ (depth_all_le fun x hx => ?_)⟩
      · obtain ⟨y, hy, rfl⟩ := List.mem_map.mp hx; exact (ih (h y hy)).1
      · obtain ⟨y, hy, rfl⟩ := List.mem_map.mp hx; exact (ih (h y hy)).2
    | lst xs =>
      simp only [okD, List.all_eq_true] at h
      simp only [toPy, PyData.canLay0, PyData.depth, toPyL_map, lay_all, List.all_eq_true]
      refine ⟨fun x hx => ?_, Nat.succ_le_succ (depth_all_le fun x hx => ?_)⟩
      · obtain ⟨y, hy, rfl⟩ := List.mem_map.mp hx; exact (ih (h y hy)).1
      · obtain ⟨y, hy, rfl⟩ := List.mem_map.mp hx; exact (ih (h y hy)).2
    | _ => simp_all [okD, toPy, PyData.canLay0, PyData.depth]
theorem okD_shaped {n : Nat} {d : D} (h : okD n d = true) (hn : n ≤ 64) : SeqAt.shaped (toPy d) = true := by
  obtain ⟨h1, h2⟩ := okD_lay h
  show ((toPy d).canLay0 && decide ((toPy d).depth ≤ 64)) = true
  rw [h1, decide_eq_true (by omega)]; rfl
mutual
theorem Holds.dp {K : PySem.W.Frag} {rt : V} {H : Hp} : ∀ {d : D} {v : V} {n : Nat}, okD n d = true → Holds rt H d v → Dp K H v (toPy d)
  | .non, _, _, _, h => by simp only [Holds] at h; subst h; exact .non
  | .bl _, _, _, _, h => by simp only [Holds] at h; subst h; exact .bl _
  | .int _, _, _, _, h => by simp only [Holds] at h; subst h; exact .int _
  | .str _, _, _, _, h => by simp only [Holds] at h; subst h; exact .str _
  | .tup xs, _, 0, o, h => by simp [okD] at o
  | .lst xs, _, 0, o, h => by simp [okD] at o
  | .tup xs, _, n + 1, o, h => by
    simp only [Holds] at h
    obtain ⟨a, vs, rfl, f, l⟩ := h
    simp only [okD, List.all_eq_true] at o
    exact .tup f.sq (HoldsL.dp o l)
  | .lst xs, _, n + 1, o, h => by
    simp only [Holds] at h
    obtain ⟨a, vs, rfl, f, l⟩ := h
    simp only [okD, List.all_eq_true] at o
    exact .lst (SqL.of f) (HoldsL.dp o l)
  | .dic _ _, _, n, o, _ => by cases n <;> simp [okD] at o
  | .set _, _, n, o, _ => by cases n <;> simp [okD] at o
  | .tape, _, n, o, _ => by cases n <;> simp [okD] at o
theorem HoldsL.dp {K : PySem.W.Frag} {rt : V} {H : Hp} : ∀ {ds : List D} {vs : List V} {n : Nat}, (∀ x ∈ ds, okD n x = true) → HoldsL rt H ds vs → DpAll K H vs (toPyL ds)
  | [], _, _, _, h => by simp only [HoldsL] at h; subst h; exact .nil
  | d :: ds, _, n, o, h => by
    simp only [HoldsL] at h
    obtain ⟨v, r, rfl, h1, h2⟩ := h
    exact .cons (h1.dp (o d List.mem_cons_self)) (HoldsL.dp (fun x hx => o x (List.mem_cons_of_mem _ hx)) h2)
end
def scalD : D → D → Bool
  | .non, .non => true
  | .non, .int _ => true
  | .int _, .non => true
  | .non, .bl _ => true
  | .bl _, .non => true
  | .non, .str _ => true
  | .str _, .non => true
  | .int _, .int _ => true
  | .bl _, .bl _ => true
  | .str _, .str _ => true
  | .int _, .str _ => true
  | .str _, .int _ => true
  | .bl _, .str _ => true
  | .str _, .bl _ => true
  | _, _ => false
def eqD (x y : D) : Option D := if scalD x y || (okD 30 x && okD 30 y) then some (.bl (eqvD x y)) else none
def neD (x y : D) : Option D := if scalD x y || (okD 30 x && okD 30 y) then some (.bl (!eqvD x y)) else none
theorem scal_eq {rt : V} {F H : Hp} {dx dy : D} {x y : V} (hx : HB rt F H dx x) (hy : HB rt F H dy y) (h : scalD dx dy = true) : scal x y = true ∧ decide (x = y) = eqvD dx dy := by
  cases dx <;> cases dy <;> first | (simp [scalD] at h; done) | skip
  all_goals (simp only [HB, Holds] at hx hy; subst hx; subst hy)
  all_goals first
    | (refine ⟨rfl, ?_⟩; simp only [eqvD]; first | exact dec_int | exact dec_bl | exact dec_str | rfl | (exact decide_eq_false (by intro z; cases z)))
def rEqA (K : PySem.W.Frag) : R2 := fun x y H Q => rEq x y H Q ∨ rEqD K x y H Q
def rNeA (K : PySem.W.Frag) : R2 := fun x y H Q => rNe x y H Q ∨ rNeD K x y H Q
theorem room64 {k : Nat} {A : Around} (r : Room k A) : A.units + 64 < cLine := r.units
theorem op_eqA {X : Cx} {k : Nat} (hr : Room k X.A) : OpR X (compareOp .Eq) (rEqA X.K) := op_eq.or (op_eqD hr.units)
theorem op_neA {X : Cx} {k : Nat} (hr : Room k X.A) : OpR X (compareOp .NotEq) (rNeA X.K) := op_ne.or (op_neD hr.units)
theorem od_eq {K : PySem.W.Frag} : OpD (rEqA K) eqD := by
  intro rt F H dx dy d x y Q s hx hy e k
  unfold eqD at e
  split at e
  · rename_i h
    simp only [Option.some.injEq] at e
    subst e
    cases q : scalD dx dy with
    | true =>
      obtain ⟨h1, h2⟩ := scal_eq hx hy q
      exact .inl ⟨h1, fin0 s k (by rw [h2]; simp only [Holds])⟩
    | false =>
      rw [q, Bool.false_or, Bool.and_eq_true] at h
      refine .inr ⟨toPy dx, toPy dy, (hx.inH s).dp h.1, (hy.inH s).dp h.2, okD_shaped h.1 (by decide), okD_shaped h.2 (by decide), ?_⟩
      rw [eqvD_py]
      exact fin0 s k (by simp only [Holds])
  · cases e
theorem od_ne {K : PySem.W.Frag} : OpD (rNeA K) neD := by
  intro rt F H dx dy d x y Q s hx hy e k
  unfold neD at e
  split at e
  · rename_i h
    simp only [Option.some.injEq] at e
    subst e
    cases q : scalD dx dy with
    | true =>
      obtain ⟨h1, h2⟩ := scal_eq hx hy q
      exact .inl ⟨h1, fin0 s k (by rw [h2]; simp only [Holds])⟩
    | false =>
      rw [q, Bool.false_or, Bool.and_eq_true] at h
      refine .inr ⟨toPy dx, toPy dy, (hx.inH s).dp h.1, (hy.inH s).dp h.2, okD_shaped h.1 (by decide), okD_shaped h.2 (by decide), ?_⟩
      rw [eqvD_py]
      exact fin0 s k (by simp only [Holds])
  · cases e
def isNonD : D → Bool
  | .non => true
  | _ => false
theorem Holds.isN {rt : V} {F H : Hp} {d : D} {x : V} (h : HB rt F H d x) (hr : d = .tape → x ≠ .non) : decide (x = .non) = isNonD d := by
  cases d with
  | non => rw [h.non]; rfl
  | bl b => rw [h.bl]; rfl
  | int b => rw [h.int]; rfl
  | str b => rw [h.str]; rfl
  | tup b => obtain ⟨a, vs, e, _⟩ := h.tup; rw [e]; rfl
  | lst b => obtain ⟨a, vs, e, _⟩ := h.lst; rw [e]; rfl
  | dic ks b => obtain ⟨a, vs, e, _⟩ := h; rw [e]; rfl
  | set b => exact (show False from by simpa only [HB, Holds] using h).elim
  | tape => exact decide_eq_false (hr rfl)
def noTape : D → Bool
  | .tape => false
  | _ => true
/-- is None -/
def isND (x y : D) : Option D := match y with
  | .non => if noTape x then some (.bl (isNonD x)) else none
  | _ => none
def isntND (x y : D) : Option D := match y with
  | .non => if noTape x then some (.bl (!isNonD x)) else none
  | _ => none
theorem od_isN : OpD (fun x y H Q => y = .non ∧ Q (.bl (decide (x = .non))) H) isND := by
  intro rt F H dx dy d x y Q s hx hy e k
  cases dy with
  | non =>
    simp only [isND] at e
    split at e
    · rename_i nt
      simp only [Option.some.injEq] at e
      subst e
      have hn := Holds.isN hx (by rintro rfl; cases nt)
      exact ⟨hy.non, fin0 s k (by rw [hn]; simp only [Holds])⟩
    · cases e
  | _ => cases e
theorem od_isntN : OpD (fun x y H Q => y = .non ∧ Q (.bl (!decide (x = .non))) H) isntND := by
  intro rt F H dx dy d x y Q s hx hy e k
  cases dy with
  | non =>
    simp only [isntND] at e
    split at e
    · rename_i nt
      simp only [Option.some.injEq] at e
      subst e
      have hn := Holds.isN hx (by rintro rfl; cases nt)
      exact ⟨hy.non, fin0 s k (by rw [hn]; simp only [Holds])⟩
    · cases e
  | _ => cases e
/-- x in xs: lists, tuples, texts -/
def seqD : D → Option (List D)
  | .lst ds => some ds
  | .tup ds => some ds
  | _ => none
def memD (x : D) (ds : List D) : Bool := ds.any fun z => eqvD z x
def subS (x y : Str) : Bool := !(Builtin.Str.occurrences y x 0 y.length 1).isEmpty
def inD (x y : D) : Option D := match seqD y with
  | some ds => if okD 30 x && ds.all (okD 30) then some (.bl (memD x ds)) else none
  | none => match x, y with
    | .str a, .str b => some (.bl (subS a b))
    | _, _ => none
def notinD (x y : D) : Option D := match seqD y with
  | some ds => if okD 30 x && ds.all (okD 30) then some (.bl (!memD x ds)) else none
  | none => match x, y with
    | .str a, .str b => some (.bl (!subS a b))
    | _, _ => none
section
variable {X : Cx}
def rInSq (K : PySem.W.Frag) (ng : Bool) : R2 := fun x y H Q => ∃ d ds, Dp K H x d ∧ (Dp K H y (.list ds) ∨ Dp K H y (.tuple ds)) ∧ SeqAt.shaped d = true ∧ PyData.canLayAll0 ds = true ∧ Q (.bl (if ng then !ds.any fun z => PyData.eqv z d else ds.any fun z => PyData.eqv z d)) H
theorem room_in {k : Nat} {A : Around} {d : PyData} {ds : List PyData} (r : Room k A) (sd : SeqAt.shaped d = true) : A.units + 1 + min (PyData.depthAll ds) d.depth < cLine := by
  have h1 := SeqAt.depth_of_shaped sd
  have h2 := r.un
  have h3 : min (PyData.depthAll ds) d.depth ≤ d.depth := Nat.min_le_right _ _
  omega
theorem op_inSq {k : Nat} (hr : Room k X.A) : OpR X (compareOp .In) (rInSq X.K false) := by
  intro pins s σ H x y v u Q I rx ry h
  obtain ⟨d, ds, hd, he, sd, se, q⟩ := h
  obtain ⟨as, r1⟩ := Dp.reads I d x v hd rx
  rcases he with he | he
  · obtain ⟨bs, r2⟩ := Dp.reads I (.list ds) y u he ry
    exact SeqAt.in_list_reads r2 r1 se (SeqAt.canLay_of_shaped sd) (room_in hr sd) ⟨.bl _, H, I, rfl, q⟩
  · obtain ⟨bs, r2⟩ := Dp.reads I (.tuple ds) y u he ry
    exact SeqAt.in_tuple_reads r2 r1 se (SeqAt.canLay_of_shaped sd) (room_in hr sd) ⟨.bl _, H, I, rfl, q⟩
theorem op_notInSq {k : Nat} (hr : Room k X.A) : OpR X (compareOp .NotIn) (rInSq X.K true) := by
  intro pins s σ H x y v u Q I rx ry h
  obtain ⟨d, ds, hd, he, sd, se, q⟩ := h
  obtain ⟨as, r1⟩ := Dp.reads I d x v hd rx
  rcases he with he | he
  · obtain ⟨bs, r2⟩ := Dp.reads I (.list ds) y u he ry
    exact SeqAt.notIn_list_reads r2 r1 se (SeqAt.canLay_of_shaped sd) (room_in hr sd) ⟨.bl _, H, I, rfl, q⟩
  · obtain ⟨bs, r2⟩ := Dp.reads I (.tuple ds) y u he ry
    exact SeqAt.notIn_tuple_reads r2 r1 se (SeqAt.canLay_of_shaped sd) (room_in hr sd) ⟨.bl _, H, I, rfl, q⟩
def rInA (K : PySem.W.Frag) : R2 := fun x y H Q => rInSq K false x y H Q ∨ ∃ i j, x = .str i ∧ y = .str j ∧ Q (.bl (!(Builtin.Str.occurrences j i 0 j.length 1).isEmpty)) H
def rNotInA (K : PySem.W.Frag) : R2 := fun x y H Q => rInSq K true x y H Q ∨ ∃ i j, x = .str i ∧ y = .str j ∧ Q (.bl (!(!(Builtin.Str.occurrences j i 0 j.length 1).isEmpty))) H
theorem op_inA {k : Nat} (hr : Room k X.A) : OpR X (compareOp .In) (rInA X.K) := (op_inSq hr).or op_in_str
theorem op_notInA {k : Nat} (hr : Room k X.A) : OpR X (compareOp .NotIn) (rNotInA X.K) := (op_notInSq hr).or op_notIn_str
end
theorem mem_py {x : D} {ds : List D} : ((toPyL ds).any fun z => PyData.eqv z (toPy x)) = memD x ds := by
  rw [toPyL_map, List.any_map]
  unfold memD
  congr 1
  funext z
  exact eqvD_py z x
theorem HB.dpS {K : PySem.W.Frag} {rt : V} {F H : Hp} {d : D} {ds : List D} {v : V} (s : Same F H) (h : HB rt F H d v) (e : seqD d = some ds) (o : ∀ x ∈ ds, okD 30 x = true) : Dp K H v (.list (toPyL ds)) ∨ Dp K H v (.tuple (toPyL ds)) := by
  cases d with
  | lst xs =>
    simp only [seqD, Option.some.injEq] at e
    subst e
    obtain ⟨a, vs, rfl, f, l⟩ := h.lst
    exact .inl (.lst (SqL.of f) (HoldsL.dp o (l.mono s)))
  | tup xs =>
    simp only [seqD, Option.some.injEq] at e
    subst e
    obtain ⟨a, vs, rfl, f, l⟩ := h.tup
    exact .inr (.tup (f.mono s).sq (HoldsL.dp o (l.mono s)))
  | _ => cases e
theorem layAll_of {ds : List D} (o : ∀ x ∈ ds, okD 30 x = true) : PyData.canLayAll0 (toPyL ds) = true := by
  rw [lay_all, toPyL_map, List.all_eq_true]
  intro x hx
  obtain ⟨y, hy, rfl⟩ := List.mem_map.mp hx
  exact (okD_lay (o y hy)).1
theorem od_in {K : PySem.W.Frag} : OpD (rInA K) inD := by
  intro rt F H dx dy d x y Q s hx hy e k
  unfold inD at e
  cases q : seqD dy with
  | some ds =>
    rw [q] at e
    simp only at e
    split at e
    · rename_i h
      simp only [Option.some.injEq] at e
      subst e
      rw [Bool.and_eq_true, List.all_eq_true] at h
      refine .inl ⟨toPy dx, toPyL ds, (hx.inH s).dp h.1, hy.dpS s q h.2, okD_shaped h.1 (by decide), layAll_of h.2, ?_⟩
      rw [if_neg Bool.false_ne_true, mem_py]
      exact fin0 s k (by simp only [Holds])
    · cases e
  | none =>
    rw [q] at e
    simp only at e
    split at e
    · simp only [Option.some.injEq] at e
      subst e
      exact .inr ⟨_, _, hx.str, hy.str, fin0 s k (by simp only [Holds, subS])⟩
    · cases e
theorem od_notin {K : PySem.W.Frag} : OpD (rNotInA K) notinD := by
  intro rt F H dx dy d x y Q s hx hy e k
  unfold notinD at e
  cases q : seqD dy with
  | some ds =>
    rw [q] at e
    simp only at e
    split at e
    · rename_i h
      simp only [Option.some.injEq] at e
      subst e
      rw [Bool.and_eq_true, List.all_eq_true] at h
      refine .inl ⟨toPy dx, toPyL ds, (hx.inH s).dp h.1, hy.dpS s q h.2, okD_shaped h.1 (by decide), layAll_of h.2, ?_⟩
      rw [if_pos rfl, mem_py]
      exact fin0 s k (by simp only [Holds])
    · cases e
  | none =>
    rw [q] at e
    simp only at e
    split at e
    · simp only [Option.some.injEq] at e
      subst e
      exact .inr ⟨_, _, hx.str, hy.str, fin0 s k (by simp only [Holds, subS])⟩
    · cases e

/-! ### subscripts, slices -/
def idxD : D → D → Option D
  | .lst ds, .int i => atI ds i
  | .tup ds, .int i => atI ds i
  | .str z, .int i => if z.length ≤ sizeLine then match atI z.cps.toList i with
    | some c => some (.str ⟨#[c]⟩)
    | none => none
    else none
  | _, _ => none
theorem HoldsL.atI {rt : V} {F : Hp} {ds : List D} {vs : List V} {i : Int} {d : D} (h : HoldsL rt F ds vs) (e : atI ds i = some d) : ∃ v, L2.atI vs i = some v ∧ Holds rt F d v := by
  unfold L2.atI at e ⊢
  rw [h.length]
  cases q : ixN ds.length i with
  | none => rw [q] at e; cases e
  | some j =>
    rw [q] at e
    simp only [Option.bind_some] at e ⊢
    exact h.get e
theorem od_idx {K : PySem.W.Frag} : OpD (rIx K) idxD := by
  intro rt F H dx dy d x y Q s hx hy e k
  cases dy with
  | int i =>
    cases dx with
    | lst ds =>
      simp only [idxD] at e
      obtain ⟨a, vs, rfl, f, l⟩ := hx.lst
      obtain ⟨v, ev, hv⟩ := l.atI e
      exact .inl ⟨a, vs, i, v, rfl, hy.int, SqL.of f, ev, fin0 s k hv⟩
    | tup ds =>
      simp only [idxD] at e
      obtain ⟨a, vs, rfl, f, l⟩ := hx.tup
      obtain ⟨v, ev, hv⟩ := l.atI e
      exact .inr (.inl ⟨a, vs, i, v, rfl, hy.int, (f.mono s).sq, ev, fin0 s k hv⟩)
    | str z =>
      simp only [idxD] at e
      split at e
      · rename_i hz
        cases q : L2.atI z.cps.toList i with
        | none => rw [q] at e; cases e
        | some c =>
          rw [q] at e
          simp only [Option.some.injEq] at e
          subst e
          exact .inr (.inr ⟨z, i, c, hx.str, hy.int, hz, q, fin0 s k (by simp only [Holds])⟩)
      · cases e
    | _ => cases e
  | _ => cases dx <;> cases e
def cutD (xs : List D) (lo hi : Option Int) : List D := (xs.drop (HT.sIx xs.length 0 lo)).take (HT.sIx xs.length xs.length hi - HT.sIx xs.length 0 lo)
theorem HoldsL.cut {rt : V} {F : Hp} {ds : List D} {vs : List V} (h : HoldsL rt F ds vs) (lo hi : Option Int) : HoldsL rt F (cutD ds lo hi) (cutV vs lo hi) := by
  unfold cutD cutV
  rw [h.length]
  exact (h.drop _).take _
def sliceD : D → Option Int → Option Int → Option D
  | .lst ds, lo, hi => some (.lst (cutD ds lo hi))
  | .tup ds, lo, hi => some (.tup (cutD ds lo hi))
  | .str z, lo, hi => if z.length ≤ sizeLine then some (.str (cutS z lo hi)) else none
  | _, _, _ => none
def rSlAll (K : PySem.W.Frag) : V → Option Int → Option Int → Hp → VK → Prop := fun x lo hi H Q => rSlL K x lo hi H Q ∨ rSlF K x lo hi H Q ∨ rSlS x lo hi H Q
theorem sl_all {X : Cx} : L2.SlR X (rSlAll X.K) := sl_list.or (sl_tupF.or sl_str)
theorem sd_all {K : PySem.W.Frag} : SlD (rSlAll K) sliceD := by
  intro rt F H dx d x lo hi Q s hx e k
  cases dx with
  | lst ds =>
    simp only [sliceD, Option.some.injEq] at e
    subst e
    obtain ⟨a, vs, rfl, f, l⟩ := hx.lst
    refine .inl ⟨a, vs, rfl, SqL.of f, fun p hp => k _ _ _ (New.upd s hp _) ?_⟩
    simp only [Holds]
    exact ⟨p, _, rfl, upd_same, (l.cut lo hi).mono (New.upd s hp _).sF⟩
  | tup ds =>
    simp only [sliceD, Option.some.injEq] at e
    subst e
    obtain ⟨a, vs, rfl, f, l⟩ := hx.tup
    refine .inr (.inl ⟨a, vs, rfl, (f.mono s).sq, fun ec => ?_, fun p o hp ho => finT s k hp ho (l.cut lo hi)⟩)
    refine fin0 s k ?_
    simp only [Holds]
    exact ⟨a, vs, rfl, f, by rw [← ec]; exact l.cut lo hi⟩
  | str z =>
    simp only [sliceD] at e
    split at e
    · rename_i hz
      simp only [Option.some.injEq] at e
      subst e
      exact .inr (.inr ⟨z, hx.str, hz, fin0 s k (by simp only [Holds])⟩)
    · cases e
  | _ => cases e

/-! ### built-in functions -/
def len1 : List D → Option D
  | [.lst ds] => some (.int ds.length)
  | [.tup ds] => some (.int ds.length)
  | [.str z] => if z.length ≤ sizeLine then some (.int z.length) else none
  | _ => none
theorem cd_len {K : PySem.W.Frag} : CallD (fun xs H Q => ∃ x n, xs = [x] ∧ LenV K x H n ∧ Q (.int n) H) len1 := by
  intro rt F H ds d vs Q s h e k
  match ds, e with
  | [.lst xs], e =>
    simp only [len1, Option.some.injEq] at e
    subst e
    obtain ⟨v, rfl, hv⟩ := hbl1 h
    obtain ⟨a, us, rfl, f, l⟩ := hv.lst
    exact ⟨_, us.length, rfl, .inl ⟨us, SqL.of f, rfl⟩, fin0 s k (by simp only [Holds, l.length])⟩
  | [.tup xs], e =>
    simp only [len1, Option.some.injEq] at e
    subst e
    obtain ⟨v, rfl, hv⟩ := hbl1 h
    obtain ⟨a, us, rfl, f, l⟩ := hv.tup
    exact ⟨_, us.length, rfl, .inr ⟨us, (f.mono s).sq, rfl⟩, fin0 s k (by simp only [Holds, l.length])⟩
  | [.str z], e =>
    simp only [len1] at e
    split at e
    · rename_i hz
      simp only [Option.some.injEq] at e
      subst e
      obtain ⟨v, rfl, hv⟩ := hbl1 h
      rw [hv.str]
      exact ⟨_, z.length, rfl, ⟨hz, rfl⟩, fin0 s k (by simp only [Holds])⟩
    · cases e
def all1 : List D → Option D
  | [.lst ds] => (blsD ds).map fun bs => .bl (bs.all id)
  | _ => none
def any1 : List D → Option D
  | [.lst ds] => (blsD ds).map fun bs => .bl (bs.any id)
  | _ => none
def sum1 : List D → Option D
  | [.lst ds] => (intsD ds).map fun ns => .int ns.sum
  | _ => none
theorem cd_all {K : PySem.W.Frag} : CallD (rAll K) all1 := by
  intro rt F H ds d vs Q s h e k
  match ds, e with
  | [.lst xs], e =>
    simp only [all1] at e
    cases q : blsD xs with
    | none => rw [q] at e; cases e
    | some bs =>
      rw [q] at e
      simp only [Option.map_some, Option.some.injEq] at e
      subst e
      have ex := blsD_inv q
      subst ex
      obtain ⟨v, rfl, hv⟩ := hbl1 h
      obtain ⟨a, us, rfl, f, l⟩ := hv.lst
      have eu := holds_bls l
      subst eu
      exact ⟨a, bs, rfl, SqL.of f, fin0 s k (by simp only [Holds])⟩
theorem cd_any {K : PySem.W.Frag} : CallD (rAny K) any1 := by
  intro rt F H ds d vs Q s h e k
  match ds, e with
  | [.lst xs], e =>
    simp only [any1] at e
    cases q : blsD xs with
    | none => rw [q] at e; cases e
    | some bs =>
      rw [q] at e
      simp only [Option.map_some, Option.some.injEq] at e
      subst e
      have ex := blsD_inv q
      subst ex
      obtain ⟨v, rfl, hv⟩ := hbl1 h
      obtain ⟨a, us, rfl, f, l⟩ := hv.lst
      have eu := holds_bls l
      subst eu
      exact ⟨a, bs, rfl, SqL.of f, fin0 s k (by simp only [Holds])⟩
theorem cd_sum {K : PySem.W.Frag} : CallD (rSum K) sum1 := by
  intro rt F H ds d vs Q s h e k
  match ds, e with
  | [.lst xs], e =>
    simp only [sum1] at e
    cases q : intsD xs with
    | none => rw [q] at e; cases e
    | some bs =>
      rw [q] at e
      simp only [Option.map_some, Option.some.injEq] at e
      subst e
      have ex := intsD_inv q
      subst ex
      obtain ⟨v, rfl, hv⟩ := hbl1 h
      obtain ⟨a, us, rfl, f, l⟩ := hv.lst
      have eu := holds_ints l
      subst eu
      exact ⟨a, bs, rfl, SqL.of f, fin0 s k (by simp only [Holds])⟩
/-- list(x), tuple(x) -/
def list1 : List D → Option (List D)
  | [.lst ds] => some ds
  | [.tup ds] => some ds
  | _ => none
theorem cn_list {K : PySem.W.Frag} : CallN (fun xs H Q => ∃ p ys, xs = [.ref p] ∧ (SqL K H p ys ∨ SqT K H p ys) ∧ ∀ l, H l = none → Q (.ref l) (upd H l (.lst ys))) list1 := by
  intro rt F H ds d vs Q s h e k
  match ds, e with
  | [.lst xs], e =>
    simp only [list1, Option.some.injEq] at e
    subst e
    obtain ⟨v, rfl, hv⟩ := hbl1 h
    obtain ⟨a, us, rfl, f, l⟩ := hv.lst
    exact ⟨a, us, rfl, .inl (SqL.of f), fun p hp => k p us hp l⟩
  | [.tup xs], e =>
    simp only [list1, Option.some.injEq] at e
    subst e
    obtain ⟨v, rfl, hv⟩ := hbl1 h
    obtain ⟨a, us, rfl, f, l⟩ := hv.tup
    exact ⟨a, us, rfl, .inr (f.mono s).sq, fun p hp => k p us hp l⟩
def tuple1 : List D → Option D
  | [.lst ds] => some (.tup ds)
  | [.tup ds] => some (.tup ds)
  | _ => none
theorem cd_tuple {K : PySem.W.Frag} : CallD (fun xs H Q => ∃ p ys, xs = [.ref p] ∧ ((SqL K H p ys ∧ ∀ l o, H l = none → o.dict = none → Q (.ref l) (upd H l (.frz o (.tup ys)))) ∨ (SqT K H p ys ∧ Q (.ref p) H))) tuple1 := by
  intro rt F H ds d vs Q s h e k
  match ds, e with
  | [.lst xs], e =>
    simp only [tuple1, Option.some.injEq] at e
    subst e
    obtain ⟨v, rfl, hv⟩ := hbl1 h
    obtain ⟨a, us, rfl, f, l⟩ := hv.lst
    exact ⟨a, us, rfl, .inl ⟨SqL.of f, fun p o hp ho => finT s k hp ho l⟩⟩
  | [.tup xs], e =>
    simp only [tuple1, Option.some.injEq] at e
    subst e
    obtain ⟨v, rfl, hv⟩ := hbl1 h
    obtain ⟨a, us, rfl, f, l⟩ := hv.tup
    exact ⟨a, us, rfl, .inr ⟨(f.mono s).sq, fin0 s k (by simp only [Holds]; exact ⟨a, us, rfl, f, l⟩)⟩⟩
def int1 : List D → Option D
  | [.int i] => some (.int i)
  | [.bl b] => some (.int (if b then 1 else 0))
  | _ => none
theorem cd_int : CallD (fun xs H Q => (∃ i, xs = [.int i] ∧ Q (.int i) H) ∨ ∃ k, xs = [.bl k] ∧ Q (.int (if k then 1 else 0)) H) int1 := by
  intro rt F H ds d vs Q s h e k
  match ds, e with
  | [.int i], e =>
    simp only [int1, Option.some.injEq] at e
    subst e
    obtain ⟨v, rfl, hv⟩ := hbl1 h
    rw [hv.int]
    exact .inl ⟨i, rfl, fin0 s k (by simp only [Holds])⟩
  | [.bl b], e =>
    simp only [int1, Option.some.injEq] at e
    subst e
    obtain ⟨v, rfl, hv⟩ := hbl1 h
    rw [hv.bl]
    exact .inr ⟨b, rfl, fin0 s k (by simp only [Holds])⟩
def min2 : List D → Option D
  | [.int i, .int j] => some (.int (if j < i then j else i))
  | _ => none
def max2 : List D → Option D
  | [.int i, .int j] => some (.int (if j > i then j else i))
  | _ => none
theorem cd_min2 : CallD (fun xs H Q => ∃ i j, xs = [.int i, .int j] ∧ Q (.int (if j < i then j else i)) H) min2 := by
  intro rt F H ds d vs Q s h e k
  match ds, e with
  | [.int i, .int j], e =>
    simp only [min2, Option.some.injEq] at e
    subst e
    obtain ⟨v, w, rfl, hv, hw⟩ := hbl2 h
    rw [hv.int, hw.int]
    exact ⟨i, j, rfl, fin0 s k (by simp only [Holds])⟩
theorem cd_max2 : CallD (fun xs H Q => ∃ i j, xs = [.int i, .int j] ∧ Q (.int (if j > i then j else i)) H) max2 := by
  intro rt F H ds d vs Q s h e k
  match ds, e with
  | [.int i, .int j], e =>
    simp only [max2, Option.some.injEq] at e
    subst e
    obtain ⟨v, w, rfl, hv, hw⟩ := hbl2 h
    rw [hv.int, hw.int]
    exact ⟨i, j, rfl, fin0 s k (by simp only [Holds])⟩
def max1 : List D → Option D
  | [.lst ds] => match intsD ds with
    | some (n :: ns) => some (.int (ns.foldl max n))
    | _ => none
  | _ => none
theorem foldl_max : ∀ (ns : List Int) (n : Int), ns.foldl max n ∈ n :: ns ∧ ∀ y ∈ n :: ns, y ≤ ns.foldl max n
  | [], n => by simp
  | m :: ns, n => by
    obtain ⟨h1, h2⟩ := foldl_max ns (max n m)
    simp only [List.foldl_cons]
    refine ⟨?_, fun y hy => ?_⟩
    · rcases List.mem_cons.mp h1 with e | e
      · rw [e]
        rcases Int.le_total n m with q | q
        · rw [Int.max_eq_right q]; simp
        · rw [Int.max_eq_left q]; simp
      · exact List.mem_cons_of_mem _ (List.mem_cons_of_mem _ e)
    · have h0 := h2 (max n m) List.mem_cons_self
      simp only [List.mem_cons] at hy
      rcases hy with e | e | e
      · rw [e]; exact Int.le_trans (Int.le_max_left _ _) h0
      · rw [e]; exact Int.le_trans (Int.le_max_right _ _) h0
      · exact h2 y (List.mem_cons_of_mem _ e)
theorem cd_max1 {K : PySem.W.Frag} : CallD (rMax K) max1 := by
  intro rt F H ds d vs Q s h e k
  match ds, e with
  | [.lst xs], e =>
    simp only [max1] at e
    cases q : intsD xs with
    | none => rw [q] at e; cases e
    | some ns =>
      rw [q] at e
      cases ns with
      | nil => cases e
      | cons n ns =>
        simp only [Option.some.injEq] at e
        subst e
        have ex := intsD_inv q
        subst ex
        obtain ⟨v, rfl, hv⟩ := hbl1 h
        obtain ⟨a, us, rfl, f, l⟩ := hv.lst
        have eu := holds_ints l
        subst eu
        refine ⟨a, n :: ns, rfl, SqL.of f, by simp, fun m hm hle => ?_⟩
        obtain ⟨h1, h2⟩ := foldl_max ns n
        have : m = ns.foldl max n := Int.le_antisymm (h2 m hm) (hle _ h1)
        subst this
        exact fin0 s k (by simp only [Holds])
/-- max of two ints, or of one list of ints -/
def maxA (ds : List D) : Option D := match max2 ds with
  | some d => some d
  | none => max1 ds
theorem CallD.or {r r' : List V → Hp → VK → Prop} {g g' : List D → Option D} (h : CallD r g) (h' : CallD r' g') : CallD (fun xs H Q => r xs H Q ∨ r' xs H Q) fun x => match g x with
    | some d => some d
    | none => g' x := by
  intro rt F H ds d vs Q s hx e k
  dsimp only at e
  cases q : g ds with
  | some d' => rw [q] at e; cases e; exact .inl (h rt F H ds d vs Q s hx q k)
  | none => rw [q] at e; exact .inr (h' rt F H ds d vs Q s hx e k)
end DL

/-! The data layer, 9: lists that a slot owns, changed. -/
namespace DL
open PySem L2

section
variable {Z : TSys} {ad : Z.Ad} {env : List Sl} {T : Z.T} {F H : Hp} {σ : L2.St} {A : List Addr}
theorem set_list_self {α : Type} : ∀ {l : List α} {i : Nat} {x : α}, l[i]? = some x → l.set i x = l := set_self
theorem Rel.mutL (R : Rel Z ad env T F σ H A) {i : Nat} {ds : List D} (hi : env[i]? = some (.ow 1 (.lst ds))) :
    ∃ p vs, σ[i]? = some (some (.ref p)) ∧ H p = some (.lst vs) ∧ HoldsL (Z.root ad) F ds vs ∧
      ∀ ds' vs', HoldsL (Z.root ad) F ds' vs' → Rel Z ad (env.set i (.ow 1 (.lst ds'))) T F σ (L2.upd H p (.lst vs')) A ∧ Stp Z ad A F H A F (L2.upd H p (.lst vs')) := by
  obtain ⟨o, A0, A1, A2, e1, eA, ⟨v, eo, hv⟩, re⟩ := R.env.split hi
  subst eA eo
  obtain ⟨p, B, e, f, eA, vs, hp, hl⟩ := hv
  obtain ⟨hl', eB⟩ := OwnL.zero hl
  subst e eA eB
  have nd := R.nd
  rw [List.nodup_append, List.nodup_append] at nd
  have pin : p ∈ A0 ++ [p] ++ A2 := by simp
  refine ⟨p, vs, e1, hp, hl', fun ds' vs' h' => ?_⟩
  have off : ∀ a ∈ A0 ++ A2, a ≠ p := fun a ha z => by
    subst z
    rcases List.mem_append.mp ha with z | z
    · exact nd.1.2.2 a z a (by simp) rfl
    · exact nd.2.2 a (by simp) a z rfl
  have e2 := re (F' := F) (H' := L2.upd H p (.lst vs')) (y := .ow 1 (.lst ds')) (o' := some (.ref p)) (B := [p]) (Same.refl _) (fun a ha => ⟨L2.upd_ne (off a ha), ?_⟩) ⟨.ref p, rfl, p, [], rfl, f, rfl, vs', L2.upd_same, OwnL.ofHolds h'⟩
  · rw [set_self e1] at e2
    refine ⟨⟨fun a o z => ?_, e2, R.nd, Z.loc R.tp fun b hb => L2.upd_ne fun z => (R.tf b hb).2 (z ▸ pin), R.tf⟩, Same.refl _, fun a h => .inl h, fun a h => .inl h, fun a o z hA _ => ?_, fun a o z => ?_⟩
    · rw [L2.upd_ne fun w => by rw [w, f] at z; cases z]
      exact R.same _ _ z
    · rw [L2.upd_ne fun (w : a = p) => hA (by rw [w]; exact pin)]; exact z
    · by_cases w : a = p
      · subst w; exact ⟨_, L2.upd_same⟩
      · rw [L2.upd_ne w]; exact ⟨o, z⟩
  · refine (R.at a ?_).1
    rcases List.mem_append.mp ha with z | z
    · simp [z]
    · simp [z]
end
def MutD (r : V → List V → Hp → VK → Prop) (u : List D → List D → Option (D × List D)) : Prop := ∀ (rt : V) (F H : Hp) (p : Addr) (vs : List V) (ds as : List D) (us : List V) (d : D) (ds' : List D) (Q : VK), Same F H → H p = some (.lst vs) → HoldsL rt F ds vs → HoldsL rt F as us → u as ds = some (d, ds') →
  (∀ v vs', Holds rt F d v → HoldsL rt F ds' vs' → Q v (upd H p (.lst vs'))) → r (.ref p) us H Q
def isL1 (env : List Sl) (i : Nat) : Bool := match env[i]? with
  | some (.ow 1 (.lst _)) => true
  | _ => false
def mmut {Z : TSys} (i : Nat) (u : List D → List D → Option (D × List D)) (as : ML Z) : M Z := fun e t => if isL1 e i then match as e t with
  | some (xs, e1, t1) => match e1[i]? with
    | some (.ow 1 (.lst ds)) => match u xs ds with
      | some (d, ds') => some (d, e1.set i (.ow 1 (.lst ds')), t1)
      | none => none
    | _ => none
  | none => none
  else none
section
variable {Z : TSys} {X : Cx} {x name : Str} {xpos apos cpos : Pos} {e : Expr} {es : List Expr} {id : String} {r : V → List V → Hp → VK → Prop} {u : List D → List D → Option (D × List D)} {as : ML Z} {i : Nat}
theorem isL1_get {env : List Sl} (h : isL1 env i = true) : ∃ ds, env[i]? = some (.ow 1 (.lst ds)) := by
  unfold isL1 at h
  split at h
  · rename_i ds q; exact ⟨ds, q⟩
  · cases h
theorem mut_core (hd : MutD r u) {σ : L2.St} {H : Hp} {Q : VK} (h : den Z (mmut i u as) σ H Q) : ∃ v, σ[i]? = some (some v) ∧ tyV X.K "list" v H ∧ denL Z as σ H fun xs H2 => r v xs H2 Q := by
  obtain ⟨ad, env, T, F, A, d, env', T', R, e, k⟩ := h
  unfold mmut at e
  by_cases hi : isL1 env i = true
  · rw [if_pos hi] at e
    obtain ⟨ds0, q0⟩ := isL1_get hi
    obtain ⟨p, vs0, e1, hp0, _, _⟩ := R.mutL q0
    refine ⟨.ref p, e1, .inl ⟨rfl, _, SqL.of hp0⟩, ?_⟩
    cases q : as env T with
    | none => rw [q] at e; cases e
    | some z =>
      obtain ⟨xs, en, t1⟩ := z
      rw [q] at e
      simp only at e
      cases q1 : en[i]? with
      | none => rw [q1] at e; cases e
      | some sl =>
        rw [q1] at e
        match sl, q1, e with
        | .ow 1 (.lst ds), q1, e =>
          simp only at e
          cases q2 : u xs ds with
          | none => rw [q2] at e; cases e
          | some w =>
            obtain ⟨d1, ds'⟩ := w
            rw [q2] at e
            simp only [Option.some.injEq, Prod.mk.injEq] at e
            obtain ⟨rfl, rfl, rfl⟩ := e
            refine ⟨ad, env, T, F, A, xs, en, t1, R, q, fun us H' F' A' R' S' hu => ?_⟩
            obtain ⟨p', vs, e2, hp, hl, go⟩ := R'.mutL q1
            rw [e1] at e2
            cases e2
            refine hd _ F' H' p vs ds xs us d1 ds' Q R'.same hp hl hu q2 fun v vs' hv hl' => ?_
            obtain ⟨R2, S2⟩ := go ds' vs' hl'
            exact k v _ F' A' R2 (R'.st S' S2 R2) hv
  · rw [if_neg hi] at e; cases e
theorem ie_mut (slot : Slot "list" name id) (hty : typeOf (.builtin id) = pure (.type "method_descriptor")) (hm : MtR X id r) (hd : MutD r u) (ho : PE X (.Name x xpos) (tVar i)) (ha : IsL Z X (e :: es) as)
    (hbase : attributeBase (.Name x xpos) name X.env (eval (.Name x xpos) X.env) = eval (.Name x xpos) X.env := by rfl)
    (hfew : ((backTo cpos (starEach (e :: es) X.env)).all (fun x => !x.1) && (backToKw cpos (keywordEach [] X.env)).all (fun x => x.1.isSome)
      && decide ((e :: es).length + ([] : List Keyword).length + (if ([] : List Keyword).isEmpty then 0 else 1) < 30)) = true := by rfl)
    (hline : (apos.endLine == cpos.line) = true := by rfl) (hs : starEach (e :: es) X.env = (false, eval e X.env) :: starEach es X.env := by rfl) (hplain : (backTo cpos (starEach es X.env)).any (·.1) = false := by rfl) :
    IsE Z X (.Call (.Attribute (.Name x xpos) name apos) (e :: es) [] cpos) (mmut i u as) :=
  ⟨PE.imp (pe_bm PySem.F.plainAttrs_list slot hty hm ho ha.pa hbase hfew hline hs hplain) fun σ H Q h => mut_core (X := X) hd h⟩
theorem ie_mut0 (slot : Slot "list" name id) (hty : typeOf (.builtin id) = pure (.type "method_descriptor")) (hm : MtR X id r) (hd : MutD r u) (ho : PE X (.Name x xpos) (tVar i))
    (hbase : attributeBase (.Name x xpos) name X.env (eval (.Name x xpos) X.env) = eval (.Name x xpos) X.env := by rfl) (hline : (apos.endLine == cpos.line) = true := by rfl) :
    IsE Z X (.Call (.Attribute (.Name x xpos) name apos) [] [] cpos) (mmut i u mnil) :=
  ⟨PE.imp (pe_bm0 PySem.F.plainAttrs_list slot hty hm ho hbase hline) fun σ H Q h => by
    obtain ⟨v, e1, ty, q⟩ := mut_core (X := X) hd h
    refine ⟨v, e1, ty, ?_⟩
    obtain ⟨ad, env, T, F, A, os, env', T', R, e, k⟩ := q
    simp only [mnil, Option.some.injEq, Prod.mk.injEq] at e
    obtain ⟨rfl, rfl, rfl⟩ := e
    exact k [] H F A R Stp.refl .nil⟩
end
/-! ### append, extend, insert, pop -/
theorem hl1 {rt : V} {F : Hp} {d : D} {vs : List V} (h : HoldsL rt F [d] vs) : ∃ v, vs = [v] ∧ Holds rt F d v := by
  simp only [HoldsL] at h
  obtain ⟨v, r, rfl, h1, rfl⟩ := h
  exact ⟨v, rfl, h1⟩
theorem hl2 {rt : V} {F : Hp} {d e : D} {vs : List V} (h : HoldsL rt F [d, e] vs) : ∃ v w, vs = [v, w] ∧ Holds rt F d v ∧ Holds rt F e w := by
  simp only [HoldsL] at h
  obtain ⟨v, r, rfl, h1, w, r2, rfl, h2, rfl⟩ := h
  exact ⟨v, w, rfl, h1, h2⟩
def uAppend : List D → List D → Option (D × List D)
  | [d], ds => if ds.length < sizeLine then some (.non, ds ++ [d]) else none
  | _, _ => none
theorem ud_append : MutD rAppend uAppend := by
  intro rt F H p vs ds as us d ds' Q s hp hl ha e k
  match as, e with
  | [a], e =>
    simp only [uAppend] at e
    split at e
    · rename_i hz
      simp only [Option.some.injEq, Prod.mk.injEq] at e
      obtain ⟨rfl, rfl⟩ := e
      obtain ⟨v, rfl, hv⟩ := hl1 ha
      exact ⟨p, vs, v, rfl, rfl, hp, by rw [hl.length]; exact hz, k _ _ (by simp only [Holds]) (hl.app (.one hv))⟩
    · cases e
def uExtend : List D → List D → Option (D × List D)
  | [.lst es], ds => if ds.length + es.length ≤ sizeLine then some (.non, ds ++ es) else none
  | _, _ => none
theorem ud_extend : MutD rExtend uExtend := by
  intro rt F H p vs ds as us d ds' Q s hp hl ha e k
  match as, e with
  | [.lst es], e =>
    simp only [uExtend] at e
    split at e
    · rename_i hz
      simp only [Option.some.injEq, Prod.mk.injEq] at e
      obtain ⟨rfl, rfl⟩ := e
      obtain ⟨v, rfl, hv⟩ := hl1 ha
      simp only [Holds] at hv
      obtain ⟨b, ws, rfl, f, l⟩ := hv
      exact ⟨p, b, vs, ws, rfl, rfl, hp, s _ _ f, by rw [hl.length, l.length]; exact hz, k _ _ (by simp only [Holds]) (hl.app l)⟩
    · cases e
def uInsert : List D → List D → Option (D × List D)
  | [.int i, d], ds => if ds.length < sizeLine ∧ 0 ≤ i ∧ i < 2 ^ 63 then some (.non, ds.take i.toNat ++ [d] ++ ds.drop i.toNat) else none
  | _, _ => none
theorem ud_insert : MutD (fun x vs H Q => ∃ (l : Addr) (xs : List V) (i : Int) (y : V), x = .ref l ∧ vs = [.int i, y] ∧ H l = some (.lst xs) ∧ xs.length < sizeLine ∧ 0 ≤ i ∧ i < 2 ^ 63 ∧ Q .non (upd H l (.lst (xs.take i.toNat ++ [y] ++ xs.drop i.toNat)))) uInsert := by
  intro rt F H p vs ds as us d ds' Q s hp hl ha e k
  match as, e with
  | [.int i, a], e =>
    simp only [uInsert] at e
    split at e
    · rename_i hz
      simp only [Option.some.injEq, Prod.mk.injEq] at e
      obtain ⟨rfl, rfl⟩ := e
      obtain ⟨v, w, rfl, hv, hw⟩ := hl2 ha
      simp only [Holds] at hv
      subst hv
      exact ⟨p, vs, i, w, rfl, rfl, hp, by rw [hl.length]; exact hz.1, hz.2.1, hz.2.2, k _ _ (by simp only [Holds]) (((hl.take _).app (.one hw)).app (hl.drop _))⟩
    · cases e
def uPop : List D → List D → Option (D × List D)
  | [], ds => match ds[ds.length - 1]? with
    | some d => some (d, ds.dropLast)
    | none => none
  | _, _ => none
theorem HoldsL.dropLast {rt : V} {F : Hp} {ds : List D} {vs : List V} (h : HoldsL rt F ds vs) : HoldsL rt F ds.dropLast vs.dropLast := by
  rw [List.dropLast_eq_take, List.dropLast_eq_take, h.length]
  exact h.take _
theorem ud_pop : MutD rPop uPop := by
  intro rt F H p vs ds as us d ds' Q s hp hl ha e k
  match as, e with
  | [], e =>
    simp only [uPop] at e
    cases q : ds[ds.length - 1]? with
    | none => rw [q] at e; cases e
    | some d' =>
      rw [q] at e
      simp only [Option.some.injEq, Prod.mk.injEq] at e
      obtain ⟨rfl, rfl⟩ := e
      simp only [HoldsL] at ha
      subst ha
      obtain ⟨v, ev, hv⟩ := hl.get q
      exact ⟨p, vs, v, rfl, rfl, hp, by rw [hl.length]; exact ev, k _ _ hv hl.dropLast⟩
def uPopAt : List D → List D → Option (D × List D)
  | [.int i], ds => match ixN ds.length i with
    | some j => if -(2 ^ 63) ≤ i ∧ i < 2 ^ 63 then match ds[j]? with
      | some d => some (d, ds.eraseIdx j)
      | none => none
      else none
    | none => none
  | _, _ => none
theorem ud_popAt : MutD rPopAt uPopAt := by
  intro rt F H p vs ds as us d ds' Q s hp hl ha e k
  match as, e with
  | [.int i], e =>
    simp only [uPopAt] at e
    cases q : ixN ds.length i with
    | none => rw [q] at e; cases e
    | some j =>
      rw [q] at e
      simp only at e
      split at e
      · rename_i hz
        cases q2 : ds[j]? with
        | none => rw [q2] at e; cases e
        | some d' =>
          rw [q2] at e
          simp only [Option.some.injEq, Prod.mk.injEq] at e
          obtain ⟨rfl, rfl⟩ := e
          obtain ⟨v, rfl, hv⟩ := hl1 ha
          simp only [Holds] at hv
          subst hv
          obtain ⟨w, ew, hw⟩ := hl.get q2
          obtain ⟨h1, _⟩ := ixN_seq q
          exact ⟨p, vs, i, j, w, rfl, rfl, hp, hz.1, hz.2, by rw [hl.length]; exact h1, ew, k _ _ hw (hl.eraseIdx j)⟩
      · cases e

/-! ### x[k] = e, x += e -/
def ssub {Z : TSys} (i : Nat) (mk me : M Z) : SM Z := fun e t => match me e t with
  | some (d, e1, t1) => if isL1 e1 i then match mk e1 t1 with
    | some (.int k, e2, t2) => match e2[i]? with
      | some (.ow 1 (.lst ds)) => match ixN ds.length k with
        | some j => some (.nx, e2.set i (.ow 1 (.lst (ds.set j d))), t2)
        | none => none
      | _ => none
    | _ => none
    else none
  | none => none
section
variable {Z : TSys} {X : Cx} {x : Str} {xpos pos spos : Pos} {e k : Expr} {i : Nat} {mk me : M Z}
theorem is_sub (he : IsE Z X e me) (ho : PE X (.Name x xpos) (tVar i)) (hk : IsE Z X k mk) (hs : swapsWithSole [.Subscript (.Name x xpos) k spos] e pos.line X.env = pure false := by rfl) (hw : swappedStores [.Subscript (.Name x xpos) k spos] e X.env = pure none := by rfl)
    (h1 : (assignEach [.Subscript (.Name x xpos) k spos] X.env).map (·.2) = [assign (.Subscript (.Name x xpos) k spos) X.env] := by rfl)
    (ha : ∀ v, assign (.Subscript (.Name x xpos) k spos) X.env v = (do
      let ov ← holding [v] (eval (.Name x xpos) X.env)
      let iv ← holding [v, ov] (eval k X.env)
      standAt spos
      holding [v, ov, iv] (setItem ov iv v)
      release [v, ov, iv] []) := by intro _; rfl) : IsS Z X (.Assign [.Subscript (.Name x xpos) k spos] e pos) (ssub i mk me) :=
  ⟨PS.imp (ps_asg he.pe (pg_sub ho hk.pe set_list ha) hs hw h1) fun Dn σ H ⟨ad, env, T, F, A, fl, env', T', R, e, kk⟩ => by
    unfold ssub at e
    cases q : me env T with
    | none => rw [q] at e; cases e
    | some z =>
      obtain ⟨d, e1, t1⟩ := z
      rw [q] at e
      simp only at e
      refine ⟨ad, env, T, F, A, d, e1, t1, R, q, fun v H' F' A' R' S' hv => ?_⟩
      by_cases hi : isL1 e1 i = true
      · rw [if_pos hi] at e
        obtain ⟨ds0, q0⟩ := isL1_get hi
        obtain ⟨p, vs0, es, _, _, _⟩ := R'.mutL q0
        refine ⟨.ref p, es, ?_⟩
        cases q2 : mk e1 t1 with
        | none => rw [q2] at e; cases e
        | some z2 =>
          obtain ⟨dk, e2, t2⟩ := z2
          rw [q2] at e
          cases dk with
          | int kx =>
            simp only at e
            refine ⟨ad, e1, t1, F', A', .int kx, e2, t2, R', q2, fun w H2 F2 A2 R2 S2 hw => ?_⟩
            simp only [Holds] at hw
            subst hw
            cases q1 : e2[i]? with
            | none => rw [q1] at e; cases e
            | some sl =>
              rw [q1] at e
              match sl, q1, e with
              | .ow 1 (.lst ds), q1, e =>
                simp only at e
                cases q3 : ixN ds.length kx with
                | none => rw [q3] at e; cases e
                | some j =>
                  rw [q3] at e
                  simp only [Option.some.injEq, Prod.mk.injEq] at e
                  obtain ⟨rfl, rfl, rfl⟩ := e
                  obtain ⟨p', vs, es', hp, hl, go⟩ := R2.mutL q1
                  rw [es] at es'
                  cases es'
                  obtain ⟨R3, S3⟩ := go (ds.set j d) (vs.set j v) (hl.set j (hv.mono S2.sF))
                  exact ⟨p, vs, kx, j, rfl, rfl, hp, by rw [hl.length]; exact q3, kk σ _ F2 A2 R3 ((S'.trans S2).trans S3)⟩
          | _ => cases e
      · rw [if_neg hi] at e; cases e⟩
end
/-- x op= e on shared data -/
def saug {Z : TSys} (i : Nat) (g : D → D → Option D) (m : M Z) : SM Z := fun e t => match e[i]? with
  | some (.sh d) => match m e t with
    | some (y, e1, t1) => match g d y with
      | some r => some (.nx, e1.set i (.sh r), t1)
      | none => none
    | none => none
  | _ => none
theorem is_aug {Z : TSys} {X : Cx} {x : Str} {pos pos' : Pos} {e : Expr} {i : Nat} {m : M Z} {op : Operator} {r : R2} {g : D → D → Option D} (hN : X.N.Nodup) (hi : X.N[i]? = some x) (hx : Loc X.env.scope x) (ho : OpR X (inplaceOp op) r) (hd : OpD r g) (he : IsE Z X e m)
    (hf : X.fn x = true ∨ X.env.scope.names.lookup x = some .local := by first | exact .inl rfl | exact .inr rfl | assumption) : IsS Z X (.AugAssign (.Name x pos') op e pos) (saug i g m) :=
  ⟨PS.imp (ps_aug hN hi hx he.pe (show PIp X op r from ho) hf) fun Dn σ H ⟨ad, env, T, F, A, fl, env', T', R, e, kk⟩ => by
    unfold saug at e
    cases q0 : env[i]? with
    | none => rw [q0] at e; cases e
    | some s0 =>
      rw [q0] at e
      cases s0 with
      | sh d =>
        simp only at e
        obtain ⟨o, A0, A1, A2, e1, eA, ⟨_, v, eo, hv⟩, _⟩ := R.env.split q0
        subst eo
        refine ⟨v, e1, ?_⟩
        cases q : m env T with
        | none => rw [q] at e; cases e
        | some z =>
          obtain ⟨y, e2, t2⟩ := z
          rw [q] at e
          simp only at e
          cases q2 : g d y with
          | none => rw [q2] at e; cases e
          | some r' =>
            rw [q2] at e
            simp only [Option.some.injEq, Prod.mk.injEq] at e
            obtain ⟨rfl, rfl, rfl⟩ := e
            refine ⟨ad, env, T, F, A, y, e2, t2, R, q, fun w H' F' A' R' S' hw => ?_⟩
            refine hd _ F' H' d y r' v w _ R'.same (HB.of R'.same (hv.mono S'.sF)) (HB.of R'.same hw) q2 fun z F2 H2 n hz => ?_
            obtain ⟨R2, S2⟩ := R'.new n
            obtain ⟨A3, R3, S3⟩ := R2.setSh i hz
            exact kk _ H2 F2 A3 R3 ((S'.trans S2).trans S3)
      | _ => cases e⟩
theorem iop_addA {X : Cx} : OpR X (inplaceOp .Add) (fun x y H Q => (rI0 fun i j => .int (i + j)) x y H Q ∨ ∃ i j, x = .str i ∧ y = .str j ∧ i.length + j.length ≤ sizeLine ∧ Q (.str (i ++ j)) H) := iop_add.or iop_add_str
def addIS : D → D → Option D
  | .int i, .int j => some (.int (i + j))
  | .str x, .str y => if x.length + y.length ≤ sizeLine then some (.str (x ++ y)) else none
  | _, _ => none
theorem od_addIS : OpD (fun x y H Q => (rI0 fun i j => .int (i + j)) x y H Q ∨ ∃ i j, x = .str i ∧ y = .str j ∧ i.length + j.length ≤ sizeLine ∧ Q (.str (i ++ j)) H) addIS := by
  intro rt F H dx dy d x y Q s hx hy e k
  cases dx with
  | int i =>
    cases dy with
    | int j =>
      simp only [addIS, Option.some.injEq] at e
      subst e
      exact .inl ⟨i, j, hx.int, hy.int, fin0 s k (by simp only [Holds])⟩
    | _ => cases e
  | str i =>
    cases dy with
    | str j =>
      simp only [addIS] at e
      split at e
      · rename_i hz
        simp only [Option.some.injEq] at e
        subst e
        exact .inr ⟨i, j, hx.str, hy.str, hz, fin0 s k (by simp only [Holds])⟩
      · cases e
    | _ => cases e
  | _ => cases e
end DL

/-! The data layer, 10: products, index, join, isinstance. -/
namespace DL
open PySem L2 PySem.Spec PyProof.Rows

/-! ### tuple * int -/
theorem tuple_mulSame (l : Addr) (items : Array Value) (n : Nat) (dd : Option Addr) (sl : Array (Option Value)) (x : Int) (u : Tok) (c0 : (decide (x < -(2 ^ 63)) || decide (x ≥ 2 ^ 63)) = false) (c1 : (items.isEmpty || x == 1) = true) :
    Meets (Builtin.«tuple.__mul__» ⟨[.ref l, .int x u], []⟩) (fun _ R s => s.heap.get? l = some { cls := .type "tuple", dict := dd, data := .seq items n, slots := sl } ∧ R (.ok (.ret (Value.ref l))) s) :=
  .of_wp fun prog w A R s h => by
    obtain ⟨hp, g, d, tk, os⟩ := s
    obtain ⟨hl, h⟩ := h
    have f1 := AutoSeq1.idx_int
    wp_walk using wpAny_loadPart' hl
    repeat (first
      | (refine wpAny_ite_false (decide_eq_false (by rw [c0]; exact Bool.false_ne_true)) ?_; wp_walk using wpAny_loadPart' hl)
      | (refine wpAny_ite_true (decide_eq_true (by rw [c1])) ?_; wp_walk using wpAny_loadPart' hl))
    exact ⟨_, rfl, h⟩
theorem tuple_mulNone (l : Addr) (items : Array Value) (n : Nat) (dd : Option Addr) (sl : Array (Option Value)) (x : Int) (u : Tok) (c0 : (decide (x < -(2 ^ 63)) || decide (x ≥ 2 ^ 63)) = false) (c1 : (items.isEmpty || x == 1) = false) (c2 : (decide (x ≤ 0) || items.isEmpty) = true) :
    Meets (Builtin.«tuple.__mul__» ⟨[.ref l, .int x u], []⟩) (fun _ R s => s.heap.get? l = some { cls := .type "tuple", dict := dd, data := .seq items n, slots := sl } ∧
      R (.ok (.ret (Value.ref s.heap.objs.size))) { s with heap := s.heap.push { cls := Value.type "tuple", data := Data.seq #[] }, toks := s.toks }) :=
  .of_wp fun prog w A R s h => by
    obtain ⟨hp, g, d, tk, os⟩ := s
    obtain ⟨hl, h⟩ := h
    have f1 := AutoSeq1.idx_int
    wp_walk using wpAny_loadPart' hl
    repeat (first
      | (refine wpAny_ite_false (decide_eq_false (by rw [c0]; exact Bool.false_ne_true)) ?_; wp_walk using wpAny_loadPart' hl)
      | (refine wpAny_ite_false (decide_eq_false (by rw [c1]; exact Bool.false_ne_true)) ?_; wp_walk using wpAny_loadPart' hl)
      | (refine wpAny_ite_true (decide_eq_true (by rw [c2])) ?_; wp_walk using wpAny_loadPart' hl))
    exact ⟨_, rfl, h⟩

def rRepF (K : PySem.W.Frag) : R2 := fun x y H Q => ∃ l k xs, x = .ref l ∧ y = .int k ∧ SqT K H l xs ∧ k ≤ 1000 ∧ -(2 ^ 63) ≤ k ∧ xs.length ≤ 1000 ∧
  (k = 1 → Q (.ref l) H) ∧ (xs = [] → Q (.ref l) H) ∧ ∀ p o, H p = none → o.dict = none → Q (.ref p) (upd H p (.frz o (.tup (List.replicate k.toNat xs).flatten)))
section
variable {X : Cx}
theorem op_repF : OpR X (binaryOp .Mult) (rRepF X.K) := by
  intro pins s σ H x y v u Q I rx ry h
  obtain ⟨l, k, xs, rfl, rfl, hT, h2, h1, hz, q1, q0, q⟩ := h
  cases rx
  obtain ⟨t, rfl⟩ := ry
  obtain ⟨its, r, ⟨⟨cls, dd, data, sl⟩, ho, hc, n, hd⟩, hs⟩ := I.tuple hT
  simp only at hc hd
  subst hc hd
  have hle : its.length = xs.length := r.length.symm
  have hsz0 : its.toArray.size = xs.length := by rw [List.size_toArray, hle]
  have c0 : (decide (k < -(2 ^ 63)) || decide (k ≥ 2 ^ 63)) = false := by
    rw [decide_eq_false (by omega), decide_eq_false (by omega)] <;> rfl
  refine wpAny_binaryOp_repeat_ref (T := "tuple") (U := "int") (by decide) ⟨_, ho, rfl⟩ (fun s' => typeIs_int s' k t) noFill_tuple_mul F.fills_int_mul F.slot_int_rmul repeat_tuple F.slot_int_index.lookup
    (call_meets F.slot_int_rmul (typeIs_int s k t) F.entry_int_rmul (F.args_int_rmul_2 _ _) (int_rmul_tuple k t l its.toArray n dd sl) ⟨ho, rfl, ⟨_, ho, rfl⟩, ?_⟩)
  by_cases c1 : (its.toArray.isEmpty || k == 1) = true
  · refine call_meets F.slot_tuple_mul ⟨_, ho, rfl⟩ F.entry_tuple_mul (F.args_tuple_mul_2 _ _) (tuple_mulSame l its.toArray n dd sl k t c0 c1) ⟨ho, ?_⟩
    refine ⟨.ref l, H, I, rfl, ?_⟩
    rw [Bool.or_eq_true] at c1
    rcases c1 with z | z
    · exact q0 (by
        have : its.toArray.size = 0 := by simpa using z
        rw [hsz0] at this
        exact List.eq_nil_of_length_eq_zero this)
    · exact q1 (by simpa using z)
  · have c1' : (its.toArray.isEmpty || k == 1) = false := by simpa using c1
    have ne : its.toArray.isEmpty = false := (Bool.or_eq_false_iff.mp c1').1
    by_cases c2 : (decide (k ≤ 0) || its.toArray.isEmpty) = true
    · refine call_meets F.slot_tuple_mul ⟨_, ho, rfl⟩ F.entry_tuple_mul (F.args_tuple_mul_2 _ _) (tuple_mulNone l its.toArray n dd sl k t c0 c1' c2) ⟨ho, ?_⟩
      rw [ne, Bool.or_false] at c2
      have k0 : k.toNat = 0 := by have := of_decide_eq_true c2; omega
      rw [k0] at q
      exact ⟨.ref s.heap.objs.size, _, laidT I (xs := []) (us := []) .nil (Nat.zero_le _) s.toks, rfl, q _ _ (I.hok.fresh (Nat.le_refl _)) rfl⟩
    · have c2' : (decide (k ≤ 0) || its.toArray.isEmpty) = false := by simpa using c2
      rw [ne, Bool.or_false] at c2
      have kp : 1 ≤ k := by
        have : ¬ k ≤ 0 := fun z => c2 (decide_eq_true z)
        omega
      have hm : ((its.toArray.size : Nat) : Int) * k ≤ 1000000 := by
        rw [hsz0]
        have a1 : ((xs.length : Nat) : Int) * k ≤ 1000 * k := Int.mul_le_mul_of_nonneg_right (by omega) (by omega)
        omega
      have flen : (List.replicate k.toNat its).flatten.length ≤ sizeLine := by
        rw [PyProof.Rows.lm_len_rep_flat, hle, sizeLine_eq]
        have a1 : k.toNat * xs.length ≤ 1000 * 1000 := Nat.mul_le_mul (by omega) hz
        omega
      have flen2 : (List.replicate k.toNat xs).flatten.length ≤ sizeLine := by
        rw [PyProof.Rows.lm_len_rep_flat, sizeLine_eq]
        have a1 : k.toNat * xs.length ≤ 1000 * 1000 := Nat.mul_le_mul (by omega) hz
        omega
      have c4 : Builtin.Tuple.tupleTooMany (((its.toArray.size : Nat) : Int) * k) = false := by
        unfold Builtin.Tuple.tupleTooMany
        rw [sizeLine_eq]
        exact decide_eq_false (by omega)
      refine call_meets F.slot_tuple_mul ⟨_, ho, rfl⟩ F.entry_tuple_mul (F.args_tuple_mul_2 _ _) (tuple_mulW l its.toArray n dd sl k t c0 c1' c2' (by omega) c4 (by rw [size_rep, List.size_toArray]; exact flen)) ⟨ho, ?_⟩
      rw [size_rep]
      exact ⟨.ref s.heap.objs.size, _, laidT I (r.rep k.toNat) flen2 s.toks, rfl, q _ _ (I.hok.fresh (Nat.le_refl _)) rfl⟩
/-- text * int -/
def repS (k : Nat) (x : Str) : Str := ⟨((List.replicate k x.cps.toList).flatten).toArray⟩
theorem fold_cps (x : Str) : ∀ (k : Nat) (acc : Array Nat), (List.replicate k x.cps).foldl (· ++ ·) acc = acc ++ ((List.replicate k x.cps.toList).flatten).toArray
  | 0, acc => by simp
  | k + 1, acc => by
    rw [List.replicate_succ, List.foldl_cons, fold_cps x k, List.replicate_succ, List.flatten_cons]
    apply Array.ext'
    simp
def rRepS : R2 := fun x y H Q => ∃ z k, x = .str z ∧ y = .int k ∧ k ≤ 1000 ∧ -(2 ^ 63) ≤ k ∧ z.length ≤ 1000 ∧ Q (.str (repS k.toNat z)) H
theorem op_repS : OpR X (binaryOp .Mult) rRepS := by
  intro pins s σ H x y v u Q I rx ry h
  obtain ⟨z, k, rfl, rfl, h2, h1, hz, q⟩ := h
  obtain ⟨t, rfl⟩ := rx
  obtain ⟨t', rfl⟩ := ry
  have fin : ∀ {z' : Str}, z' = repS k.toNat z → ∀ tk, EP X pins σ Q (.str z' tk) { s with toks := s.toks + 1 } := fun {z'} e tk => by
    subst e
    exact ⟨.str (repS k.toNat z), H, I.tok _, ⟨_, rfl⟩, q⟩
  refine PySem.P.mul_str (by rw [decide_eq_false (by omega), decide_eq_false (by omega)]; rfl) (fun hk hne => ?_) (fun hk hne => ?_) ?_
  · have kp : 1 ≤ k := by omega
    have : (1000 : Int) ≤ (2 ^ 63 - 1) / k := by
      rw [Int.le_ediv_iff_mul_le (by omega)]
      omega
    omega
  · unfold Builtin.Str.tooLong
    have : z.length * k.toNat ≤ 1000 * 1000 := Nat.mul_le_mul hz (by omega)
    first
      | (rw [sizeLine_eq]; exact decide_eq_false (by omega))
      | (simp; omega)
  · by_cases hk : k < 1
    · rw [if_pos hk]
      refine ⟨by decide, fin ?_ _⟩
      unfold repS
      rw [show k.toNat = 0 by omega]
      rfl
    · rw [if_neg hk]
      by_cases h1' : (k == 1 || z.length == 0) = true
      · rw [if_pos h1']
        have e : z = repS k.toNat z := by
          unfold repS
          rw [Bool.or_eq_true] at h1'
          rcases h1' with w | w
          · have : k = 1 := by simpa using w
            subst this
            simp
          · have w' : z.cps.size = 0 := by
              have w0 : z.length = 0 := by simpa using w
              exact w0
            have w2 : z.cps = #[] := Array.eq_empty_of_size_eq_zero w'
            obtain ⟨c⟩ := z
            simp only at w2
            subst w2
            simp
        exact ⟨.str (repS k.toNat z), H, I, by rw [← e]; exact ⟨_, rfl⟩, q⟩
      · rw [if_neg h1']
        refine ⟨?_, fin ?_ _⟩
        · show (⟨(List.replicate k.toNat z.cps).foldl (· ++ ·) #[]⟩ : Str).length ≤ sizeLine
          rw [fold_cps]
          show (#[] ++ ((List.replicate k.toNat z.cps.toList).flatten).toArray).size ≤ sizeLine
          have : z.length * k.toNat ≤ 1000 * 1000 := Nat.mul_le_mul hz (by omega)
          simp only [Array.size_append, List.size_toArray, PyProof.Rows.lm_len_rep_flat]
          rw [sizeLine_eq]
          have e : z.cps.toList.length = z.length := by simp [Str.length]
          rw [e, Nat.mul_comm]
          simp
          omega
        · rw [fold_cps]; unfold repS; simp
end

def repD (k : Nat) (xs : List D) : List D := (List.replicate k xs).flatten
def mulD : D → D → Option D
  | .int i, .int j => if (-(2 ^ 64) < i ∧ i < 2 ^ 64) ∨ (-(2 ^ 64) < j ∧ j < 2 ^ 64) then some (.int (i * j)) else none
  | .str z, .int k => if k ≤ 1000 ∧ -(2 ^ 63) ≤ k ∧ z.length ≤ 1000 then some (.str (repS k.toNat z)) else none
  | .tup xs, .int k => if k ≤ 1000 ∧ -(2 ^ 63) ≤ k ∧ xs.length ≤ 1000 then some (.tup (repD k.toNat xs)) else none
  | .lst xs, .int k => if k ≤ 1000 ∧ -(2 ^ 63) ≤ k ∧ xs.length ≤ 1000 then some (.lst (repD k.toNat xs)) else none
  | _, _ => none
def mulN : D → D → Option (List D)
  | .lst xs, .int k => if k ≤ 1000 ∧ -(2 ^ 63) ≤ k ∧ xs.length ≤ 1000 then some (repD k.toNat xs) else none
  | _, _ => none
theorem HoldsL.rep {rt : V} {F : Hp} {ds : List D} {vs : List V} (h : HoldsL rt F ds vs) : ∀ k : Nat, HoldsL rt F (repD k ds) (List.replicate k vs).flatten
  | 0 => .nil
  | k + 1 => by
    unfold repD
    rw [List.replicate_succ, List.replicate_succ, List.flatten_cons, List.flatten_cons]
    exact h.app (h.rep k)
theorem repD_length (k : Nat) (ds : List D) : (repD k ds).length = k * ds.length := by unfold repD; rw [PyProof.Rows.lm_len_rep_flat]
theorem on_rep : OpN rRep mulN := by
  intro rt F H dx dy ds x y Q s hx hy e k
  cases dx with
  | lst xs =>
    cases dy with
    | int n =>
      simp only [mulN] at e
      split at e
      · rename_i hz
        simp only [Option.some.injEq] at e
        subst e
        obtain ⟨a, vs, rfl, f, l⟩ := hx.lst
        refine ⟨a, n, vs, rfl, hy.int, f, hz.2.1, by omega, ?_, fun p hp => k p _ hp (l.rep _)⟩
        rw [l.length]
        have : xs.length * n.toNat ≤ 1000 * 1000 := Nat.mul_le_mul hz.2.2 (by omega)
        exact Nat.le_trans this (by decide)
      · cases e
    | _ => cases e
  | _ => cases e
def rMulA (K : PySem.W.Frag) : R2 := fun x y H Q => (rI CMul fun i j => .int (i * j)) x y H Q ∨ rRepS x y H Q ∨ rRepF K x y H Q ∨ rRep x y H Q
theorem op_mulA {X : Cx} : OpR X (binaryOp .Mult) (rMulA X.K) := op_mul.or (op_repS.or (op_repF.or op_rep))
theorem od_mul {K : PySem.W.Frag} : OpD (rMulA K) mulD := by
  intro rt F H dx dy d x y Q s hx hy e k
  cases dy with
  | int n =>
    cases dx with
    | int i =>
      simp only [mulD] at e
      split at e
      · rename_i hz
        simp only [Option.some.injEq] at e
        subst e
        exact .inl ⟨i, n, hx.int, hy.int, hz, fin0 s k (by simp only [Holds])⟩
      · cases e
    | str z =>
      simp only [mulD] at e
      split at e
      · rename_i hz
        simp only [Option.some.injEq] at e
        subst e
        exact .inr (.inl ⟨z, n, hx.str, hy.int, hz.1, hz.2.1, hz.2.2, fin0 s k (by simp only [Holds])⟩)
      · cases e
    | tup xs =>
      simp only [mulD] at e
      split at e
      · rename_i hz
        simp only [Option.some.injEq] at e
        subst e
        obtain ⟨a, vs, rfl, f, l⟩ := hx.tup
        refine .inr (.inr (.inl ⟨a, n, vs, rfl, hy.int, (f.mono s).sq, hz.1, hz.2.1, by rw [l.length]; exact hz.2.2, fun e1 => ?_, fun e0 => ?_, fun p o hp ho => finT s k hp ho (l.rep _)⟩))
        · subst e1
          refine fin0 s k ?_
          simp only [Holds]
          exact ⟨a, vs, rfl, f, by unfold repD; simpa using l⟩
        · subst e0
          have : xs = [] := List.eq_nil_of_length_eq_zero l.length.symm
          subst this
          refine fin0 s k ?_
          simp only [Holds]
          exact ⟨a, [], rfl, f, by unfold repD; simpa using l⟩
      · cases e
    | lst xs =>
      simp only [mulD] at e
      refine .inr (.inr (.inr (on_rep.toD rt F H (.lst xs) (.int n) d x y Q s hx hy ?_ k)))
      simp only [mulN]
      split at e
      · rename_i hz; rw [if_pos hz]; exact e
      · cases e
    | _ => cases e
  | _ => cases dx <;> cases e

/-! ### methods of texts, lists, tuples that change nothing -/
def MtD (r : V → List V → Hp → VK → Prop) (g : D → List D → Option D) : Prop := ∀ (rt : V) (F H : Hp) (dx d : D) (ds : List D) (x : V) (vs : List V) (Q : VK), Same F H → HB rt F H dx x → HBL rt F H ds vs → g dx ds = some d →
  (∀ v F' H', New F H F' H' → Holds rt F' d v → Q v H') → r x vs H Q
/-- the kind of a datum -/
def kindD : D → String
  | .non => "NoneType"
  | .bl _ => "bool"
  | .int _ => "int"
  | .str _ => "str"
  | .tup _ => "tuple"
  | .lst _ => "list"
  | .dic _ _ => "dict"
  | .set _ => "set"
  | .tape => "?"
/-- what may have a method: the receiver's type, its own dict is none -/
def tyF (H : Hp) (T : String) (x : V) : Prop := (∃ z, x = .str z ∧ T = "str") ∨ (∃ p xs, x = .ref p ∧ H p = some (.lst xs) ∧ T = "list") ∨ (∃ p xs, x = .ref p ∧ TupF H p xs ∧ T = "tuple") ∨ (∃ p kvs, x = .ref p ∧ H p = some (.dK kvs) ∧ T = "dict") ∨ (∃ p kvs, x = .ref p ∧ H p = some (.dT kvs) ∧ T = "dict")
theorem tyF_is {X : Cx} {pins : List (Addr × Obj)} {σ : L2.St} {H : Hp} {s : Shared} {T : String} {x : V} {v : Value} (I : Inv X pins σ H s) (r : RelV x v) (ty : tyF H T x) :
    s.TypeIs v T ∧ ∀ a, v = .ref a → ∃ ob, s.heap.get? a = some ob ∧ ob.dict = none := by
  rcases ty with ⟨z, rfl, rfl⟩ | ⟨p, xs, rfl, e, rfl⟩ | ⟨p, xs, rfl, e, rfl⟩ | ⟨p, kvs, rfl, e, rfl⟩ | ⟨p, kvs, rfl, e, rfl⟩
  · exact tyV_is (X := X) (x := .str z) (T := "str") I r rfl
  · exact tyV_is (X := X) (x := .ref p) (T := "list") I r (.inl ⟨rfl, xs, SqL.of e⟩)
  · cases r
    obtain ⟨o, e, hd⟩ := e
    obtain ⟨ho, _, its, rv, o', ho', hc, _⟩ := I.hok p _ e
    rw [ho] at ho'
    cases ho'
    refine ⟨⟨o, ho, hc⟩, fun a ea => ?_⟩
    cases ea
    exact ⟨o, ho, hd⟩
  · exact tyV_is (X := X) (x := .ref p) (T := "dict") I r (.inr (.inr (.inl ⟨rfl, .inl ⟨kvs, e⟩⟩)))
  · exact tyV_is (X := X) (x := .ref p) (T := "dict") I r (.inr (.inr (.inl ⟨rfl, .inr ⟨kvs, e⟩⟩)))
theorem HB.ty {rt : V} {F H : Hp} {d : D} {x : V} (s : Same F H) (h : HB rt F H d x) (k : kindD d = "str" ∨ kindD d = "list" ∨ kindD d = "tuple" ∨ kindD d = "dict") : tyF H (kindD d) x := by
  cases d with
  | str z => exact .inl ⟨z, h.str, rfl⟩
  | lst xs => obtain ⟨a, vs, rfl, f, l⟩ := h.lst; exact .inr (.inl ⟨a, vs, rfl, f, rfl⟩)
  | tup xs => obtain ⟨a, vs, rfl, f, l⟩ := h.tup; exact .inr (.inr (.inl ⟨a, vs, rfl, f.mono s, rfl⟩))
  | dic ks xs =>
    obtain ⟨a, vs, rfl, l, f⟩ := h
    rcases f with ⟨kk, _, _, f⟩ | ⟨kk, _, _, f⟩
    · exact .inr (.inr (.inr (.inl ⟨a, _, rfl, f, rfl⟩)))
    · exact .inr (.inr (.inr (.inr ⟨a, _, rfl, f, rfl⟩)))
  | _ => simp [kindD] at k
def tBMF (T : String) (r : V → List V → Hp → VK → Prop) (to : TE) (t : TA) : TE := fun σ H Q => to σ H fun x H1 => tyF H1 T x ∧ t σ H1 fun xs H2 => r x xs H2 Q
section
variable {X : Cx} {o e : Expr} {es : List Expr} {to : TE} {t : TA} {name : Str} {apos cpos : Pos} {T id : String} {r : V → List V → Hp → VK → Prop}
theorem pe_bmF (pa : PlainAttrs T) (slot : Slot T name id) (hty : typeOf (.builtin id) = pure (.type "method_descriptor")) (hm : MtR X id r) (ho : PE X o to) (ha : PA X (e :: es) t)
    (hbase : attributeBase o name X.env (eval o X.env) = eval o X.env := by rfl)
    (hfew : ((backTo cpos (starEach (e :: es) X.env)).all (fun x => !x.1) && (backToKw cpos (keywordEach [] X.env)).all (fun x => x.1.isSome)
      && decide ((e :: es).length + ([] : List Keyword).length + (if ([] : List Keyword).isEmpty then 0 else 1) < 30)) = true := by rfl)
    (hline : (apos.endLine == cpos.line) = true := by rfl) (hs : starEach (e :: es) X.env = (false, eval e X.env) :: starEach es X.env := by rfl) (hplain : (backTo cpos (starEach es X.env)).any (·.1) = false := by rfl) :
    PE X (.Call (.Attribute o name apos) (e :: es) [] cpos) (tBMF T r to t) := by
  refine ⟨fun pins s σ H Q I h => ?_⟩
  refine wpAny_Call_method_late hbase hfew hline rfl (thn (ho.run pins s σ H _ I h) fun v s1 ⟨x, H1, I1, r1, ty, q1⟩ => ?_)
  obtain ⟨h1, h2⟩ := tyF_is I1 r1 ty
  refine ⟨T, id, pa, slot, hty, h1, h2, ?_⟩
  have hA := ha.run cpos pins s1 σ H1 _ I1 q1
  rw [hs] at hA ⊢
  refine Calls.callWith_builtin (by show (false || (backTo cpos (starEach es X.env)).any (·.1)) = false; rw [hplain] <;> rfl) (Calls.evalArgs_plain ?_)
  exact thn hA fun us s2 ⟨vs, H2, I2, r2, q2⟩ => hm pins s2 σ H2 x vs v us Q I2 r1 r2 q2
end
def mmt {Z : TSys} (T : String) (g : D → List D → Option D) (a : Arg Z) (as : List (Arg Z)) : M Z := fun e t => if slotOk a e then match evA a e t with
  | some (o, e1, t1) => match getA a o e1 with
    | some d0 => if kindD d0 = T then match evN as e1 t1 with
      | some (ds, e2, t2) => match getA a o e2 with
        | some d => match g d ds with
          | some r => some (r, e2, t2)
          | none => none
        | none => none
      | none => none
      else none
    | none => none
  | none => none
  else none
section
variable {Z : TSys} {X : Cx} {o e : Expr} {es : List Expr} {name : Str} {apos cpos : Pos} {T id : String} {r : V → List V → Hp → VK → Prop} {g : D → List D → Option D} {A : Arg Z} {as : List (Arg Z)}
theorem ie_mt (hT : T = "str" ∨ T = "list" ∨ T = "tuple" ∨ T = "dict") (pa : PlainAttrs T) (slot : Slot T name id) (hty : typeOf (.builtin id) = pure (.type "method_descriptor")) (hm : MtR X id r) (hd : MtD r g) (ho : IsA Z X o A) (ha : IsAs Z X (e :: es) as)
    (hbase : attributeBase o name X.env (eval o X.env) = eval o X.env := by rfl)
    (hfew : ((backTo cpos (starEach (e :: es) X.env)).all (fun x => !x.1) && (backToKw cpos (keywordEach [] X.env)).all (fun x => x.1.isSome)
      && decide ((e :: es).length + ([] : List Keyword).length + (if ([] : List Keyword).isEmpty then 0 else 1) < 30)) = true := by rfl)
    (hline : (apos.endLine == cpos.line) = true := by rfl) (hs : starEach (e :: es) X.env = (false, eval e X.env) :: starEach es X.env := by rfl) (hplain : (backTo cpos (starEach es X.env)).any (·.1) = false := by rfl) :
    IsE Z X (.Call (.Attribute o name apos) (e :: es) [] cpos) (mmt T g A as) :=
  ⟨PE.imp (pe_bmF pa slot hty hm ho.pe ha.pa hbase hfew hline hs hplain) fun σ H Q ⟨ad, env, T0, F, A0, d, env', T', R, e, k⟩ => by
    unfold mmt at e
    by_cases so : slotOk A env = true
    · rw [if_pos so] at e
      cases q : evA A env T0 with
      | none => rw [q] at e; cases e
      | some z =>
        obtain ⟨o1, e1, t1⟩ := z
        rw [q] at e
        simp only at e
        cases g1 : getA A o1 e1 with
        | none => rw [g1] at e; cases e
        | some d0 =>
          rw [g1] at e
          simp only at e
          by_cases hk : kindD d0 = T
          · rw [if_pos hk] at e
            refine ⟨ad, env, T0, F, A0, o1, e1, t1, R, q, slotOk.has R so, fun v H' F' A' R' S' hv => ⟨?_, ?_⟩⟩
            · have := HB.ty R'.same (hv.get R' g1) (by rw [hk]; exact hT)
              rw [hk] at this
              exact this
            · cases q2 : evN as e1 t1 with
              | none => rw [q2] at e; cases e
              | some z2 =>
                obtain ⟨ds, e2, t2⟩ := z2
                rw [q2] at e
                simp only at e
                cases g2 : getA A o1 e2 with
                | none => rw [g2] at e; cases e
                | some d1 =>
                  rw [g2] at e
                  simp only at e
                  cases g3 : g d1 ds with
                  | none => rw [g3] at e; cases e
                  | some dr =>
                    rw [g3] at e
                    simp only [Option.some.injEq, Prod.mk.injEq] at e
                    obtain ⟨rfl, rfl, rfl⟩ := e
                    refine evN_run (Q := fun us H2 => r v us H2 Q) q2 R' fun us H2 F2 A2 R2 S2 hu => ?_
                    refine hd _ F2 H2 d1 dr ds v us Q R2.same ((hv.mono S2.sF).get R2 g2) hu g3 fun w F3 H3 n hw => ?_
                    obtain ⟨R3, S3⟩ := R2.new n
                    exact k w H3 F3 A2 R3 ((S'.trans S2).trans S3) hw
          · rw [if_neg hk] at e; cases e
    · rw [if_neg so] at e; cases e⟩
end
/-- sep.join(list or tuple of texts) -/
def joinG : D → List D → Option D
  | .str a, [d] => match seqD d with
    | some ds => match strsD ds with
      | some ys => if (ys.map (·.length)).sum + ys.length * a.length ≤ 16777216 then some (.str (Str.join a ys)) else none
      | none => none
    | none => none
  | _, _ => none
theorem md_join {K : PySem.W.Frag} : MtD (fun x xs H Q => ∃ a p, ∃ ys : List Str, x = .str a ∧ xs = [.ref p] ∧ (SqL K H p (ys.map V.str) ∨ SqT K H p (ys.map V.str)) ∧ (ys.map (·.length)).sum + ys.length * a.length ≤ 16777216 ∧ Q (.str (Txt.join a ys)) H) joinG := by
  intro rt F H dx d ds x vs Q s hx ha e k
  cases dx with
  | str a =>
    match ds, e with
    | [d1], e =>
      simp only [joinG] at e
      cases q : seqD d1 with
      | none => rw [q] at e; cases e
      | some xs =>
        rw [q] at e
        simp only at e
        cases q2 : strsD xs with
        | none => rw [q2] at e; cases e
        | some ys =>
          rw [q2] at e
          simp only at e
          split at e
          · rename_i hz
            simp only [Option.some.injEq] at e
            subst e
            obtain ⟨v, rfl, hv⟩ := hbl1 ha
            have es := strsD_inv q2
            subst es
            obtain ⟨p, us, rfl, f, l⟩ := hv.seq (K := K) s (ds := ys.map .str) (by cases d1 <;> simp_all [seqD])
            have eu := holds_strs l
            subst eu
            exact ⟨a, p, ys, hx.str, rfl, f, hz, fin0 s k (by simp only [Holds]; rw [TL.join_eq])⟩
          · cases e
  | _ => cases e
/-- text.find(text) -/
def findG : D → List D → Option D
  | .str a, [.str b] => some (.int (Txt.find a b))
  | _, _ => none
theorem md_find : MtD (fun x xs H Q => ∃ a b, x = .str a ∧ xs = [.str b] ∧ Q (.int (Txt.find a b)) H) findG := by
  intro rt F H dx d ds x vs Q s hx ha e k
  cases dx with
  | str a =>
    match ds, e with
    | [.str b], e =>
      simp only [findG, Option.some.injEq] at e
      subst e
      obtain ⟨v, rfl, hv⟩ := hbl1 ha
      exact ⟨a, b, hx.str, by rw [hv.str], fin0 s k (by simp only [Holds])⟩
  | _ => cases e
/-- xs.index(y), found -/
def idxOfD (y : D) : List D → Option Nat
  | [] => none
  | d :: ds => if eqvD d y then some 0 else (idxOfD y ds).map (· + 1)
def indexG : D → List D → Option D
  | x, [y] => match seqD x with
    | some ds => if okD 30 y && ds.all (okD 30) && decide (ds.length ≤ 1000000) then (idxOfD y ds).map fun j => .int (j : Nat) else none
    | none => none
  | _, _ => none
theorem idxOfD_spec {y : D} : ∀ {ds : List D} {j : Nat}, idxOfD y ds = some j → ∃ z, ds[j]? = some z ∧ eqvD z y = true ∧ ∀ (m : Nat) (w : D), m < j → ds[m]? = some w → eqvD w y = false
  | [], _, h => by cases h
  | d :: ds, j, h => by
    unfold idxOfD at h
    by_cases q : eqvD d y = true
    · rw [if_pos q] at h
      cases h
      exact ⟨d, rfl, q, fun m w hm => by omega⟩
    · rw [if_neg q] at h
      cases q2 : idxOfD y ds with
      | none => rw [q2] at h; cases h
      | some i =>
        rw [q2] at h
        simp only [Option.map_some, Option.some.injEq] at h
        subst h
        obtain ⟨z, h1, h2, h3⟩ := idxOfD_spec q2
        refine ⟨z, by simpa using h1, h2, fun m w hm hw => ?_⟩
        cases m with
        | zero => simp at hw; subst hw; simpa using q
        | succ m => exact h3 m w (by omega) (by simpa using hw)
def rIndexT (K : PySem.W.Frag) : V → List V → Hp → VK → Prop := fun x xs H Q => ∃ (a : Addr) (y : V) (d : PyData) (ds : List PyData) (j : Nat) (z : PyData), x = V.ref a ∧ xs = [y] ∧ Dp K H (V.ref a) (.tuple ds) ∧ Dp K H y d ∧
  PyData.canLayAll0 ds = true ∧ SeqAt.shaped d = true ∧ ds[j]? = some z ∧ PyData.eqv z d = true ∧ (∀ (m : Nat) (z' : PyData), m < j → ds[m]? = some z' → PyData.eqv z' d = false) ∧ Q (.int (j : Nat)) H
theorem mt_indexT {X : Cx} {k : Nat} (hr : Room k X.A) : MtR X "tuple.index" (rIndexT X.K) := by
  intro pins s σ H x xs v us Q I rx rxs h
  obtain ⟨a, y, d, ds, j, z, rfl, rfl, hl, hy, sl, sd, hz, hzj, hno, q⟩ := h
  cases rx
  cases rxs with
  | cons ry rt =>
    rename_i uy ut
    cases rt
    obtain ⟨bs, r1⟩ := Dp.reads I d y uy hy ry
    have hroom : X.A.units + 1 + min (PyData.depthAll ds) d.depth < cLine := room_in hr sd
    cases hl with
    | tup hs ha =>
      obtain ⟨its, rv, ⟨⟨cls, dd, data, sls⟩, ho, hc, n, hdt⟩, hlen⟩ := I.tuple hs
      simp only at hc hdt
      subst hc hdt
      obtain ⟨as, h4⟩ := Dp.readsAll I ds _ its ha rv
      have hn : its.length = ds.length := SeqAt.ReadsAll.length ds its as h4
      have hmap : its.map (SeqAt.readOf s.heap) = ds := SeqAt.readsAll_map ds its as sl h4
      obtain ⟨hjd, _⟩ := List.getElem?_eq_some_iff.mp hz
      have hjl : j < its.length := by omega
      have hj : j < its.toArray.size := by simpa using hjl
      have eqs := SeqAt.items_eqAt (vs := its.toArray) (show ReadsAll s.heap its.toArray.toList ds as from h4) r1 sl (SeqAt.canLay_of_shaped sd) hroom
      have at_ : ∀ (m : Nat) (hm : m < its.toArray.size), ds[m]? = some (SeqAt.readOf s.heap its.toArray[m]) := by
        intro m hm
        have hml : m < its.length := by simpa using hm
        rw [← hmap, List.getElem?_map, List.getElem?_eq_getElem hml]
        simp
      refine call_meets PySem.F.slot_tuple_index ⟨_, ho, rfl⟩ PySem.F.entry_tuple_index (PySem.F.args_tuple_index_2 _ _)
        (PySem.SeqAt.tuple_index2_found a its.toArray n dd sls uy (fun m => match ds[m]? with | some w => PyData.eqv w d | none => false) j hj (Nat.zero_le _) hj ?_ ?_) ⟨ho, fun m hm => ?_, ?_⟩
      · rw [hz]; exact hzj
      · intro m hm _ hmj
        rw [at_ m hm]
        exact hno m _ hmj (at_ m hm)
      · rw [at_ m hm]
        exact eqs _ (Array.getElem_mem hm)
      · exact ⟨.int (j : Nat), H, I.tok _, ⟨_, rfl⟩, q⟩
theorem idx_py {y : D} {ds : List D} {j : Nat} (h : idxOfD y ds = some j) : ∃ z, (toPyL ds)[j]? = some z ∧ PyData.eqv z (toPy y) = true ∧ ∀ (m : Nat) (w : PyData), m < j → (toPyL ds)[m]? = some w → PyData.eqv w (toPy y) = false := by
  obtain ⟨z, h1, h2, h3⟩ := idxOfD_spec h
  refine ⟨toPy z, by rw [toPyL_map, List.getElem?_map, h1]; rfl, by rw [eqvD_py]; exact h2, fun m w hm hw => ?_⟩
  rw [toPyL_map, List.getElem?_map] at hw
  cases q : ds[m]? with
  | none => rw [q] at hw; cases hw
  | some w' =>
    rw [q] at hw
    simp only [Option.map_some, Option.some.injEq] at hw
    subst hw
    rw [eqvD_py]
    exact h3 m w' hm q
theorem md_indexT {K : PySem.W.Frag} : MtD (rIndexT K) (fun x ys => match x with | .tup ds => indexG (.tup ds) ys | _ => none) := by
  intro rt F H dx d ds x vs Q s hx ha e k
  cases dx with
  | tup xs =>
    match ds, e with
    | [y], e =>
      simp only [indexG, seqD] at e
      split at e
      · rename_i hz
        simp only [Bool.and_eq_true, List.all_eq_true] at hz
        cases q : idxOfD y xs with
        | none => rw [q] at e; cases e
        | some j =>
          rw [q] at e
          simp only [Option.map_some, Option.some.injEq] at e
          subst e
          obtain ⟨v, rfl, hv⟩ := hbl1 ha
          obtain ⟨z, h1, h2, h3⟩ := idx_py q
          obtain ⟨a, us, rfl, f, l⟩ := hx.tup
          exact ⟨a, v, toPy y, toPyL xs, j, z, rfl, rfl, .tup (f.mono s).sq (HoldsL.dp hz.1.2 (l.mono s)), (hv.inH s).dp hz.1.1, layAll_of hz.1.2, okD_shaped hz.1.1 (by decide), h1, h2, h3, fin0 s k (by simp only [Holds])⟩
      · cases e
    | [], e => cases e
    | _ :: _ :: _, e => cases e
  | _ => cases e
theorem md_indexL {K : PySem.W.Frag} : MtD (rIndexD K) (fun x ys => match x with | .lst ds => indexG (.lst ds) ys | _ => none) := by
  intro rt F H dx d ds x vs Q s hx ha e k
  cases dx with
  | lst xs =>
    match ds, e with
    | [y], e =>
      simp only [indexG, seqD] at e
      split at e
      · rename_i hz
        simp only [Bool.and_eq_true, List.all_eq_true] at hz
        cases q : idxOfD y xs with
        | none => rw [q] at e; cases e
        | some j =>
          rw [q] at e
          simp only [Option.map_some, Option.some.injEq] at e
          subst e
          obtain ⟨v, rfl, hv⟩ := hbl1 ha
          obtain ⟨z, h1, h2, h3⟩ := idx_py q
          obtain ⟨a, us, rfl, f, l⟩ := hx.lst
          have ok31 : okD 31 (.lst xs) = true := by simp only [okD, List.all_eq_true]; exact hz.1.2
          exact ⟨a, v, toPy y, toPyL xs, j, z, rfl, rfl, .lst (SqL.of f) (HoldsL.dp hz.1.2 (l.mono s)), (hv.inH s).dp hz.1.1, okD_shaped ok31 (by decide), okD_shaped hz.1.1 (by decide), h1, h2, h3, fin0 s k (by simp only [Holds])⟩
      · cases e
    | [], e => cases e
    | _ :: _ :: _, e => cases e
  | _ => cases e

/-! ### isinstance -/
theorem HB.tyx {K : PySem.W.Frag} {rt : V} {F H : Hp} {d : D} {x : V} (s : Same F H) (h : HB rt F H d x) (nt : noTape d = true) : TyX K H x (.type (kindD d)) := by
  cases d with
  | non => rw [h.non]; exact .base .non
  | bl b => rw [h.bl]; exact .base (.bl b)
  | int b => rw [h.int]; exact .base (.int b)
  | str b => rw [h.str]; exact .base (.str b)
  | tup b => obtain ⟨a, vs, rfl, ⟨o, e, _⟩, _⟩ := h.tup; exact .fTuple (s _ _ e)
  | lst b => obtain ⟨a, vs, rfl, e, _⟩ := h.lst; exact .base (.lst e)
  | dic ks b =>
    obtain ⟨a, vs, rfl, l, f⟩ := h
    rcases f with ⟨kk, _, _, f⟩ | ⟨kk, _, _, f⟩
    · exact .base (.dK f)
    · exact .base (.dT f)
  | set b => exact (show False from by simpa only [HB, Holds] using h).elim
  | tape => cases nt
/-- which kinds are of a class (written) -/
def isinstD (T : String) (d : D) : Option Bool := if noTape d then some (kindD d == T || (kindD d == "bool" && T == "int")) else none
def misinst {Z : TSys} (T : String) (a : Arg Z) : M Z := fun e t => match ev1 a e t with
  | some (d, e1, t1) => match isinstD T d with
    | some b => some (.bl b, e1, t1)
    | none => none
  | none => none
theorem ie_isinst {Z : TSys} {X : Cx} {T : String} {x : Str} {e : Expr} {a : Arg Z} {p p2 pos : Pos} (hg : Gl X "isinstance") (hm : X.mg "isinstance" = none) (hg2 : Gl X x) (hm2 : X.mg x = none) (hv2 : bootBuiltins x = some (.type T)) (ha : IsA Z X e a)
    (kit : ∀ n ∈ ["NoneType", "bool", "int", "str", "tuple", "list", "dict"], PySem.W.kitOne X.K (.type n) (.type T) = some (n == T || (n == "bool" && T == "int")))
    (hn2 : x ≠ "__name__" := by decide) (hd2 : (x == ("__debug__" : Str)) = false := by decide)
    (hs : starEach [e, .Name x p2] X.env = (false, eval e X.env) :: starEach [.Name x p2] X.env := by rfl) (hs2 : starEach [.Name x p2] X.env = (false, eval (.Name x p2) X.env) :: starEach [] X.env := by rfl)
    (hpl : (backTo pos (starEach [.Name x p2] X.env)).any (·.1) = false := by rfl) : IsE Z X (.Call (.Name "isinstance" p) [e, .Name x p2] [] pos) (misinst T a) :=
  ⟨PE.imp (pe_callB call_isi hg hm (by decide +kernel) (pa_cons ha.pe (pa_cons (pe_bltn (v := .ty T) hg2 hm2 hv2 rfl hn2 hd2) pa_nil hs2) hs) (by decide) (by decide) hs hpl) fun σ H Q ⟨ad, env, T0, F, A0, d, env', T', R, e, k⟩ => by
    unfold misinst at e
    cases q : ev1 a env T0 with
    | none => rw [q] at e; cases e
    | some z =>
      obtain ⟨d0, e1, t1⟩ := z
      rw [q] at e
      simp only at e
      unfold isinstD at e
      by_cases nt : noTape d0 = true
      · rw [if_pos nt] at e
        simp only [Option.some.injEq, Prod.mk.injEq] at e
        obtain ⟨rfl, rfl, rfl⟩ := e
        refine ev1_run q R fun v H' F' A' R' S' hv => ?_
        refine ⟨v, .ty T, .type (kindD d0), .type T, _, rfl, .ty T, hv.tyx R'.same nt, kit (kindD d0) ?_, k _ H' F' A' R' S' (by simp only [Holds])⟩
        cases d0 <;> first | (simp [kindD]; done) | (exact (show False from by simpa only [HB, Holds] using hv).elim) | (cases nt)
      · rw [if_neg nt] at e; cases e⟩
end DL

/-! The data layer: a, b = x, y with values that are owned. -/
namespace DL
open PySem L2

def OwnZs (rt : V) (F H : Hp) : List (Nat × D) → List V → List Addr → Prop
  | [], vs, B => vs = [] ∧ B = []
  | x :: xs, vs, B => ∃ v r B1 B2, vs = v :: r ∧ B = B1 ++ B2 ∧ Own rt F H x.1 x.2 v B1 ∧ OwnZs rt F H xs r B2
theorem OwnZs.length {rt : V} {F H : Hp} : ∀ {xs : List (Nat × D)} {vs : List V} {B : List Addr}, OwnZs rt F H xs vs B → vs.length = xs.length
  | [], _, _, h => by rw [h.1]; rfl
  | x :: xs, _, _, h => by
    obtain ⟨v, r, B1, B2, e1, e2, h1, h2⟩ := h
    subst e1
    simp only [List.length_cons, h2.length]
def evOs {Z : TSys} : List (Nat × M Z) → List Sl → Z.T → Option (List (Nat × D) × List Sl × Z.T)
  | [], e, t => some ([], e, t)
  | (n, m) :: ms, e, t => match m e t with
    | some (d, e1, t1) => match evOs ms e1 t1 with
      | some (ds, e2, t2) => some ((n, d) :: ds, e2, t2)
      | none => none
    | none => none
theorem evOs_len {Z : TSys} : ∀ {ms : List (Nat × M Z)} {env : List Sl} {T : Z.T} {xs : List (Nat × D)} {e1 : List Sl} {t1 : Z.T}, evOs ms env T = some (xs, e1, t1) → xs.length = ms.length
  | [], env, T, xs, e1, t1, h => by
    simp only [evOs, Option.some.injEq, Prod.mk.injEq] at h
    rw [← h.1]
    rfl
  | (n, m) :: ms, env, T, xs, e1, t1, h => by
    unfold evOs at h
    split at h
    · split at h
      · rename_i q
        simp only [Option.some.injEq, Prod.mk.injEq] at h
        rw [← h.1, List.length_cons, List.length_cons, evOs_len q]
      · cases h
    · cases h
def denOs (Z : TSys) (ms : List (Nat × M Z)) : TA := fun σ H Q => ∃ (ad : Z.Ad) (env : List Sl) (T : Z.T) (F : Hp) (A : List Addr) (ds : List (Nat × D)) (env' : List Sl) (T' : Z.T),
  Rel Z ad env T F σ H A ∧ evOs ms env T = some (ds, env', T') ∧ ∀ vs H' F' A' B, Rel Z ad env' T' F' σ H' A' → Stp Z ad A F H A' F' H' → OwnZs (Z.root ad) F' H' ds vs B → B.Nodup → (∀ a ∈ B, a ∉ A' ∧ H a = none ∧ a ∉ Z.addrs ad) → Q vs H'
structure IsOs (Z : TSys) (X : Cx) (es : List Expr) (ms : List (Nat × M Z)) : Prop where
  pa : PA X es (denOs Z ms)
theorem IsE.o {Z : TSys} {X : Cx} {e : Expr} {m : M Z} (h : IsE Z X e m) : IsO Z 0 X e m := ⟨PE.imp h.pe fun σ H Q ⟨ad, env, T, F, A, r, env', T', R, e, k⟩ =>
  ⟨ad, env, T, F, A, r, env', T', R, e, fun v H' F' A' R' S' hv => k v H' F' A' [] R' S' ⟨rfl, hv⟩ List.nodup_nil fun a ha => by cases ha⟩⟩
/-- what stands outside stays so over a step -/
theorem Own.over {Z : TSys} {ad : Z.Ad} {rt : V} {A A1 B : List Addr} {F H F1 H1 : Hp} {n : Nat} {d : D} {v : V} (S : Stp Z ad A F H A1 F1 H1) (h : Own rt F H n d v B) (hB : ∀ a ∈ B, a ∉ A ∧ a ∉ Z.addrs ad) : Own rt F1 H1 n d v B ∧ ∀ a ∈ B, a ∉ A1 ∧ ∃ o, H a = some o := by
  have key : ∀ a ∈ B, (H1 a = H a ∧ F1 a = none) ∧ a ∉ A1 ∧ ∃ o, H a = some o := fun a ha => by
    obtain ⟨f, o, ho⟩ := h.at a ha
    obtain ⟨nA, nT⟩ := hB a ha
    refine ⟨⟨(S.fr a o ho nA nT).trans ho.symm, ?_⟩, fun z => ?_, o, ho⟩
    · cases q : F1 a with
      | none => rfl
      | some x =>
        rcases S.nF a (by rw [q]; exact fun z => by cases z) with w | w | w
        · exact absurd f w
        · exact absurd w nA
        · rw [ho] at w; cases w
    · rcases S.nA a z with w | w
      · exact nA w
      · rw [ho] at w; cases w
  exact ⟨h.keep S.sF fun a ha => (key a ha).1, fun a ha => (key a ha).2⟩
section
variable {Z : TSys} {X : Cx} {e : Expr} {es : List Expr}
theorem os_nil : IsOs Z X [] [] := ⟨PA.imp pa_nil fun σ H Q ⟨ad, env, T, F, A, ds, env', T', R, e, k⟩ => by
  simp only [evOs, Option.some.injEq, Prod.mk.injEq] at e
  obtain ⟨rfl, rfl, rfl⟩ := e
  exact k [] H F A [] R Stp.refl ⟨rfl, rfl⟩ List.nodup_nil fun a ha => by cases ha⟩
theorem os_cons {n : Nat} {m : M Z} {ms : List (Nat × M Z)} (ha : IsO Z n X e m) (hl : IsOs Z X es ms) (hs : starEach (e :: es) X.env = (false, eval e X.env) :: starEach es X.env := by rfl) : IsOs Z X (e :: es) ((n, m) :: ms) := ⟨PA.imp (pa_cons ha.pe hl.pa hs) fun σ H Q ⟨ad, env, T, F, A, ds, env', T', R, e, k⟩ => by
  unfold evOs at e
  cases q : m env T with
  | none => rw [q] at e; cases e
  | some z =>
    obtain ⟨d, e1, t1⟩ := z
    rw [q] at e
    simp only at e
    cases q2 : evOs ms e1 t1 with
    | none => rw [q2] at e; cases e
    | some z =>
      obtain ⟨ds', e2, t2⟩ := z
      rw [q2] at e
      simp only [Option.some.injEq, Prod.mk.injEq] at e
      obtain ⟨rfl, rfl, rfl⟩ := e
      refine ⟨ad, env, T, F, A, d, e1, t1, R, q, fun v H1 F1 A1 B1 R1 S1 o1 n1 d1 => ?_⟩
      refine ⟨ad, e1, t1, F1, A1, ds', e2, t2, R1, q2, fun vs H2 F2 A2 B2 R2 S2 o2 n2 d2 => ?_⟩
      obtain ⟨o1', k1⟩ := o1.over S2 fun a ha => ⟨(d1 a ha).1, (d1 a ha).2.2⟩
      refine k (v :: vs) H2 F2 A2 (B1 ++ B2) R2 (S1.trans S2) ⟨v, vs, B1, B2, rfl, rfl, o1', o2⟩ ?_ fun a ha => ?_
      · refine List.nodup_append.mpr ⟨n1, n2, fun a ha b hb => ?_⟩
        rintro rfl
        obtain ⟨_, o, ho⟩ := k1 a ha
        rw [(d2 a hb).2.1] at ho; cases ho
      · rcases List.mem_append.mp ha with z | z
        · exact ⟨(k1 a z).1, (d1 a z).2.1, (d1 a z).2.2⟩
        · exact ⟨(d2 a z).1, S1.none (d2 a z).2.1, (d2 a z).2.2⟩⟩
end
def slOf : Nat → D → Sl
  | 0, d => .sh d
  | n + 1, d => .ow (n + 1) d
def setSls : List Nat → List (Nat × D) → List Sl → List Sl
  | i :: is, x :: xs, e => setSls is xs (e.set i (slOf x.1 x.2))
  | _, _, e => e
def setVs : List Nat → List V → L2.St → L2.St
  | i :: is, v :: vs, σ => setVs is vs (σ.set i (some v))
  | _, _, σ => σ
section
variable {Z : TSys} {ad : Z.Ad} {T : Z.T} {F H : Hp}
theorem Rel.setSls : ∀ {is : List Nat} {xs : List (Nat × D)} {vs : List V} {B A : List Addr} {env : List Sl} {σ : L2.St}, Rel Z ad env T F σ H A → OwnZs (Z.root ad) F H xs vs B → B.Nodup → (∀ a ∈ B, a ∉ A ∧ a ∉ Z.addrs ad) →
    ∃ A', Rel Z ad (DL.setSls is xs env) T F (setVs is vs σ) H A' ∧ ∀ a ∈ A', a ∈ A ∨ a ∈ B
  | [], xs, vs, B, A, env, σ, R, _, _, _ => by
    unfold DL.setSls setVs
    exact ⟨A, R, fun a h => .inl h⟩
  | i :: is, [], vs, B, A, env, σ, R, h, _, _ => by
    rw [h.1]
    exact ⟨A, R, fun a h => .inl h⟩
  | i :: is, (n, d) :: xs, vs, B, A, env, σ, R, h, nB, hB => by
    obtain ⟨v, r, B1, B2, rfl, rfl, h1, h2⟩ := h
    obtain ⟨n1, n2, n12⟩ := List.nodup_append.mp nB
    have step : ∃ A', Rel Z ad (env.set i (slOf n d)) T F (σ.set i (some v)) H A' ∧ ∀ a ∈ A', a ∈ A ∨ a ∈ B1 := by
      cases n with
      | zero =>
        obtain ⟨A', R', S'⟩ := R.setSh i h1.2
        refine ⟨A', R', fun a ha => ?_⟩
        rcases S'.nA a ha with z | z
        · exact .inl z
        · obtain ⟨_, o, e⟩ := R'.at a ha
          rw [e] at z; cases z
      | succ n =>
        obtain ⟨A', R', _, q⟩ := R.setOw i h1 n1 fun a ha => hB a (List.mem_append_left _ ha)
        exact ⟨A', R', q⟩
    obtain ⟨A1, R1, q1⟩ := step
    obtain ⟨A2, R2, q2⟩ := Rel.setSls (is := is) R1 h2 n2 fun a ha => ⟨fun z => by
      rcases q1 a z with w | w
      · exact (hB a (List.mem_append_right _ ha)).1 w
      · exact n12 a w a ha rfl, (hB a (List.mem_append_right _ ha)).2⟩
    refine ⟨A2, R2, fun a ha => ?_⟩
    rcases q2 a ha with z | z
    · rcases q1 a z with w | w
      · exact .inl w
      · exact .inr (List.mem_append_left _ w)
    · exact .inr (List.mem_append_right _ z)
end
def spar {Z : TSys} (is : List Nat) (ms : List (Nat × M Z)) : SM Z := fun e t => match evOs ms e t with
  | some (xs, e1, t1) => some (.nx, setSls is xs e1, t1)
  | none => none
section
variable {Z : TSys} {X : Cx}
theorem par_core {is : List Nat} {ms : List (Nat × M Z)} {D : Ends} {σ : L2.St} {H : Hp} (h : denS Z (spar is ms) D σ H) : denOs Z ms σ H fun vs H1 => vs.length = ms.length ∧ D.nx (setVs is vs σ) H1 := by
  obtain ⟨ad, env, T, F, A, fl, env', T', R, e, k⟩ := h
  unfold spar at e
  cases q : evOs ms env T with
  | none => rw [q] at e; cases e
  | some z =>
    obtain ⟨xs, e1, t1⟩ := z
    rw [q] at e
    simp only [Option.some.injEq, Prod.mk.injEq] at e
    obtain ⟨rfl, rfl, rfl⟩ := e
    refine ⟨ad, env, T, F, A, xs, e1, t1, R, q, fun vs H' F' A' B R' S' ho nB hB => ⟨?_, ?_⟩⟩
    · rw [ho.length]
      exact evOs_len q
    · obtain ⟨A2, R2, q2⟩ := R'.setSls (is := is) ho nB fun a ha => ⟨(hB a ha).1, (hB a ha).2.2⟩
      refine k _ H' F' A2 R2 ⟨S'.sF, fun a ha => S'.nF a ha, fun a ha => ?_, S'.fr, S'.ex⟩
      rcases q2 a ha with z | z
      · exact S'.nA a z
      · exact .inr (hB a z).2.1
theorem is_par2 {i j : Nat} {x y : Str} {a b : Expr} {ma mb : Nat × M Z} {px py pt pos : Pos} {kt k2 pt2} (hc : X.calm = true) (hN : X.N.Nodup) (hi : X.N[i]? = some x) (hj : X.N[j]? = some y) (hij : i ≠ j)
    (hx : X.env.scope.names.lookup x = some .local) (hy : X.env.scope.names.lookup y = some .local) (ha : IsOs Z X [a, b] [ma, mb])
    (hw : swappedStores [.Tuple [.Name x px, .Name y py] kt pt] (.Tuple [a, b] k2 pt2) X.env = pure (some [x, y]))
    (hs : swapsWithSole [.Tuple [.Name x px, .Name y py] kt pt] (.Tuple [a, b] k2 pt2) pos.line X.env = pure false := by rfl) :
    IsS Z X (.Assign [.Tuple [.Name x px, .Name y py] kt pt] (.Tuple [a, b] k2 pt2) pos) (spar [i, j] [ma, mb]) := ⟨PS.imp (ps_par hc hN hi hj hij hx hy ha.pa hw hs) fun D σ H h => by
  obtain ⟨ad, env, T, F, A, xs, env', T', R, e, k⟩ := par_core h
  refine ⟨ad, env, T, F, A, xs, env', T', R, e, fun vs H' F' A' B R' S' ho nB hB => ?_⟩
  obtain ⟨hl, q⟩ := k vs H' F' A' B R' S' ho nB hB
  match vs, hl with
  | [v, w], _ => exact ⟨v, w, rfl, q⟩⟩
theorem is_par3 {i j l : Nat} {x y z : Str} {a b c : Expr} {ma mb mc : Nat × M Z} {px py pz pt pos : Pos} {kt k2 pt2} (hc : X.calm = true) (hN : X.N.Nodup) (hi : X.N[i]? = some x) (hj : X.N[j]? = some y) (hl : X.N[l]? = some z) (hij : i ≠ j) (hil : i ≠ l) (hjl : j ≠ l)
    (hx : X.env.scope.names.lookup x = some .local) (hy : X.env.scope.names.lookup y = some .local) (hz : X.env.scope.names.lookup z = some .local) (ha : IsOs Z X [a, b, c] [ma, mb, mc])
    (hw : swappedStores [.Tuple [.Name x px, .Name y py, .Name z pz] kt pt] (.Tuple [a, b, c] k2 pt2) X.env = pure (some [x, y, z]))
    (hs : swapsWithSole [.Tuple [.Name x px, .Name y py, .Name z pz] kt pt] (.Tuple [a, b, c] k2 pt2) pos.line X.env = pure false := by rfl) :
    IsS Z X (.Assign [.Tuple [.Name x px, .Name y py, .Name z pz] kt pt] (.Tuple [a, b, c] k2 pt2) pos) (spar [i, j, l] [ma, mb, mc]) := ⟨PS.imp (ps_par3 hc hN hi hj hl hij hil hjl hx hy hz ha.pa hw hs) fun D σ H h => by
  obtain ⟨ad, env, T, F, A, xs, env', T', R, e, k⟩ := par_core h
  refine ⟨ad, env, T, F, A, xs, env', T', R, e, fun vs H' F' A' B R' S' ho nB hB => ?_⟩
  obtain ⟨hl, q⟩ := k vs H' F' A' B R' S' ho nB hB
  match vs, hl with
  | [v, w, u], _ => exact ⟨v, w, u, rfl, q⟩⟩
/-- names, some of them cells: the tuple is laid and unpacked -/
def gNames : List Nat → TGs
  | [] => gNil
  | i :: is => gCons (gName i) (gNames is)
theorem gNames_run : ∀ {is : List Nat} {vs : List V} {σ : L2.St} {H : Hp} {Q : L2.St → Hp → Prop}, vs.length = is.length → Q (setVs is vs σ) H → gNames is vs σ H Q
  | [], [], _, _, _, _, h => ⟨rfl, h⟩
  | i :: is, v :: vs, σ, H, Q, e, h => ⟨v, vs, rfl, gNames_run (is := is) (by simpa using e) h⟩
theorem is_parT {es ts : List Expr} {is : List Nat} {ms : List (Nat × M Z)} {pt pos : Pos} {kt k2 pt2} (hc : X.calm = true) (ha : IsOs Z X es ms) (hg : PGs X ts (gNames is)) (hk : is.length = ms.length) (hk2 : (decide (ms.length ≤ 1000)) = true)
    (hn : (assignEach ts X.env).length = ms.length := by rfl) (hst : (assignEach ts X.env).findIdx? (·.1) = none := by rfl)
    (hs : swapsWithSole [.Tuple ts kt pt] (.Tuple es k2 pt2) pos.line X.env = pure false := by rfl) (hw : swappedStores [.Tuple ts kt pt] (.Tuple es k2 pt2) X.env = pure none := by rfl)
    (h1 : (assignEach [.Tuple ts kt pt] X.env).map (·.2) = [assign (.Tuple ts kt pt) X.env] := by rfl) :
    IsS Z X (.Assign [.Tuple ts kt pt] (.Tuple es k2 pt2) pos) (spar is ms) := ⟨PS.imp (ps_asg (pe_tup ha.pa) (pg_tup (n := ms.length) hc hg hn hst) hs hw h1) fun D σ H ⟨ad, env, T, F, A, fl, env', T', R, e, k⟩ => by
  unfold spar at e
  cases q : evOs ms env T with
  | none => rw [q] at e; cases e
  | some z =>
    obtain ⟨xs, e1, t1⟩ := z
    rw [q] at e
    simp only [Option.some.injEq, Prod.mk.injEq] at e
    obtain ⟨rfl, rfl, rfl⟩ := e
    refine ⟨ad, env, T, F, A, xs, e1, t1, R, q, fun vs H' F' A' B R' S' ho nB hB => ?_⟩
    have hlen : vs.length = ms.length := by
      rw [ho.length]
      exact evOs_len q
    refine ⟨by rw [hlen]; exact sz1000 (by simpa using hk2), fun p hp => ?_⟩
    have pB : ∀ a ∈ B, a ≠ p := fun a ha z => by
      subst z
      have : ∀ {xs : List (Nat × DL.D)} {vs : List V} {B : List Addr}, OwnZs (Z.root ad) F' H' xs vs B → ∀ a ∈ B, ∃ o, H' a = some o := by
        intro xs
        induction xs with
        | nil => intro vs B h a ha; rw [h.2] at ha; cases ha
        | cons x xs ih =>
          intro vs B h a ha
          obtain ⟨v, r, B1, B2, _, e2, h1, h2⟩ := h
          subst e2
          rcases List.mem_append.mp ha with w | w
          · exact (h1.at a w).2
          · exact ih h2 a w
      obtain ⟨o, e⟩ := this ho a ha
      rw [hp] at e; cases e
    obtain ⟨R2, S2⟩ := R'.own hp (.tup vs)
    have hsq : SqT X.K (L2.upd H' p (.tup vs)) p vs := .inl (.inl upd_same)
    refine ⟨p, vs, rfl, hsq, hlen, gNames_run (by rw [hlen, hk]) ?_⟩
    have ho2 : OwnZs (Z.root ad) F' (L2.upd H' p (.tup vs)) xs vs B := by
      have : ∀ {xs : List (Nat × DL.D)} {us : List V} {C : List Addr}, (∀ a ∈ C, a ∈ B) → OwnZs (Z.root ad) F' H' xs us C → OwnZs (Z.root ad) F' (L2.upd H' p (.tup vs)) xs us C := by
        intro xs
        induction xs with
        | nil => intro us C _ h; exact h
        | cons x xs ih =>
          intro us C hC h
          obtain ⟨v, r, B1, B2, e1, e2, h1, h2⟩ := h
          subst e2
          refine ⟨v, r, B1, B2, e1, rfl, h1.keep (Same.refl _) fun a ha => ⟨upd_ne (pB a (hC a (List.mem_append_left _ ha))), (h1.at a ha).1⟩, ih (fun a ha => hC a (List.mem_append_right _ ha)) h2⟩
      exact this (fun a h => h) ho
    obtain ⟨A2, R3, q2⟩ := R2.setSls (is := is) ho2 nB fun a ha => ⟨(hB a ha).1, (hB a ha).2.2⟩
    have S3 := S'.trans S2
    refine k _ _ F' A2 R3 ⟨S3.sF, fun a ha => S3.nF a ha, fun a ha => ?_, S3.fr, S3.ex⟩
    rcases q2 a ha with z | z
    · exact S3.nA a z
    · exact .inr (hB a z).2.1⟩
end
end DL

/-! The data layer: chains of comparisons, str, sorted, len(set(..)). -/
namespace DL
open PySem L2

section
variable {Z : TSys} {X : Cx} {a b c : Expr} {A B C : Arg Z} {pos : Pos} {r r' : R2} {g g' : D → D → Option D}
theorem ie_chain {op op' : CmpOp} (ho : OpR X (compareOp op) r) (hd : OpD r g) (ho' : OpR X (compareOp op') r') (hd' : OpD r' g') (ha : IsA Z X a A) (hb : IsA Z X b B) (hc : IsA Z X c C)
    (hm : lastMarks [op, op'] [b, c] = false := by with_unfolding_all rfl) : IsE Z X (.Compare a [op, op'] [b, c] pos) (mchain g g' A B C) :=
  ⟨PE.imp (pe_chain ho ho' ha.pe hb.pe hc.pe hm) fun _ _ _ h => chain_core hd hd' h⟩
theorem it_chain {op op' : CmpOp} (ho : OpR X (compareOp op) r) (hd : OpD r g) (ho' : OpR X (compareOp op') r') (hd' : OpD r' g') (ha : IsA Z X a A) (hb : IsA Z X b B) (hc : IsA Z X c C)
    (hm : lastMarks [op, op'] [b, c] = false := by with_unfolding_all rfl) : IsT Z X (.Compare a [op, op'] [b, c] pos) (asB (mchain g g' A B C)) :=
  ⟨PT.imp (pt_chain ho ho' ha.pe hb.pe hc.pe hm) fun _ _ _ h => asB_core (t := tChain r r' (denA Z A) (denA Z B) (denA Z C)) (m := mchain g g' A B C) (fun _ _ _ h' => chain_core hd hd' h') h⟩
end

/-! ### is, is not of bools -/
def isBD (x y : D) : Option D := match x, y with
  | .bl a, .bl b => some (.bl (decide (a = b)))
  | _, _ => none
def isntBD (x y : D) : Option D := match x, y with
  | .bl a, .bl b => some (.bl (!decide (a = b)))
  | _, _ => none
theorem od_isB : OpD rIsB isBD := by
  intro rt F H dx dy d x y Q s hx hy e k
  cases dx with
  | bl a =>
    cases dy with
    | bl b =>
      simp only [isBD, Option.some.injEq] at e
      subst e
      exact ⟨a, b, hx.bl, hy.bl, fin0 s k (by simp only [Holds])⟩
    | _ => cases e
  | _ => cases e
theorem od_isntB : OpD rNotB isntBD := by
  intro rt F H dx dy d x y Q s hx hy e k
  cases dx with
  | bl a =>
    cases dy with
    | bl b =>
      simp only [isntBD, Option.some.injEq] at e
      subst e
      exact ⟨a, b, hx.bl, hy.bl, fin0 s k (by simp only [Holds])⟩
    | _ => cases e
  | _ => cases e

/-! ### str(i) -/
def str1 : List D → Option D
  | [.int i] => if i.natAbs.log2 < 1920 then some (.str (toString i)) else none
  | _ => none
theorem cd_str : CallD (fun xs H Q => ∃ i, xs = [V.int i] ∧ i.natAbs.log2 < 1920 ∧ Q (V.str (toString i)) H) str1 := by
  intro rt F H ds d vs Q s h e k
  match ds, e with
  | [.int i], e =>
    simp only [str1] at e
    split at e
    · rename_i hz
      simp only [Option.some.injEq] at e
      subst e
      obtain ⟨v, rfl, hv⟩ := hbl1 h
      rw [hv.int]
      exact ⟨i, rfl, hz, fin0 s k (by simp only [Holds])⟩
    · cases e

/-! ### sorted(ints) -/
def sortI (ns : List Int) : List Int := ns.mergeSort (fun a b => decide (a ≤ b))
theorem sortI_perm (ns : List Int) : (sortI ns).Perm ns := List.mergeSort_perm ..
theorem sortI_pair (ns : List Int) : (sortI ns).Pairwise (· ≤ ·) := by
  have h := List.pairwise_mergeSort (le := fun a b : Int => decide (a ≤ b)) (fun a b c h1 h2 => by simp at *; omega) (fun a b => by simp; omega) ns
  exact h.imp fun h => by simpa using h
theorem pair_perm_eq : ∀ {xs ys : List Int}, xs.Perm ys → xs.Pairwise (· ≤ ·) → ys.Pairwise (· ≤ ·) → xs = ys
  | [], ys, p, _, _ => by rw [List.nil_perm.mp p]
  | x :: xs, ys, p, h1, h2 => by
    match ys, p, h2 with
    | [], p, _ => exact absurd p.length_eq (by simp)
    | y :: ys, p, h2 => 
      rw [List.pairwise_cons] at h1 h2
      have e : x = y := by
        have a1 : x ∈ y :: ys := p.mem_iff.mp List.mem_cons_self
        have a2 : y ∈ x :: xs := p.mem_iff.mpr List.mem_cons_self
        have b1 : y ≤ x := by
          rcases List.mem_cons.mp a1 with z | z
          · omega
          · exact h2.1 x z
        have b2 : x ≤ y := by
          rcases List.mem_cons.mp a2 with z | z
          · omega
          · exact h1.1 y z
        omega
      subst e
      rw [pair_perm_eq (p.cons_inv) h1.2 h2.2]
def sortedI1 : List D → Option (List D)
  | [.lst ds] => match intsD ds with
    | some ns => some ((sortI ns).map .int)
    | none => none
  | _ => none
theorem holds_mapInt {rt : V} {F : Hp} : ∀ (ns : List Int), HoldsL rt F (ns.map D.int) (ns.map V.int)
  | [] => .nil
  | n :: ns => .cons (by simp only [Holds]) (holds_mapInt ns)
theorem cn_sortedI {K : PySem.W.Frag} : CallN (rSortedI K) sortedI1 := by
  intro rt F H ds d vs Q s h e k
  match ds, e with
  | [.lst xs], e =>
    simp only [sortedI1] at e
    cases q : intsD xs with
    | none => rw [q] at e; cases e
    | some ns =>
      rw [q] at e
      simp only [Option.some.injEq] at e
      subst e
      have ex := intsD_inv q
      subst ex
      obtain ⟨v, rfl, hv⟩ := hbl1 h
      obtain ⟨a, us, rfl, f, l⟩ := hv.lst
      have eu := holds_ints l
      subst eu
      refine ⟨a, ns, rfl, SqL.of f, fun ns' p hp hs hn => ?_⟩
      have : ns' = sortI ns := pair_perm_eq (hp.trans (sortI_perm ns).symm) hs (sortI_pair ns)
      subst this
      exact k p _ hn (holds_mapInt _)

/-! ### len(set(ints)) -/
def distN (ns : List Int) : Nat := (ns.foldl PyProof.Rows.step_dedup []).length
theorem map_getD : ∀ (ns : List Int), (List.range ns.length).map (fun i => ns.getD i 0) = ns := fun ns => by
  apply List.ext_getElem
  · simp
  · intro i h1 h2
    simp [h2]
theorem firstMet_dist (ns : List Int) : (PyProof.Rows.firstMet (fun i => ns.getD i 0) ns.length).length = distN ns := by
  unfold PyProof.Rows.firstMet distN
  rw [map_getD]
theorem distN_le (ns : List Int) : distN ns ≤ ns.length := by
  have : ∀ (xs acc : List Int), (xs.foldl PyProof.Rows.step_dedup acc).length ≤ acc.length + xs.length := by
    intro xs
    induction xs with
    | nil => intro acc; simp
    | cons x xs ih =>
      intro acc
      rw [List.foldl_cons]
      refine Nat.le_trans (ih _) ?_
      unfold PyProof.Rows.step_dedup
      split
      · simp only [List.length_cons]; omega
      · simp only [List.length_append, List.length_cons, List.length_nil]; omega
  simpa [distN] using this ns []
def tLenSet (K : PySem.W.Frag) (ta : TE) : TE := fun σ H Q => ta σ H fun x H1 => ∃ (l : Addr) (ns : List Int), x = V.ref l ∧ SqL K H1 l (ns.map V.int) ∧ ns.length ≤ 4000 ∧ Q (.int (distN ns : Nat)) H1
theorem pe_lenSet {X : Cx} {a : Expr} {ta : TE} {p p2 q pos : Pos} (hg : Gl X "len") (hm : X.mg "len" = none) (hg2 : Gl X "set") (hm2 : X.mg "set" = none) (ha : PE X a ta) (hc : X.calm = true)
    (na : starEach [a] X.env = (false, eval a X.env) :: starEach [] X.env := by rfl) : PE X (.Call (.Name "len" p) [.Call (.Name "set" p2) [a] [] q] [] pos) (tLenSet X.K ta) := by
  refine ⟨fun pins s σ H Q I h => ?_⟩
  refine PyProof.Rows.Call_ (ld_blt I hg hm PySem.boot_len (PyProof.Rows.callWith_builtin1 (PyProof.Rows.args_cons ?_ rfl) rfl rfl))
  refine PyProof.Rows.Call_ (ld_blt I hg2 hm2 PyProof.Rows.boot_set (PyProof.Rows.callWith_type1 (PyProof.Rows.args_cons (thn (ha.run pins s σ H _ I h) fun v s1 ⟨x, H1, I1, r1, q1⟩ => PyProof.Rows.args_nil ?_) na) na rfl))
  obtain ⟨l, ns, rfl, hq, hl, q1⟩ := q1
  cases r1
  obtain ⟨its, r, pl, hz⟩ := I1.list hq
  have hlen : its.toArray.size = ns.length := by rw [List.size_toArray, ← r.length, List.length_map]
  refine PySem.call_set_list (I1.ok.hd hc) pl.isList (ns := ns) (by simpa using r.ints) (by rw [hlen]; unfold scanBound; omega) fun h' tk hS hk => PyProof.Rows.args_nil ?_
  rw [hlen, firstMet_dist] at hS
  obtain ⟨o, es, ep, t, ho, hex, hd, _, _, _, hf, hn⟩ := hS
  have I2 : Inv X pins σ H1 { s1 with heap := h', toks := tk } := I1.kept fun b o e => hk b o (Heap.lt_size e) e
  have hle := distN_le ns
  exact call_len_set ho hex hd hf (by rw [hn] <;> omega) ⟨.int (distN ns : Nat), H1, I2.tok _, ⟨_, by rw [hn]⟩, q1⟩
def mlenset {Z : TSys} (m : M Z) : M Z := fun e t => match m e t with
  | some (.lst ds, e1, t1) => match intsD ds with
    | some ns => if ns.length ≤ 4000 then some (.int (distN ns : Nat), e1, t1) else none
    | none => none
  | _ => none
def mlensetA {Z : TSys} (a : Arg Z) : M Z := fun e t => match ev1 a e t with
  | some (.lst ds, e1, t1) => match intsD ds with
    | some ns => if ns.length ≤ 4000 then some (.int (distN ns : Nat), e1, t1) else none
    | none => none
  | _ => none
theorem ie_lenset {Z : TSys} {X : Cx} {a : Expr} {A : Arg Z} {p p2 q pos : Pos} (hg : Gl X "len") (hm : X.mg "len" = none) (hg2 : Gl X "set") (hm2 : X.mg "set" = none) (ha : IsA Z X a A) (hc : X.calm = true)
    (na : starEach [a] X.env = (false, eval a X.env) :: starEach [] X.env := by rfl) : IsE Z X (.Call (.Name "len" p) [.Call (.Name "set" p2) [a] [] q] [] pos) (mlensetA A) :=
  ⟨PE.imp (pe_lenSet hg hm hg2 hm2 ha.pe hc na) fun σ H Q ⟨ad, env, T, F, A0, d, env', T', R, e, k⟩ => by
  unfold mlensetA at e
  cases q : ev1 A env T with
  | none => rw [q] at e; cases e
  | some z =>
    obtain ⟨d0, e1, t1⟩ := z
    rw [q] at e
    cases d0 with
    | lst ds =>
      simp only at e
      cases q2 : intsD ds with
      | none => rw [q2] at e; cases e
      | some ns =>
        rw [q2] at e
        simp only at e
        split at e
        · rename_i hz
          simp only [Option.some.injEq, Prod.mk.injEq] at e
          obtain ⟨rfl, rfl, rfl⟩ := e
          refine ev1_run q R fun v H' F' A' R' S' hv => ?_
          have ex := intsD_inv q2
          subst ex
          obtain ⟨a, us, rfl, f, l⟩ := hv.lst
          have eu := holds_ints l
          subst eu
          exact ⟨a, ns, rfl, SqL.of f, hz, k _ H' F' A' R' S' (by simp only [Holds])⟩
        · cases e
    | _ => cases e⟩
end DL

/-! The data layer: lists of lists that a slot owns. -/
namespace DL
open PySem L2

section
variable {rt : V} {F H : Hp}
theorem OwnL.length {P : D → V → List Addr → Prop} : ∀ {ds : List D} {vs : List V} {A : List Addr}, OwnL P ds vs A → vs.length = ds.length
  | [], _, _, h => by rw [h.1]; rfl
  | d :: ds, _, _, h => by
    obtain ⟨v, r, A1, A2, e1, e2, h1, h2⟩ := h
    subst e1
    simp only [List.length_cons, h2.length]
theorem OwnL.split {P : D → V → List Addr → Prop} : ∀ {ds : List D} {vs : List V} {B : List Addr} {j : Nat} {d : D}, OwnL P ds vs B → ds[j]? = some d →
    ∃ v B0 B1 B2, vs[j]? = some v ∧ B = B0 ++ B1 ++ B2 ∧ P d v B1 ∧ ∀ {P' : D → V → List Addr → Prop} {d' : D} {v' : V} {C : List Addr}, (∀ d v C, (∀ a ∈ C, a ∈ B0 ++ B2) → P d v C → P' d v C) → P' d' v' C → OwnL P' (ds.set j d') (vs.set j v') (B0 ++ C ++ B2)
  | [], _, _, _, _, _, e => by simp at e
  | x :: ds, _, _, 0, d, h, e => by
    obtain ⟨v, r, A1, A2, e1, e2, h1, h2⟩ := h
    subst e1 e2
    simp at e; subst e
    refine ⟨v, [], A1, A2, rfl, rfl, h1, fun {P' d' v' C} k hc => ⟨v', r, C, A2, rfl, rfl, hc, h2.imp fun d v C hC => k d v C (by simpa using hC)⟩⟩
  | x :: ds, _, _, j + 1, d, h, e => by
    obtain ⟨v, r, A1, A2, e1, e2, h1, h2⟩ := h
    subst e1 e2
    obtain ⟨w, B0, B1, B2, q1, q2, q3, q4⟩ := h2.split (j := j) (by simpa using e)
    subst q2
    refine ⟨w, A1 ++ B0, B1, B2, by simpa using q1, by simp [List.append_assoc], q3, fun {P' d' v' C} k hc => ?_⟩
    refine ⟨v, r.set j v', A1, B0 ++ C ++ B2, rfl, by simp [List.append_assoc], k x v A1 (fun a ha => by simp [ha]) h1, q4 (fun d v C hC => k d v C fun a ha => ?_) hc⟩
    rcases List.mem_append.mp (hC a ha) with z | z
    · simp [z]
    · simp [z]
end
section
variable {Z : TSys} {ad : Z.Ad} {env : List Sl} {T : Z.T} {F H : Hp} {σ : L2.St} {A : List Addr}
/-- a list of lists, one of them changed -/
theorem Rel.nest (R : Rel Z ad env T F σ H A) {i : Nat} {ds : List D} (hi : env[i]? = some (.ow 2 (.lst ds))) :
    ∃ q vs, σ[i]? = some (some (.ref q)) ∧ H q = some (.lst vs) ∧ q ∈ A ∧ vs.length = ds.length ∧
      ∀ j es, ds[j]? = some (.lst es) → ∃ p us, vs[j]? = some (.ref p) ∧ H p = some (.lst us) ∧ p ∈ A ∧ p ≠ q ∧ HoldsL (Z.root ad) F es us ∧
        ∀ es' us', HoldsL (Z.root ad) F es' us' → Rel Z ad (env.set i (.ow 2 (.lst (ds.set j (.lst es'))))) T F σ (L2.upd H p (.lst us')) A ∧ Stp Z ad A F H A F (L2.upd H p (.lst us')) := by
  obtain ⟨o, A0, A1, A2, e1, eA, ⟨v, eo, hv⟩, re⟩ := R.env.split hi
  subst eA eo
  obtain ⟨q, B, e, f, eA, vs, hq, hl⟩ := hv
  subst e eA
  have qin : q ∈ A0 ++ (q :: B) ++ A2 := by simp
  refine ⟨q, vs, e1, hq, qin, hl.length, fun j es hj => ?_⟩
  obtain ⟨v, B0, B1, B2, w1, w2, w3, w4⟩ := hl.split hj
  obtain ⟨p, C, e, fp, eB1, us, hp, hu⟩ := w3
  obtain ⟨hu', eC⟩ := OwnL.zero hu
  subst e eC eB1 w2
  have nd := R.nd
  have pin : p ∈ A0 ++ (q :: (B0 ++ [p] ++ B2)) ++ A2 := by simp
  have npq : p ≠ q := by
    rintro rfl
    rw [List.nodup_append, List.nodup_append] at nd
    have := nd.1.2.1
    simp at this
  refine ⟨p, us, w1, hp, pin, npq, hu', fun es' us' h' => ?_⟩
  have off : ∀ a ∈ A0 ++ A2, a ≠ p := fun a ha z => by
    subst z
    rw [List.nodup_append, List.nodup_append] at nd
    rcases List.mem_append.mp ha with z | z
    · exact nd.1.2.2 a z a (by simp) rfl
    · exact nd.2.2 a (by simp) a z rfl
  have off2 : ∀ a ∈ B0 ++ B2, a ≠ p := fun a ha z => by
    subst z
    rw [List.nodup_append, List.nodup_append] at nd
    have n1 := nd.1.2.1
    rw [List.nodup_cons, List.nodup_append, List.nodup_append] at n1
    rcases List.mem_append.mp ha with z | z
    · exact n1.2.1.2.2 a z a (by simp) rfl
    · exact n1.2.2.2 a (by simp) a z rfl
  have fin : ∀ a ∈ A0 ++ (q :: (B0 ++ [p] ++ B2)) ++ A2, F a = none := fun a ha => (R.at a ha).1
  have own2 : OwnL (Own (Z.root ad) F (L2.upd H p (.lst us')) 1) (ds.set j (.lst es')) (vs.set j (.ref p)) (B0 ++ [p] ++ B2) :=
    w4 (P' := Own (Z.root ad) F (L2.upd H p (.lst us')) 1) (d' := .lst es') (v' := .ref p) (C := [p]) (fun d v C hC hP => hP.keep (Same.refl _) fun a ha => ⟨L2.upd_ne (off2 a (hC a ha)), (hP.at a ha).1⟩) ⟨p, [], rfl, fp, rfl, us', L2.upd_same, OwnL.ofHolds h'⟩
  rw [set_self w1] at own2
  have e2 := re (F' := F) (H' := L2.upd H p (.lst us')) (y := .ow 2 (.lst (ds.set j (.lst es')))) (o' := some (.ref q)) (B := q :: (B0 ++ [p] ++ B2)) (Same.refl _) (fun a ha => ⟨L2.upd_ne (off a ha), fin a (by
    rcases List.mem_append.mp ha with z | z
    · simp [z]
    · simp [z])⟩)
    ⟨.ref q, rfl, q, _, rfl, f, rfl, vs, (L2.upd_ne (Ne.symm npq)).trans hq, own2⟩
  rw [set_self e1] at e2
  refine ⟨⟨fun a o z => ?_, e2, R.nd, Z.loc R.tp fun b hb => L2.upd_ne fun z => (R.tf b hb).2 (z ▸ pin), R.tf⟩, Same.refl _, fun a h => .inl h, fun a h => .inl h, fun a o z hA _ => ?_, fun a o z => ?_⟩
  · rw [L2.upd_ne fun w => by rw [w, fp] at z; cases z]
    exact R.same _ _ z
  · rw [L2.upd_ne fun (w : a = p) => hA (by rw [w]; exact pin)]; exact z
  · by_cases w : a = p
    · subst w; exact ⟨_, L2.upd_same⟩
    · rw [L2.upd_ne w]; exact ⟨o, z⟩
/-- .. one of them exchanged for a new one -/
theorem Rel.nestSet (R : Rel Z ad env T F σ H A) {i j : Nat} {ds : List D} {d d' : D} {v : V} {C : List Addr} (hi : env[i]? = some (.ow 2 (.lst ds))) (hj : ds[j]? = some d) (hv : Own (Z.root ad) F H 1 d' v C) (nC : C.Nodup) (dC : ∀ a ∈ C, a ∉ A ∧ a ∉ Z.addrs ad) :
    ∃ q vs A', σ[i]? = some (some (.ref q)) ∧ H q = some (.lst vs) ∧ vs.length = ds.length ∧ Rel Z ad (env.set i (.ow 2 (.lst (ds.set j d')))) T F σ (L2.upd H q (.lst (vs.set j v))) A' ∧ (∀ a ∈ A', a ∈ A ∨ a ∈ C) ∧ q ∈ A := by
  obtain ⟨o, A0, A1, A2, e1, eA, ⟨v0, eo, hv0⟩, re⟩ := R.env.split hi
  subst eA eo
  obtain ⟨q, B, e, f, eA, vs, hq, hl⟩ := hv0
  subst e eA
  have qin : q ∈ A0 ++ (q :: B) ++ A2 := by simp
  obtain ⟨u, B0, B1, B2, w1, w2, w3, w4⟩ := hl.split hj
  subst w2
  have nd := R.nd
  have fin : ∀ a ∈ A0 ++ (q :: (B0 ++ B1 ++ B2)) ++ A2, F a = none := fun a ha => (R.at a ha).1
  have qC : q ∉ C := fun z => (dC q z).1 qin
  have off : ∀ a ∈ A0 ++ A2, a ≠ q := fun a ha z => by
    subst z
    rw [List.nodup_append, List.nodup_append] at nd
    rcases List.mem_append.mp ha with z | z
    · exact nd.1.2.2 a z a (by simp) rfl
    · exact nd.2.2 a (by simp) a z rfl
  have off2 : ∀ a ∈ B0 ++ B2, a ≠ q := fun a ha z => by
    subst z
    rw [List.nodup_append, List.nodup_append] at nd
    have n1 := nd.1.2.1
    rw [List.nodup_cons] at n1
    rcases List.mem_append.mp ha with z | z
    · exact n1.1 (by simp [z])
    · exact n1.1 (by simp [z])
  have own2 : OwnL (Own (Z.root ad) F (L2.upd H q (.lst (vs.set j v))) 1) (ds.set j d') (vs.set j v) (B0 ++ C ++ B2) :=
    w4 (P' := Own (Z.root ad) F (L2.upd H q (.lst (vs.set j v))) 1) (d' := d') (v' := v) (C := C) (fun d v C hC hP => hP.keep (Same.refl _) fun a ha => ⟨L2.upd_ne (off2 a (hC a ha)), (hP.at a ha).1⟩) (hv.keep (Same.refl _) fun a ha => ⟨L2.upd_ne fun z => qC (z ▸ ha), (hv.at a ha).1⟩)
  have e2 := re (F' := F) (H' := L2.upd H q (.lst (vs.set j v))) (y := .ow 2 (.lst (ds.set j d'))) (o' := some (.ref q)) (B := q :: (B0 ++ C ++ B2)) (Same.refl _) (fun a ha => ⟨L2.upd_ne (off a ha), fin a (by
    rcases List.mem_append.mp ha with z | z
    · simp [z]
    · simp [z])⟩)
    ⟨.ref q, rfl, q, _, rfl, f, rfl, _, L2.upd_same, own2⟩
  rw [set_self e1] at e2
  have sub : ∀ a ∈ A0 ++ (q :: (B0 ++ C ++ B2)) ++ A2, a ∈ A0 ++ (q :: (B0 ++ B1 ++ B2)) ++ A2 ∨ a ∈ C := fun a ha => by
    simp only [List.mem_append, List.mem_cons] at ha ⊢
    rcases ha with (z | z | (z | z) | z) | z
    · simp [z]
    · simp [z]
    · simp [z]
    · simp [z]
    · simp [z]
    · simp [z]
  refine ⟨q, vs, A0 ++ (q :: (B0 ++ C ++ B2)) ++ A2, e1, hq, hl.length, ⟨fun a o z => ?_, e2, ?_, Z.loc R.tp fun b hb => L2.upd_ne fun z => (R.tf b hb).2 (z ▸ qin), fun a ha => ⟨(R.tf a ha).1, fun z => ?_⟩⟩, sub, qin⟩
  · rw [L2.upd_ne fun w => by rw [w, f] at z; cases z]
    exact R.same _ _ z
  · have d1 : ∀ a ∈ C, a ∉ A0 ++ (q :: (B0 ++ B1 ++ B2)) ++ A2 := fun a ha => (dC a ha).1
    simp only [List.nodup_append, List.nodup_cons, List.mem_append, List.mem_cons] at nd d1 ⊢
    grind
  · rcases sub a z with w | w
    · exact (R.tf a ha).2 w
    · exact (dC a w).2 ha
end

/-! ### quiet expressions: what the slots own stays as it is -/
abbrev MQ (Z : TSys) := List Sl → Z.T → Option (D × Z.T)
abbrev MQL (Z : TSys) := List Sl → Z.T → Option (List D × Z.T)
def denQ (Z : TSys) (m : MQ Z) : TE := fun σ H Q => ∃ (ad : Z.Ad) (env : List Sl) (T : Z.T) (F : Hp) (A : List Addr) (r : D) (T' : Z.T),
  Rel Z ad env T F σ H A ∧ m env T = some (r, T') ∧ ∀ v H' F', Rel Z ad env T' F' σ H' A → Stp Z ad A F H A F' H' → (∀ a ∈ A, H' a = H a) → Holds (Z.root ad) F' r v → Q v H'
def denQL (Z : TSys) (m : MQL Z) : TA := fun σ H Q => ∃ (ad : Z.Ad) (env : List Sl) (T : Z.T) (F : Hp) (A : List Addr) (r : List D) (T' : Z.T),
  Rel Z ad env T F σ H A ∧ m env T = some (r, T') ∧ ∀ v H' F', Rel Z ad env T' F' σ H' A → Stp Z ad A F H A F' H' → (∀ a ∈ A, H' a = H a) → HoldsL (Z.root ad) F' r v → Q v H'
structure IsQ (Z : TSys) (X : Cx) (e : Expr) (m : MQ Z) : Prop where
  pe : PE X e (denQ Z m)
structure IsQL (Z : TSys) (X : Cx) (es : List Expr) (m : MQL Z) : Prop where
  pa : PA X es (denQL Z m)
def qcst {Z : TSys} (d : D) : MQ Z := fun e t => some (d, t)
def qvar {Z : TSys} (i : Nat) : MQ Z := fun e t => match e[i]? with
  | some (.sh d) => some (d, t)
  | _ => none
def qnil {Z : TSys} : MQL Z := fun e t => some ([], t)
def qcons {Z : TSys} (m : MQ Z) (l : MQL Z) : MQL Z := fun e t => match m e t with
  | some (d, t1) => match l e t1 with
    | some (ds, t2) => some (d :: ds, t2)
    | none => none
  | none => none
def mq {Z : TSys} (m : MQ Z) : M Z := fun e t => match m e t with
  | some (d, t1) => some (d, e, t1)
  | none => none
def qcall {Z : TSys} (n : Nat) (f : FnM Z) (l : MQL Z) : MQ Z := fun e t => match l e t with
  | some (ds, t1) => if ds.length = n then f ds t1 else none
  | none => none
/-- the item that x[k] names -/
def nestAt (env : List Sl) (i : Nat) (k : D) : Option (List D × Nat × List D) := match env[i]?, k with
  | some (.ow 2 (.lst ds)), .int k => match ixN ds.length k with
    | some j => match ds[j]? with
      | some (.lst es) => some (ds, j, es)
      | _ => none
    | none => none
  | _, _ => none
theorem nestAt_inv {env : List Sl} {i : Nat} {k : D} {ds : List D} {j : Nat} {es : List D} (h : nestAt env i k = some (ds, j, es)) : ∃ kk, k = .int kk ∧ env[i]? = some (.ow 2 (.lst ds)) ∧ ixN ds.length kk = some j ∧ ds[j]? = some (.lst es) := by
  unfold nestAt at h
  split at h
  · rename_i ds' kk q
    split at h
    · rename_i j' q2
      split at h
      · rename_i es' q3
        simp only [Option.some.injEq, Prod.mk.injEq] at h
        obtain ⟨rfl, rfl, rfl⟩ := h
        exact ⟨kk, rfl, q, q2, q3⟩
      · cases h
    · cases h
  · cases h
/-- len(x[k]) -/
def qlenx {Z : TSys} (i : Nat) (mk : MQ Z) : MQ Z := fun e t => match mk e t with
  | some (k, t1) => match nestAt e i k with
    | some (_, _, es) => some (.int es.length, t1)
    | none => none
  | none => none
section
variable {Z : TSys} {X : Cx} {e k : Expr} {es : List Expr} {x : Str} {pos xpos spos : Pos} {i : Nat}
theorem IsQ.toE {m : MQ Z} (h : IsQ Z X e m) : IsE Z X e (mq m) := ⟨PE.imp h.pe fun σ H Q ⟨ad, env, T, F, A, r, env', T', R, e, k⟩ => by
  unfold mq at e
  cases q : m env T with
  | none => rw [q] at e; cases e
  | some z =>
    obtain ⟨d, t1⟩ := z
    rw [q] at e
    simp only [Option.some.injEq, Prod.mk.injEq] at e
    obtain ⟨rfl, rfl, rfl⟩ := e
    exact ⟨ad, env, T, F, A, d, t1, R, q, fun v H' F' R' S' _ hv => k v H' F' A R' S' hv⟩⟩
theorem iq_int {n j} : IsQ Z X (.Constant (.int n) j pos) (qcst (.int n)) := ⟨PE.imp pe_int fun σ H Q ⟨ad, env, T, F, A, r, T', R, e, k⟩ => by
  simp only [qcst, Option.some.injEq, Prod.mk.injEq] at e
  obtain ⟨rfl, rfl⟩ := e
  exact k _ H F R Stp.refl (fun _ _ => rfl) (by simp only [Holds])⟩
theorem iq_var (h : PE X (.Name x pos) (tVar i)) : IsQ Z X (.Name x pos) (qvar i) := ⟨PE.imp h fun σ H Q ⟨ad, env, T, F, A, r, T', R, e, k⟩ => by
  unfold qvar at e
  cases q : env[i]? with
  | none => rw [q] at e; cases e
  | some s =>
    rw [q] at e
    cases s with
    | sh d =>
      simp only [Option.some.injEq, Prod.mk.injEq] at e
      obtain ⟨rfl, rfl⟩ := e
      obtain ⟨o, A0, A1, A2, e1, _, ⟨_, v, e2, hv⟩, _⟩ := R.env.split q
      exact ⟨v, by rw [e1, e2], k v H F R Stp.refl (fun _ _ => rfl) hv⟩
    | _ => cases e⟩
theorem iql_nil : IsQL Z X [] qnil := ⟨PA.imp pa_nil fun σ H Q ⟨ad, env, T, F, A, r, T', R, e, k⟩ => by
  simp only [qnil, Option.some.injEq, Prod.mk.injEq] at e
  obtain ⟨rfl, rfl⟩ := e
  exact k _ H F R Stp.refl (fun _ _ => rfl) .nil⟩
theorem iql_cons {m : MQ Z} {l : MQL Z} (ha : IsQ Z X e m) (hl : IsQL Z X es l) (hs : starEach (e :: es) X.env = (false, eval e X.env) :: starEach es X.env := by rfl) : IsQL Z X (e :: es) (qcons m l) := ⟨PA.imp (pa_cons ha.pe hl.pa hs) fun σ H Q ⟨ad, env, T, F, A, r, T', R, e, k⟩ => by
  unfold qcons at e
  cases q : m env T with
  | none => rw [q] at e; cases e
  | some z =>
    obtain ⟨d, t1⟩ := z
    rw [q] at e
    simp only at e
    cases q2 : l env t1 with
    | none => rw [q2] at e; cases e
    | some z =>
      obtain ⟨ds, t2⟩ := z
      rw [q2] at e
      simp only [Option.some.injEq, Prod.mk.injEq] at e
      obtain ⟨rfl, rfl⟩ := e
      exact ⟨ad, env, T, F, A, d, t1, R, q, fun v H1 F1 R1 S1 a1 hv => ⟨ad, env, t1, F1, A, ds, t2, R1, q2, fun vs H2 F2 R2 S2 a2 hvs => k (v :: vs) H2 F2 R2 (S1.trans S2) (fun a ha => (a2 a ha).trans (a1 a ha)) (.cons (hv.mono S2.sF) hvs)⟩⟩⟩
theorem iq_call {n : Nat} {f : FnM Z} {l : MQL Z} {p : Pos} (hf : Fn Z X.prog X.w X.K X.mg X.base X.A x n f) (hg : Gl X x) (ha : IsQL Z X (e :: es) l) (hdb : (x == ("__debug__" : Str)) = false := by decide)
    (he : starEach (e :: es) X.env = (false, eval e X.env) :: starEach es X.env := by rfl) (hpl : (backTo pos (starEach es X.env)).any (·.1) = false := by rfl) : IsQ Z X (.Call (.Name x p) (e :: es) [] pos) (qcall n f l) := by
  obtain ⟨k, fa, fd, ps, hn, F, hr, hm, hk, hb⟩ := hf.ex
  refine ⟨PE.imp (pe_call F hr hg hm hk hb .nil pass0 ha.pa hdb he hpl) fun σ H Q ⟨ad, env, T, F0, A, r, T', R, e, kk⟩ => ?_⟩
  unfold qcall at e
  cases q : l env T with
  | none => rw [q] at e; cases e
  | some z =>
    obtain ⟨ds, t1⟩ := z
    rw [q] at e
    simp only at e
    by_cases hl : ds.length = n
    · rw [if_pos hl] at e
      refine ⟨ad, env, T, F0, A, ds, t1, R, q, fun vs H' F' R' S' a' hv => ?_⟩
      show spD Z n f (vs ++ []) H' Q E0
      rw [List.append_nil]
      refine ⟨by rw [hv.length, hl], ad, ds, t1, F', r, T', hv, R'.bare, e, fun v H2 F2 R2 S2 hw => ?_⟩
      obtain ⟨R3, S3⟩ := R'.back R2 S2
      refine kk v H2 F2 R3 (S'.trans S3) (fun a ha => ?_) hw
      obtain ⟨_, o, ho⟩ := R'.at a ha
      rw [← a' a ha, ho]
      exact S2.fr a o ho (by simp) fun z => (R'.tf a z).2 ha
    · rw [if_neg hl] at e; cases e
/-- x[k], as the address of the item -/
theorem item_run {mk : MQ Z} {ad : Z.Ad} {env : List Sl} {T : Z.T} {F H : Hp} {σ : L2.St} {A : List Addr} (R : Rel Z ad env T F σ H A) {kd : D} {t1 : Z.T} (hk : mk env T = some (kd, t1)) {ds es : List D} {j : Nat} (hn : nestAt env i kd = some (ds, j, es)) {K : PySem.W.Frag} {Q : VK}
    (go : ∀ q vs p us H' F', Rel Z ad env t1 F' σ H' A → Stp Z ad A F H A F' H' → (∀ a ∈ A, H' a = H a) → σ[i]? = some (some (.ref q)) → H' q = some (.lst vs) → q ∈ A → vs.length = ds.length → vs[j]? = some (.ref p) → H' p = some (.lst us) → p ∈ A → Q (.ref p) H') :
    tOp (rIx K) (tVar i) (denQ Z mk) σ H Q := by
  obtain ⟨kk, rfl, h1, h2, h3⟩ := nestAt_inv hn
  obtain ⟨q, vs, e1, hq, qin, hlen, itm⟩ := R.nest h1
  refine ⟨.ref q, e1, ad, env, T, F, A, .int kk, t1, R, hk, fun v H' F' R' S' a' hv => ?_⟩
  simp only [Holds] at hv
  subst hv
  obtain ⟨p, us, w1, w2, w3, _, _, _⟩ := itm j es h3
  have hq' : H' q = some (.lst vs) := (a' q qin).trans hq
  refine .inl ⟨q, vs, kk, .ref p, rfl, rfl, SqL.of hq', ?_, go q vs p us H' F' R' S' a' e1 hq' qin hlen w1 ((a' p w3).trans w2) w3⟩
  unfold L2.atI
  rw [hlen, h2]
  exact w1
theorem iq_lenx {mk : MQ Z} {p : Pos} (hg : Gl X "len") (hm : X.mg "len" = none) (ho : PE X (.Name x xpos) (tVar i)) (hk : IsQ Z X k mk) (hs : PlainIx k := by exact fun _ _ => rfl)
    (hst : starEach [Expr.Subscript (.Name x xpos) k spos] X.env = (false, eval (Expr.Subscript (.Name x xpos) k spos) X.env) :: starEach [] X.env := by rfl) :
    IsQ Z X (.Call (.Name "len" p) [.Subscript (.Name x xpos) k spos] [] pos) (qlenx i mk) :=
  ⟨PE.imp (pe_callB call_len hg hm PySem.boot_len (pa_cons (pe_ix ix_seq ho hk.pe hs) pa_nil hst) (by decide) (by decide) hst rfl) fun σ H Q ⟨ad, env, T, F, A, r, T', R, e, kk⟩ => by
  unfold qlenx at e
  cases q : mk env T with
  | none => rw [q] at e; cases e
  | some z =>
    obtain ⟨kd, t1⟩ := z
    rw [q] at e
    simp only at e
    cases q2 : nestAt env i kd with
    | none => rw [q2] at e; cases e
    | some z =>
      obtain ⟨ds, j, es⟩ := z
      rw [q2] at e
      simp only [Option.some.injEq, Prod.mk.injEq] at e
      obtain ⟨rfl, rfl⟩ := e
      refine item_run (Q := _) R q q2 fun q vs p us H' F' R' S' a' e1 hq qin hlen w1 w2 w3 => ?_
      obtain ⟨kk2, _, h1, h2, h3⟩ := nestAt_inv q2
      obtain ⟨q', vs', e1', hq', _, _, itm⟩ := R'.nest h1
      rw [e1] at e1'; cases e1'
      rw [hq] at hq'; cases hq'
      obtain ⟨p', us', w1', w2', _, _, hu, _⟩ := itm j es h3
      rw [w1] at w1'; cases w1'
      refine ⟨.ref p, us'.length, rfl, .inl ⟨us', SqL.of w2', rfl⟩, kk _ H' F' R' S' a' ?_⟩
      simp only [Holds]
      rw [hu.length]⟩
end
/-! ### x[k].m(..), x[a] + [x[b].pop(c)], x[k] = a new list -/
def mmut2 {Z : TSys} (i : Nat) (u : List D → List D → Option (D × List D)) (mk : MQ Z) (as : MQL Z) : M Z := fun e t => match mk e t with
  | some (k, t1) => match nestAt e i k with
    | some (ds, j, es) => match as e t1 with
      | some (xs, t2) => match u xs es with
        | some (d, es') => some (d, e.set i (.ow 2 (.lst (ds.set j (.lst es')))), t2)
        | none => none
      | none => none
    | none => none
  | none => none
def mcatpop {Z : TSys} (i : Nat) (ma mb mc : MQ Z) : M Z := fun e t => match ma e t with
  | some (ka, t1) => match nestAt e i ka with
    | some (_, ja, _) => match mmut2 i uPopAt mb (qcons mc qnil) e t1 with
      | some (d, e2, t2) => match e2[i]? with
        | some (.ow 2 (.lst ds')) => match ds'[ja]? with
          | some (.lst es) => if es.length + 1 ≤ sizeLine then some (.lst (es ++ [d]), e2, t2) else none
          | _ => none
        | _ => none
      | none => none
    | none => none
  | none => none
section
variable {Z : TSys} {X : Cx} {e k : Expr} {es : List Expr} {x name : Str} {pos xpos spos apos cpos : Pos} {i : Nat} {id : String} {r : V → List V → Hp → VK → Prop} {u : List D → List D → Option (D × List D)}
theorem mut2_core (hd : MutD r u) {mk : MQ Z} {as : MQL Z} {K : PySem.W.Frag} {ad : Z.Ad} {env : List Sl} {T : Z.T} {F H : Hp} {σ : L2.St} {A : List Addr} (R : Rel Z ad env T F σ H A) {d : D} {env' : List Sl} {T' : Z.T} (e : mmut2 i u mk as env T = some (d, env', T')) {Q : VK}
    (go : ∀ v H' F', Rel Z ad env' T' F' σ H' A → Stp Z ad A F H A F' H' → (∀ q vs, σ[i]? = some (some (.ref q)) → H q = some (.lst vs) → H' q = some (.lst vs)) → Holds (Z.root ad) F' d v → Q v H') :
    tBM K "list" r (tOp (rIx K) (tVar i) (denQ Z mk)) (denQL Z as) σ H Q := by
  unfold mmut2 at e
  cases q : mk env T with
  | none => rw [q] at e; cases e
  | some z =>
    obtain ⟨kd, t1⟩ := z
    rw [q] at e
    simp only at e
    cases q2 : nestAt env i kd with
    | none => rw [q2] at e; cases e
    | some z =>
      obtain ⟨ds, j, es⟩ := z
      rw [q2] at e
      simp only at e
      cases q3 : as env t1 with
      | none => rw [q3] at e; cases e
      | some z =>
        obtain ⟨xs, t2⟩ := z
        rw [q3] at e
        simp only at e
        cases q4 : u xs es with
        | none => rw [q4] at e; cases e
        | some z =>
          obtain ⟨d', es'⟩ := z
          rw [q4] at e
          simp only [Option.some.injEq, Prod.mk.injEq] at e
          obtain ⟨rfl, rfl, rfl⟩ := e
          refine item_run R q q2 fun q vs p us H1 F1 R1 S1 a1 e1 hq qin hlen w1 w2 w3 => ⟨.inl ⟨rfl, us, SqL.of w2⟩, ?_⟩
          refine ⟨ad, env, t1, F1, A, xs, t2, R1, q3, fun vxs H2 F2 R2 S2 a2 hx => ?_⟩
          obtain ⟨kk2, _, h1, h2, h3⟩ := nestAt_inv q2
          obtain ⟨q', vs', e1', hq', _, _, itm⟩ := R2.nest h1
          rw [e1] at e1'; cases e1'
          rw [a2 q qin, hq] at hq'; cases hq'
          obtain ⟨p', us', w1', w2', _, npq, hu, chg⟩ := itm j es h3
          rw [w1] at w1'; cases w1'
          refine hd _ F2 H2 p us' es xs vxs d' es' Q R2.same w2' hu hx q4 fun v vs2 hv hl2 => ?_
          obtain ⟨R3, S3⟩ := chg es' vs2 hl2
          refine go v _ F2 R3 ((S1.trans S2).trans S3) (fun q3 vs3 g1 g2 => ?_) hv
          rw [e1] at g1; cases g1
          rw [L2.upd_ne (Ne.symm npq), a2 q qin, a1 q qin]
          exact g2
theorem ie_mut2 {mk : MQ Z} {as : MQL Z} (slot : Slot "list" name id) (hty : typeOf (.builtin id) = pure (.type "method_descriptor")) (hm : MtR X id r) (hd : MutD r u) (ho : PE X (.Name x xpos) (tVar i)) (hk : IsQ Z X k mk) (ha : IsQL Z X (e :: es) as) (hp : PlainIx k := by exact fun _ _ => rfl)
    (hbase : attributeBase (.Subscript (.Name x xpos) k spos) name X.env (eval (.Subscript (.Name x xpos) k spos) X.env) = eval (.Subscript (.Name x xpos) k spos) X.env := by rfl)
    (hfew : ((backTo cpos (starEach (e :: es) X.env)).all (fun x => !x.1) && (backToKw cpos (keywordEach [] X.env)).all (fun x => x.1.isSome)
      && decide ((e :: es).length + ([] : List Keyword).length + (if ([] : List Keyword).isEmpty then 0 else 1) < 30)) = true := by rfl)
    (hline : (apos.endLine == cpos.line) = true := by rfl) (hs : starEach (e :: es) X.env = (false, eval e X.env) :: starEach es X.env := by rfl) (hplain : (backTo cpos (starEach es X.env)).any (·.1) = false := by rfl) :
    IsE Z X (.Call (.Attribute (.Subscript (.Name x xpos) k spos) name apos) (e :: es) [] cpos) (mmut2 i u mk as) :=
  ⟨PE.imp (pe_bm PySem.F.plainAttrs_list slot hty hm (pe_ix ix_seq ho hk.pe hp) ha.pa hbase hfew hline hs hplain) fun σ H Q ⟨ad, env, T, F, A, d, env', T', R, e, kk⟩ =>
    mut2_core hd R e fun v H' F' R' S' _ hv => kk v H' F' A R' S' hv⟩
theorem io_catpop {a b c : Expr} {ma mb mc : MQ Z} {x2pos s2pos lpos : Pos} (ho : PE X (.Name x xpos) (tVar i)) (ho2 : PE X (.Name x x2pos) (tVar i)) (ha : IsQ Z X a ma) (hb : IsQ Z X b mb) (hc : IsQ Z X c mc) (hpa : PlainIx a := by exact fun _ _ => rfl) (hpb : PlainIx b := by exact fun _ _ => rfl)
    (hbase : attributeBase (.Subscript (.Name x x2pos) b s2pos) ("pop" : Str) X.env (eval (.Subscript (.Name x x2pos) b s2pos) X.env) = eval (.Subscript (.Name x x2pos) b s2pos) X.env := by rfl)
    (hfew : ((backTo cpos (starEach [c] X.env)).all (fun x => !x.1) && (backToKw cpos (keywordEach [] X.env)).all (fun x => x.1.isSome)
      && decide (([c] : List Expr).length + ([] : List Keyword).length + (if ([] : List Keyword).isEmpty then 0 else 1) < 30)) = true := by rfl)
    (hline : (apos.endLine == cpos.line) = true := by rfl) (hs : starEach [c] X.env = (false, eval c X.env) :: starEach [] X.env := by rfl)
    (hs2 : starEach [.Call (.Attribute (.Subscript (.Name x x2pos) b s2pos) ("pop" : Str) apos) [c] [] cpos] X.env = (false, eval (.Call (.Attribute (.Subscript (.Name x x2pos) b s2pos) ("pop" : Str) apos) [c] [] cpos) X.env) :: starEach [] X.env := by rfl) :
    IsO Z 1 X (.BinOp (.Subscript (.Name x xpos) a spos) .Add (.List [.Call (.Attribute (.Subscript (.Name x x2pos) b s2pos) ("pop" : Str) apos) [c] [] cpos] lpos) pos) (mcatpop i ma mb mc) :=
  ⟨PE.imp (pe_op op_cat (pe_ix ix_seq ho ha.pe hpa) (pe_lst (pa_cons (pe_bm PySem.F.plainAttrs_list PySem.F.slot_list_pop PySem.F.type_list_pop mt_popAt (pe_ix ix_seq ho2 hb.pe hpb) (iql_cons hc iql_nil hs).pa hbase hfew hline hs rfl) pa_nil hs2))) fun σ H Q ⟨ad, env, T, F, A, d, env', T', R, e, kk⟩ => by
    unfold mcatpop at e
    cases q : ma env T with
    | none => rw [q] at e; cases e
    | some z =>
      obtain ⟨ka, t1⟩ := z
      rw [q] at e
      simp only at e
      cases q2 : nestAt env i ka with
      | none => rw [q2] at e; cases e
      | some z =>
        obtain ⟨ds, ja, es0⟩ := z
        rw [q2] at e
        simp only at e
        cases q3 : mmut2 i uPopAt mb (qcons mc qnil) env t1 with
        | none => rw [q3] at e; cases e
        | some z =>
          obtain ⟨d1, e2, t2⟩ := z
          rw [q3] at e
          simp only at e
          cases q4 : e2[i]? with
          | none => rw [q4] at e; cases e
          | some sl =>
            rw [q4] at e
            match sl, q4, e with
            | .ow 2 (.lst ds'), q4, e =>
              simp only at e
              cases q5 : ds'[ja]? with
              | none => rw [q5] at e; cases e
              | some it =>
                rw [q5] at e
                match it, q5, e with
                | .lst es, q5, e =>
                  simp only at e
                  by_cases hz : es.length + 1 ≤ sizeLine
                  · rw [if_pos hz] at e
                    simp only [Option.some.injEq, Prod.mk.injEq] at e
                    obtain ⟨rfl, rfl, rfl⟩ := e
                    show tOp (rIx X.K) (tVar i) (denQ Z ma) σ H _
                    refine item_run R q q2 fun qa vs p us H1 F1 R1 S1 a1 e1 hq qin hlen w1 w2 w3 => ?_
                    refine mut2_core (K := X.K) ud_popAt R1 q3 fun v H2 F2 R2 S2 keep hv => ?_
                    have hq2 : H2 qa = some (.lst vs) := keep qa vs e1 hq
                    obtain ⟨q', vs', e1', hq', _, _, itm⟩ := R2.nest q4
                    rw [e1] at e1'; cases e1'
                    rw [hq2] at hq'; cases hq'
                    obtain ⟨p', us', w1', w2', w3', npq, hu, _⟩ := itm ja es q5
                    rw [w1] at w1'; cases w1'
                    refine ⟨sz1000 (by simp), fun pp hpp => ?_⟩
                    have np : p ≠ pp := fun z => by rw [z, hpp] at w2'; cases w2'
                    refine ⟨p, pp, us', [v], rfl, rfl, (L2.upd_ne np).trans w2', L2.upd_same, by simpa [hu.length] using hz, fun r hr => ?_⟩
                    obtain ⟨R3, S3⟩ := R2.own hpp (.lst [v])
                    obtain ⟨R4, S4⟩ := R3.own hr (.lst (us' ++ [v]))
                    have hr2 : H2 r = none := by
                      by_cases z : r = pp
                      · subst z; rw [L2.upd_same] at hr; cases hr
                      · rw [L2.upd_ne z] at hr; exact hr
                    have S0 := S1.trans S2
                    have fr : F2 r = none := R2.same.free hr2
                    obtain ⟨nA, nT⟩ := R2.notin hr2
                    exact kk (.ref r) _ F2 A [r] R4 ((S0.trans S3).trans S4) ⟨r, [], rfl, fr, rfl, us' ++ [v], L2.upd_same, OwnL.ofHolds (hu.app (.one hv))⟩ (by simp) fun a ha => by
                      have : a = r := by simpa using ha
                      subst this
                      exact ⟨nA, S0.none hr2, nT⟩
                  · rw [if_neg hz] at e; cases e⟩
end
end DL

/-! The data layer: comprehensions whose elements are owned. -/
namespace DL
open PySem L2

theorem OwnL.over {Z : TSys} {ad : Z.Ad} {rt : V} {A A1 : List Addr} {F H F1 H1 : Hp} {n : Nat} (S : Stp Z ad A F H A1 F1 H1) : ∀ {ds : List D} {vs : List V} {B : List Addr}, OwnL (Own rt F H n) ds vs B → (∀ a ∈ B, a ∉ A ∧ a ∉ Z.addrs ad) → OwnL (Own rt F1 H1 n) ds vs B ∧ ∀ a ∈ B, a ∉ A1 ∧ ∃ o, H a = some o
  | [], _, _, h, _ => ⟨h, fun a ha => by rw [h.2] at ha; cases ha⟩
  | d :: ds, _, _, h, hB => by
    obtain ⟨v, r, B1, B2, e1, e2, h1, h2⟩ := h
    subst e1 e2
    obtain ⟨k1, k2⟩ := h1.over S fun a ha => hB a (List.mem_append_left _ ha)
    obtain ⟨k3, k4⟩ := h2.over S fun a ha => hB a (List.mem_append_right _ ha)
    refine ⟨⟨v, r, B1, B2, rfl, rfl, k1, k3⟩, fun a ha => ?_⟩
    rcases List.mem_append.mp ha with z | z
    · exact k2 a z
    · exact k4 a z
theorem OwnL.app {P : D → V → List Addr → Prop} : ∀ {ds es : List D} {vs us : List V} {A B : List Addr}, OwnL P ds vs A → OwnL P es us B → OwnL P (ds ++ es) (vs ++ us) (A ++ B)
  | [], _, _, _, _, _, h, k => by obtain ⟨e1, e2⟩ := h; subst e1 e2; exact k
  | d :: ds, _, _, _, _, _, h, k => by
    obtain ⟨v, r, A1, A2, e1, e2, h1, h2⟩ := h
    subst e1 e2
    exact ⟨v, _, A1, _, rfl, by simp [List.append_assoc], h1, h2.app k⟩
theorem OwnL.keep {rt : V} {F F' H H' : Hp} {n : Nat} (s : Same F F') {ds : List D} {vs : List V} {B : List Addr} (h : OwnL (Own rt F H n) ds vs B) (k : ∀ a ∈ B, H' a = H a ∧ F' a = none) : OwnL (Own rt F' H' n) ds vs B :=
  h.imp fun d v C hC hP => hP.keep s fun a ha => k a (hC a ha)
theorem OwnL.at {rt : V} {F H : Hp} {n : Nat} : ∀ {ds : List D} {vs : List V} {B : List Addr}, OwnL (Own rt F H n) ds vs B → ∀ a ∈ B, F a = none ∧ ∃ o, H a = some o
  | [], _, _, h, a, ha => by rw [h.2] at ha; cases ha
  | d :: ds, _, _, h, a, ha => by
    obtain ⟨v, r, B1, B2, e1, e2, h1, h2⟩ := h
    subst e2
    rcases List.mem_append.mp ha with z | z
    · exact h1.at a z
    · exact h2.at a z
section
variable {Z : TSys}
theorem lc_loopO {n : Nat} {own is : List Nat} {g : G} {tt : MB Z} {el : M Z} (sub : ∀ j ∈ is, j ∈ own) {ad : Z.Ad} {ds : List D} {J : It} {σ : L2.St} {L : Addr} {e1 : List Sl} {t1 : Z.T} {F1 H1 : Hp} {A1 : List Addr} {acc : List D} {e2 : List Sl} {t2 : Z.T} {K : Hp → Prop}
    (R1 : Rel Z ad e1 t1 F1 (L2.wipe σ own) H1 A1) (o1 : Out Z ad L A1 F1) (h1 : H1 L = some (.lst [])) (wk : Walks (Z.root ad) F1 ds J) (hz : acc.length ≤ sizeLine)
    (q : lcL own g tt el ds [] e1 t1 = some (acc, e2, t2))
    (hK : ∀ H' F' A' us B, Rel Z ad e2 t2 F' (L2.wipe σ own) H' A' → (∀ a o, H1 a = some o → a ∉ A1 → a ∉ Z.addrs ad → a ≠ L → H' a = some o) → Same F1 F' → (∀ a, F' a ≠ none → F1 a ≠ none ∨ a ∈ A1 ∨ H1 a = none) → (∀ a ∈ A', a ∈ A1 ∨ H1 a = none) → (∀ a o, H1 a = some o → ∃ o', H' a = some o') → Out Z ad L A' F' → H' L = some (.lst us) →
      OwnL (Own (Z.root ad) F' H' n) acc us B → B.Nodup → (∀ a ∈ B, a ∉ A' ∧ a ∉ Z.addrs ad ∧ a ≠ L ∧ H1 a = none) → K H') :
    ∃ W : Nat → Nat → Hp → Prop, (∃ m, W 0 m H1) ∧ ∀ i m H, W i m H → (J.stop i H ∧ K H) ∨ (J.go i H ∧ ∃ Nx : Hp → Prop, (∀ H', Nx H' → ∃ m', m' < m ∧ W (i + 1) m' H') ∧ ∀ x H', J.yld i H x H' → denG Z is g x (L2.wipe σ own) H' fun σ2 H2 => L2.wipe σ2 own = L2.wipe σ own ∧ denB Z tt σ2 H2 fun b H3 =>
      if b = true then denO Z n el σ2 H3 fun y H4 => ∃ acc, H4 L = some (.lst acc) ∧ acc.length < sizeLine ∧ Nx (upd H4 L (.lst (acc ++ [y]))) else Nx H3) := by
  let W : Nat → Nat → Hp → Prop := fun i m H' => m = ds.length - i ∧ ∃ (en : List Sl) (T2 : Z.T) (F2 : Hp) (A2 : List Addr) (ac : List D) (us : List V) (B : List Addr),
    Rel Z ad en T2 F2 (L2.wipe σ own) H' A2 ∧ ((∀ a o, H1 a = some o → a ∉ A1 → a ∉ Z.addrs ad → a ≠ L → H' a = some o) ∧ Same F1 F2 ∧ (∀ a, F2 a ≠ none → F1 a ≠ none ∨ a ∈ A1 ∨ H1 a = none) ∧ (∀ a ∈ A2, a ∈ A1 ∨ H1 a = none) ∧ (∀ a o, H1 a = some o → ∃ o', H' a = some o')) ∧ Out Z ad L A2 F2 ∧ H' L = some (.lst us) ∧
    OwnL (Own (Z.root ad) F2 H' n) ac us B ∧ B.Nodup ∧ (∀ a ∈ B, a ∉ A2 ∧ a ∉ Z.addrs ad ∧ a ≠ L ∧ H1 a = none) ∧ lcL own g tt el (ds.drop i) ac en T2 = some (acc, e2, t2)
  have bck : ∀ {H2 : Hp}, (∀ a o, H1 a = some o → ∃ o', H2 a = some o') → ∀ a, H2 a = none → H1 a = none := fun c5 a e => by
    cases q : H1 a with
    | none => rfl
    | some o => obtain ⟨o', e'⟩ := c5 a o q; rw [e] at e'; cases e'
  have go : ∀ {A2 A3 : List Addr} {F2 F3 H2 H3 : Hp}, (∀ a o, H1 a = some o → a ∉ A1 → a ∉ Z.addrs ad → a ≠ L → H2 a = some o) ∧ Same F1 F2 ∧ (∀ a, F2 a ≠ none → F1 a ≠ none ∨ a ∈ A1 ∨ H1 a = none) ∧ (∀ a ∈ A2, a ∈ A1 ∨ H1 a = none) ∧ (∀ a o, H1 a = some o → ∃ o', H2 a = some o') → Stp Z ad A2 F2 H2 A3 F3 H3 →
      (∀ a o, H1 a = some o → a ∉ A1 → a ∉ Z.addrs ad → a ≠ L → H3 a = some o) ∧ Same F1 F3 ∧ (∀ a, F3 a ≠ none → F1 a ≠ none ∨ a ∈ A1 ∨ H1 a = none) ∧ (∀ a ∈ A3, a ∈ A1 ∨ H1 a = none) ∧ (∀ a o, H1 a = some o → ∃ o', H3 a = some o') := by
    intro A2 A3 F2 F3 H2 H3 ⟨c1, c2, c3, c4, c5⟩ S
    refine ⟨fun a o e hA hT hL => S.fr a o (c1 a o e hA hT hL) (fun z => ?_) hT, c2.trans S.sF, fun a ha => ?_, fun a ha => ?_, fun a o e => ?_⟩
    · rcases c4 a z with w | w
      · exact hA w
      · rw [e] at w; cases w
    · rcases S.nF a ha with w | w | w
      · exact c3 a w
      · exact .inr (c4 a w)
      · exact .inr (.inr (bck c5 a w))
    · rcases S.nA a ha with w | w
      · exact c4 a w
      · exact .inr (bck c5 a w)
    · obtain ⟨o', e'⟩ := c5 a o e
      exact S.ex a o' e'
  refine ⟨W, ⟨ds.length, by simp, e1, t1, F1, A1, [], [], [], R1, ⟨fun _ _ h _ _ _ => h, Same.refl _, fun _ h => .inl h, fun _ h => .inl h, fun _ o h => ⟨o, h⟩⟩, o1, h1, ⟨rfl, rfl⟩, List.nodup_nil, (fun a ha => by cases ha), q⟩, ?_⟩
  rintro i m H2 ⟨rfl, en, T2, F2, A2, ac, us, B, R2, c, hap, hDu, hac, nB, hB, e3⟩
  have sF : Same F1 H2 := c.2.1.trans R2.same
  by_cases hlt : i < ds.length
  · refine .inr ⟨wk.go i H2 ds[i] sF (List.getElem?_eq_getElem hlt), fun H' => W (i + 1) (ds.length - (i + 1)) H', fun H' h => ⟨_, by omega, h⟩, fun x H3 y => ?_⟩
    obtain ⟨F3, n3, hx⟩ := wk.yld i H2 ds[i] x H3 F2 sF R2.same c.2.1 (List.getElem?_eq_getElem hlt) y
    obtain ⟨R3, S3⟩ := R2.new n3
    rw [List.drop_eq_getElem_cons hlt] at e3
    simp only [lcL] at e3
    cases q3 : g ds[i] (wipeE en own) with
    | none => rw [q3] at e3; cases e3
    | some e4 =>
      rw [q3] at e3
      simp only at e3
      obtain ⟨A3w, R3w, S3w⟩ := R3.wipe own
      rw [wipe_wipe] at R3w
      refine ⟨ad, wipeE en own, T2, F3, A3w, ds[i], e4, R3w, hx, q3, fun σ4 A4 R4 S4 l4 o4 => ?_⟩
      have eσ : L2.wipe σ4 own = L2.wipe σ own := by
        rw [wipe_agree (τ := L2.wipe σ own) l4 fun j hj => o4 j fun z => hj (sub j z), wipe_wipe]
      refine ⟨eσ, ?_⟩
      have S24 := (S3.trans S3w).trans S4
      cases q4 : tt e4 T2 with
      | none => rw [q4] at e3; cases e3
      | some z4 =>
        obtain ⟨b4, e5, t5⟩ := z4
        rw [q4] at e3
        refine ⟨ad, e4, T2, F3, A4, b4, e5, t5, R4, q4, fun H5 F5 A5 R5 S5 => ?_⟩
        have S25 := S24.trans S5
        cases b4 with
        | false =>
          simp only at e3
          refine iteF ?_
          obtain ⟨A6, R6, S6⟩ := R5.wipe own
          rw [eσ] at R6
          have S26 := S25.trans S6
          obtain ⟨ap, hD6⟩ := hap.step S26 hDu
          obtain ⟨hac6, out6⟩ := hac.over S26 fun a ha => ⟨(hB a ha).1, (hB a ha).2.1⟩
          exact ⟨rfl, _, _, F5, A6, ac, us, B, R6, go c S26, ap, hD6, hac6, nB, fun a ha => ⟨(out6 a ha).1, (hB a ha).2⟩, e3⟩
        | true =>
          simp only at e3
          refine iteT ?_
          cases q5 : el e5 t5 with
          | none => rw [q5] at e3; cases e3
          | some z5 =>
            obtain ⟨y5, e6, t6⟩ := z5
            rw [q5] at e3
            simp only at e3
            refine ⟨ad, e5, t5, F5, A5, y5, e6, t6, R5, q5, fun v6 H6 F6 A6 B6 R6 S6 hv6 nB6 hB6 => ?_⟩
            obtain ⟨A7, R7, S7⟩ := R6.wipe own
            rw [eσ] at R7
            have S27 := (S25.trans S6).trans S7
            obtain ⟨ap5, hD5⟩ := hap.step S25 hDu
            obtain ⟨ap, hD6⟩ := hap.step S27 hDu
            obtain ⟨hac5, out5⟩ := hac.over S25 fun a ha => ⟨(hB a ha).1, (hB a ha).2.1⟩
            obtain ⟨hac7, out7⟩ := hac.over S27 fun a ha => ⟨(hB a ha).1, (hB a ha).2.1⟩
            obtain ⟨hv7, outv⟩ := hv6.over S7 fun a ha => ⟨(hB6 a ha).1, (hB6 a ha).2.2⟩
            have hl := (lcL_len e3).1
            simp only [List.length_append, List.length_singleton] at hl
            refine ⟨us, hD6, by rw [hac.length]; omega, ?_⟩
            obtain ⟨c1, c2, c3, c4, c5⟩ := go c S27
            have c5' := (go c S25).2.2.2.2
            have nL6 : ∀ a ∈ B6, a ≠ L := fun a ha z => by
              subst z
              rw [(hB6 a ha).2.1] at hD5; cases hD5
            refine ⟨rfl, _, _, F6, A7, ac ++ [y5], us ++ [v6], B ++ B6, R7.grow ap _, ⟨fun a o z hA hT hL => ?_, c2, c3, c4, fun a o z => ?_⟩, ap, upd_same, ?_, ?_, fun a ha => ?_, e3⟩
            · rw [upd_ne hL]; exact c1 a o z hA hT hL
            · by_cases w : a = L
              · subst w; exact ⟨_, upd_same⟩
              · rw [upd_ne w]; exact c5 a o z
            · refine OwnL.app (hac7.keep (Same.refl _) fun a ha => ⟨upd_ne (hB a ha).2.2.1, (hac7.at a ha).1⟩) ⟨v6, [], B6, [], rfl, by simp, hv7.keep (Same.refl _) fun a ha => ⟨upd_ne (nL6 a ha), (hv7.at a ha).1⟩, rfl, rfl⟩
            · refine List.nodup_append.mpr ⟨nB, nB6, fun a ha b hb z => ?_⟩
              subst z
              obtain ⟨_, o, ho⟩ := hac5.at a ha
              rw [(hB6 a hb).2.1] at ho; cases ho
            · rcases List.mem_append.mp ha with z | z
              · exact ⟨(out7 a z).1, (hB a z).2⟩
              · exact ⟨(outv a z).1, (hB6 a z).2.2, nL6 a z, bck c5' a (hB6 a z).2.1⟩
  · refine .inl ⟨wk.stop i H2 sF (by omega), ?_⟩
    rw [List.drop_eq_nil_of_le (by omega)] at e3
    simp only [lcL, Option.some.injEq, Prod.mk.injEq] at e3
    obtain ⟨rfl, rfl, rfl⟩ := e3
    obtain ⟨c1, c2, c3, c4, c5⟩ := c
    exact hK H2 F2 A2 us B R2 c1 c2 c3 c4 c5 hap hDu hac nB hB
end
section
variable {Z : TSys} {X : Cx}
theorem lc_runO {n : Nat} {own is : List Nat} {src : ML Z} {g : G} {tt : MB Z} {el : M Z} (sub : ∀ j ∈ is, j ∈ own) {σ : L2.St} {H : Hp} {Q : VK} (h : denO Z (n + 1) (mlc own src g tt el) σ H Q) :
    tLc (denI Z src) (denG Z is g) (denB Z tt) (denO Z n el) own σ H Q := by
  obtain ⟨ad, env, T, F, A, r, env', T', R, e, k⟩ := h
  unfold mlc at e
  cases q : src env T with
  | none => rw [q] at e; cases e
  | some z =>
    obtain ⟨ds, e1, t1⟩ := z
    rw [q] at e
    simp only at e
    by_cases hok : (ownOk e1 own && decide (ds.length ≤ sizeLine)) = true
    · rw [if_pos hok] at e
      have ok1 : ownOk e1 own = true := (Bool.and_eq_true_iff.mp hok).1
      have ok2 : ds.length ≤ sizeLine := of_decide_eq_true (Bool.and_eq_true_iff.mp hok).2
      cases q2 : lcL own g tt el ds [] (wipeE e1 own) t1 with
      | none => rw [q2] at e; cases e
      | some z2 =>
        obtain ⟨acc, e2, t2⟩ := z2
        rw [q2] at e
        simp only [Option.some.injEq, Prod.mk.injEq] at e
        obtain ⟨rfl, rfl, rfl⟩ := e
        refine ⟨ad, env, T, F, A, ds, e1, t1, R, q, fun J H1 F1 A1 R1 S1 wk L hL => ?_⟩
        obtain ⟨Aw, Rw, Sw⟩ := R1.wipe own
        obtain ⟨RD, SD⟩ := Rw.own hL (.lst [])
        obtain ⟨nD1, nD2⟩ := Rw.notin hL
        have fD : F1 L = none := R1.same.free hL
        refine lc_loopO (n := n) sub RD ⟨nD1, fD, nD2⟩ upd_same wk (by have := (lcL_len q2).2; simp at this; omega) q2 fun H2 F2 A2 us B R2 c1 c2 c3 c4 c5 ap hD hac nB hB => ?_
        have back1 : ∀ a, a ≠ L → L2.upd H1 L (.lst []) a = none → H1 a = none := fun a z w => by rw [upd_ne z] at w; exact w
        have S2 : Stp Z ad Aw F1 H1 A2 F2 H2 := ⟨c2, fun a ha => ?_, fun a ha => ?_, fun a o e hA hT => ?_, fun a o e => ?_⟩
        · obtain ⟨A4, R4, S4⟩ := R1.rest ok1 c2 own (fun v hv => hv) R2 (env2 := e2) (A2 := A2)
          rw [restS_wipe] at R4
          have S := (S1.trans (Sw.trans S2)).trans S4
          obtain ⟨ap4, hD4⟩ := ap.step S4 hD
          obtain ⟨hac4, out4⟩ := hac.over S4 fun a ha => ⟨(hB a ha).1, (hB a ha).2.1⟩
          refine k _ H2 F2 A4 (L :: B) R4 S ⟨L, B, rfl, ap4.2.1, rfl, us, hD4, hac4⟩ (List.nodup_cons.mpr ⟨fun z => (hB L z).2.2.1 rfl, nB⟩) fun a ha => ?_
          rcases List.mem_cons.mp ha with z | z
          · subst z
            exact ⟨ap4.1, S1.none hL, ap4.2.2⟩
          · exact ⟨(out4 a z).1, S1.none (back1 a (hB a z).2.2.1 (hB a z).2.2.2), (hB a z).2.1⟩
        · rcases c3 a ha with w | w | w
          · exact .inl w
          · exact .inr (.inl w)
          · by_cases z : a = L
            · subst z; exact .inr (.inr hL)
            · exact .inr (.inr (back1 a z w))
        · rcases c4 a ha with w | w
          · exact .inl w
          · by_cases z : a = L
            · subst z; exact .inr hL
            · exact .inr (back1 a z w)
        · have z : a ≠ L := fun z => by subst z; rw [hL] at e; cases e
          exact c1 a o (by rw [upd_ne z]; exact e) hA hT z
        · have z : a ≠ L := fun z => by subst z; rw [hL] at e; cases e
          exact c5 a o (by rw [upd_ne z]; exact e)
    · rw [if_neg hok] at e; cases e
end
section
variable {Z : TSys} {X : Cx} {elt tg iter : Expr} {ifs : List Expr} {scope : Scope} {own : List (Str × Nat)} {pos spos : Pos} {src : ML Z} {is : List Nat} {g : G} {tt : MB Z} {el : M Z} {n : Nat}
theorem io_lcN (own : List (Str × Nat)) (hc : X.calm = true) (hN : X.N.Nodup) (hi : IsI Z X tg iter src) (ok : BlkOk X.N X.env.scope scope own)
    (hg : ∀ (s : Shared) (H : Hp) (C : Addr) (cl : List (Str × Addr)) (fp : List Addr), IsG Z (X.blk s H scope (compEnvC scope cl C X.env) fp) tg is g) (ht : ∀ (s : Shared) (H : Hp) (C : Addr) (cl : List (Str × Addr)) (fp : List Addr), IsTs Z (X.blk s H scope (compEnvC scope cl C X.env) fp) ifs tt)
    (he : ∀ (s : Shared) (H : Hp) (C : Addr) (cl : List (Str × Addr)) (fp : List Addr), IsO Z n (X.blk s H scope (compEnvC scope cl C X.env) fp) elt el) (sub : ∀ j ∈ is, j ∈ own.map (·.2) := by decide) (hs : ∀ x, foldedSetIterable iter X.env x = pure x := by intro _; rfl) :
    IsO Z (n + 1) X (.ListComp elt [⟨tg, iter, ifs, 0⟩] scope pos) (mlc (own.map (·.2)) src g tt el) :=
  ⟨PE.imp (pe_lc hc hN hi.pi ok (fun s H C cl fp => (hg s H C cl fp).pg) (fun s H C cl fp => (ht s H C cl fp).pt) (fun s H C cl fp => (he s H C cl fp).pe) hs) fun σ H Q h => lc_runO sub h⟩
theorem is_lcN (own : List (Str × Nat)) {i : Nat} {y : Str} {py : Pos} (hc : X.calm = true) (hN : X.N.Nodup) (hy : X.N[i]? = some y) (hyl : X.env.scope.names.lookup y = some .local)
    (hsw : swapsWith (.ListComp elt [⟨tg, iter, ifs, 0⟩] scope pos) (some (.Name y py)) spos.line X.env = pure true) (hi : IsI Z X tg iter src) (ok : BlkOk X.N X.env.scope scope own)
    (hg : ∀ (s : Shared) (H : Hp) (C : Addr) (cl : List (Str × Addr)) (fp : List Addr), IsG Z (X.blk s H scope (compEnvC scope cl C X.env) fp) tg is g) (ht : ∀ (s : Shared) (H : Hp) (C : Addr) (cl : List (Str × Addr)) (fp : List Addr), IsTs Z (X.blk s H scope (compEnvC scope cl C X.env) fp) ifs tt)
    (he : ∀ (s : Shared) (H : Hp) (C : Addr) (cl : List (Str × Addr)) (fp : List Addr), IsO Z n (X.blk s H scope (compEnvC scope cl C X.env) fp) elt el) (sub : ∀ j ∈ is, j ∈ own.map (·.2) := by decide) (hs : ∀ x, foldedSetIterable iter X.env x = pure x := by intro _; rfl) :
    IsS Z X (.Assign [.Name y py] (.ListComp elt [⟨tg, iter, ifs, 0⟩] scope pos) spos) (ssetO i (n + 1) (mlc (own.map (·.2)) src g tt el)) :=
  ⟨PS.imp (ps_setLc hc hN hy hyl hsw hi.pi ok (fun s H C cl fp => (hg s H C cl fp).pg) (fun s H C cl fp => (ht s H C cl fp).pt) (fun s H C cl fp => (he s H C cl fp).pe) hs) fun D σ H h => setO_core (fun _ _ _ h => lc_runO sub h) h⟩
end
/-! ### x[k] = a new list -/
def ssub2 {Z : TSys} (i : Nat) (mk : MQ Z) (me : M Z) : SM Z := fun e t => match me e t with
  | some (d, e1, t1) => match mk e1 t1 with
    | some (.int k, t2) => match e1[i]? with
      | some (.ow 2 (.lst ds)) => match ixN ds.length k with
        | some j => some (.nx, e1.set i (.ow 2 (.lst (ds.set j d))), t2)
        | none => none
      | _ => none
    | _ => none
  | none => none
section
variable {Z : TSys} {X : Cx} {x : Str} {xpos pos spos : Pos} {e k : Expr} {i : Nat} {mk : MQ Z} {me : M Z}
theorem is_sub2 (he : IsO Z 1 X e me) (ho : PE X (.Name x xpos) (tVar i)) (hk : IsQ Z X k mk) (hs : swapsWithSole [.Subscript (.Name x xpos) k spos] e pos.line X.env = pure false := by rfl) (hw : swappedStores [.Subscript (.Name x xpos) k spos] e X.env = pure none := by rfl)
    (h1 : (assignEach [.Subscript (.Name x xpos) k spos] X.env).map (·.2) = [assign (.Subscript (.Name x xpos) k spos) X.env] := by rfl)
    (ha : ∀ v, assign (.Subscript (.Name x xpos) k spos) X.env v = (do
      let ov ← holding [v] (eval (.Name x xpos) X.env)
      let iv ← holding [v, ov] (eval k X.env)
      standAt spos
      holding [v, ov, iv] (setItem ov iv v)
      release [v, ov, iv] []) := by intro _; rfl) : IsS Z X (.Assign [.Subscript (.Name x xpos) k spos] e pos) (ssub2 i mk me) :=
  ⟨PS.imp (ps_asg he.pe (pg_sub ho hk.pe set_list ha) hs hw h1) fun Dn σ H ⟨ad, env, T, F, A, fl, env', T', R, e, kk⟩ => by
    unfold ssub2 at e
    cases q : me env T with
    | none => rw [q] at e; cases e
    | some z =>
      obtain ⟨d, e1, t1⟩ := z
      rw [q] at e
      simp only at e
      refine ⟨ad, env, T, F, A, d, e1, t1, R, q, fun v H' F' A' B R' S' hv nB hB => ?_⟩
      cases q2 : mk e1 t1 with
      | none => rw [q2] at e; cases e
      | some z2 =>
        obtain ⟨dk, t2⟩ := z2
        rw [q2] at e
        cases dk with
        | int kx =>
          simp only at e
          cases q1 : e1[i]? with
          | none => rw [q1] at e; cases e
          | some sl =>
            rw [q1] at e
            match sl, q1, e with
            | .ow 2 (.lst ds), q1, e =>
              simp only at e
              cases q3 : ixN ds.length kx with
              | none => rw [q3] at e; cases e
              | some j =>
                rw [q3] at e
                simp only [Option.some.injEq, Prod.mk.injEq] at e
                obtain ⟨rfl, rfl, rfl⟩ := e
                have hjl : j < ds.length := (ixN_seq q3).2.1
                have hj : ds[j]? = some ds[j] := List.getElem?_eq_getElem hjl
                obtain ⟨q, vs, e0, _⟩ := R'.nest q1
                refine ⟨.ref q, e0, ad, e1, t1, F', A', .int kx, t2, R', q2, fun w H2 F2 R2 S2 a2 hw => ?_⟩
                simp only [Holds] at hw
                subst hw
                obtain ⟨hv2, out2⟩ := hv.over S2 fun a ha => ⟨(hB a ha).1, (hB a ha).2.2⟩
                obtain ⟨q', vs', A3, e0', hq, hlen, R3, sA, qin⟩ := R2.nestSet q1 hj hv2 nB fun a ha => ⟨(out2 a ha).1, (hB a ha).2.2⟩
                rw [e0] at e0'; cases e0'
                refine ⟨q, vs', kx, j, rfl, rfl, hq, by rw [hlen]; exact q3, kk σ _ F2 A3 R3 ?_⟩
                have S := S'.trans S2
                refine ⟨S.sF, S.nF, fun a ha => ?_, fun a o z hA hT => ?_, fun a o z => ?_⟩
                · rcases sA a ha with z | z
                  · exact S.nA a z
                  · exact .inr (hB a z).2.1
                · have hne : a ≠ q := fun w => by
                    subst w
                    rcases S.nA a qin with w | w
                    · exact hA w
                    · rw [z] at w; cases w
                  rw [upd_ne hne]
                  exact S.fr a o z hA hT
                · obtain ⟨o', z'⟩ := S.ex a o z
                  by_cases w : a = q
                  · subst w; exact ⟨_, upd_same⟩
                  · rw [upd_ne w]; exact ⟨o', z'⟩
        | _ => cases e⟩
end
end DL

/-! The draws' tape, first kind: a list of a place and the cells. -/
namespace DL
open PySem L2

structure Tp where
  pl : Int
  cs : List Int
structure TpAt (ad : Addr × Addr) (t : Tp) (H : Hp) : Prop where
  hp : H ad.1 = some (.lst [.int t.pl, .ref ad.2])
  hq : H ad.2 = some (.lst (t.cs.map V.int))
  ne : ad.1 ≠ ad.2
  ok : t.cs ≠ []
  le : t.cs.length ≤ 63
@[reducible] def tz : TSys where
  T := Tp
  Ad := Addr × Addr
  addrs a := [a.1, a.2]
  root a := .ref a.1
  At := TpAt
  loc h k := ⟨(k _ (by simp)).trans h.hp, (k _ (by simp)).trans h.hq, h.ne, h.ok, h.le⟩
  has h m := by
    simp only [List.mem_cons, List.not_mem_nil, or_false] at m
    rcases m with rfl | rfl
    · exact ⟨_, h.hp⟩
    · exact ⟨_, h.hq⟩
/-- only the tape has changed -/
theorem Rel.tape {Z : TSys} {ad : Z.Ad} {env : List Sl} {T T' : Z.T} {F H H' : Hp} {σ : L2.St} {A : List Addr} (R : Rel Z ad env T F σ H A) (h : ∀ a, a ∉ Z.addrs ad → H' a = H a) (t : Z.At ad T' H') : Rel Z ad env T' F σ H' A ∧ Stp Z ad A F H A F H' := by
  have out : ∀ a, F a ≠ none → a ∉ Z.addrs ad := fun a ha z => ha (R.tf a z).1
  refine ⟨⟨fun a o e => ?_, R.env.keep (Same.refl _) fun a ha => ⟨h a fun z => (R.tf a z).2 ha, (R.at a ha).1⟩, R.nd, t, R.tf⟩, Same.refl _, fun a h => .inl h, fun a h => .inl h, fun a o e hA hT => (h a hT).trans e, fun a o e => ?_⟩
  · rw [h a (out a (by rw [e]; exact fun z => by cases z))]
    exact R.same _ _ e
  · by_cases z : a ∈ Z.addrs ad
    · exact Z.has t z
    · exact ⟨o, (h a z).trans e⟩

def tpIx (t : Tp) : Nat := (t.pl % (t.cs.length : Nat)).toNat
def tpCell (t : Tp) : Int := t.cs.getD (tpIx t) 0
def mix1 (c p : Int) : Int := (c * 48271 + p * 69621) % 2147483647
def mix2 (m p : Int) : Int := (m * 16807 + p * 7919) % 1000000007
def tpDraw (t : Tp) (n : Int) : Int := if tpCell t ≥ 1000000000000000000 then tpCell t % n else (mix2 (mix1 (tpCell t) (t.pl + 1)) (t.pl + 1) / 7) % n
def tpNext (t : Tp) (n : Int) : Tp := if tpCell t ≥ 1000000000000000000 then ⟨t.pl, t.cs.set (tpIx t) (tpCell t / n)⟩ else ⟨t.pl + 1, t.cs⟩
def tkR (t : Tp) (n : Int) : Int := if n < 2 then 0 else tpDraw t n
def tkT (t : Tp) (n : Int) : Tp := if n < 2 then t else tpNext t n
theorem tkR_lt {t : Tp} {n : Int} (h : 0 < n) : 0 ≤ tkR t n ∧ tkR t n < n := by
  unfold tkR
  split
  · omega
  · unfold tpDraw
    split
    · exact ⟨Int.emod_nonneg _ (by omega), Int.emod_lt_of_pos _ h⟩
    · exact ⟨Int.emod_nonneg _ (by omega), Int.emod_lt_of_pos _ h⟩
theorem tkR_nn {t : Tp} {n : Int} : 0 ≤ tkR t n := by
  by_cases h : 0 < n
  · exact (tkR_lt h).1
  · unfold tkR; rw [if_pos (by omega)]; exact Int.le_refl _
theorem tkR_small {t : Tp} {n : Int} (h : n < 2) : tkR t n = 0 := by
  unfold tkR; rw [if_pos h]
def takeM : SM tz := fun e t => match e with
  | [.sh .tape, .sh (.int n), _, _, _, _] => if n < 1073741824 then some (.rt (.int (tkR t n)), [.sh .tape, .sh (.int n), .no, .no, .no, .no], tkT t n) else none
  | _ => none
/-- the draw, as the defs see it -/
def takeF : FnM tz := runFn 6 2 takeM
theorem takeF_eq {n : Int} {t : Tp} (h : n < 1073741824) : takeF [.tape, .int n] t = some (.int (tkR t n), tkT t n) := by
  simp [takeF, runFn, takeM, h]
def tTake (K : PySem.W.Frag) : TS :=
  tSeq (tIfS (tTest (tOp (rI0 fun i j => .bl (decide (i < j))) (tVar 1) (tC (.int 2)))) (tRet (tC (.int 0))) tNext)
  (tSeq (tAsg (tOp (rIxL K) (tVar 0) (tC (.int 1))) (gName 2))
  (tSeq (tAsg (tOp (rI (fun _ j => 0 < j) fun i j => .int (i % j)) (tCB (fun xs H Q => (∃ i, xs = [V.int i] ∧ Q (.int i) H) ∨ ∃ k, xs = [V.bl k] ∧ Q (.int (if k then 1 else 0)) H) (tCons (tOp (rIxL K) (tVar 0) (tC (.int 0))) tNil))
      (tCB (fun xs H Q => ∃ p ys, xs = [V.ref p] ∧ (SqL K H p ys ∨ SqT K H p ys) ∧ Q (.int ys.length) H) (tCons (tVar 2) tNil))) (gName 3))
  (tSeq (tAsg (tOp (rIxL K) (tVar 2) (tVar 3)) (gName 4))
  (tSeq (tIfS (tTest (tOp (rI0 fun i j => .bl (decide (j ≤ i))) (tVar 4) (tC (.int 1000000000000000000))))
      (tSeq (tAsg (tOp (rI CDiv fun i j => .int (i / j)) (tVar 4) (tVar 1)) (gSub (tVar 2) (tVar 3) rSetL))
        (tRet (tOp (rI (fun _ j => 0 < j) fun i j => .int (i % j)) (tCB (fun xs H Q => (∃ i, xs = [V.int i] ∧ Q (.int i) H) ∨ ∃ k, xs = [V.bl k] ∧ Q (.int (if k then 1 else 0)) H) (tCons (tVar 4) tNil)) (tVar 1)))) tNext)
  (tSeq (tAsg (tOp (rI0 fun i j => .int (i + j)) (tOp (rIxL K) (tVar 0) (tC (.int 0))) (tC (.int 1))) (gSub (tVar 0) (tC (.int 0)) rSetL))
  (tSeq (tAsg (tOp (rI (fun _ j => 0 < j) fun i j => .int (i % j)) (tCB (fun xs H Q => (∃ i, xs = [V.int i] ∧ Q (.int i) H) ∨ ∃ k, xs = [V.bl k] ∧ Q (.int (if k then 1 else 0)) H)
      (tCons (tOp (rI0 fun i j => .int (i + j)) (tOp (rI CMul fun i j => .int (i * j)) (tVar 4) (tC (.int 48271))) (tOp (rI CMul fun i j => .int (i * j)) (tOp (rIxL K) (tVar 0) (tC (.int 0))) (tC (.int 69621)))) tNil)) (tC (.int 2147483647))) (gName 5))
  (tSeq (tAsg (tOp (rI (fun _ j => 0 < j) fun i j => .int (i % j)) (tCB (fun xs H Q => (∃ i, xs = [V.int i] ∧ Q (.int i) H) ∨ ∃ k, xs = [V.bl k] ∧ Q (.int (if k then 1 else 0)) H)
      (tCons (tOp (rI0 fun i j => .int (i + j)) (tOp (rI CMul fun i j => .int (i * j)) (tVar 5) (tC (.int 16807))) (tOp (rI CMul fun i j => .int (i * j)) (tOp (rIxL K) (tVar 0) (tC (.int 0))) (tC (.int 7919)))) tNil)) (tC (.int 1000000007))) (gName 5))
    (tRet (tOp (rI (fun _ j => 0 < j) fun i j => .int (i % j)) (tCB (fun xs H Q => (∃ i, xs = [V.int i] ∧ Q (.int i) H) ∨ ∃ k, xs = [V.bl k] ∧ Q (.int (if k then 1 else 0)) H)
      (tCons (tOp (rI CDiv fun i j => .int (i / j)) (tVar 5) (tC (.int 7))) tNil)) (tVar 1))))))))))
theorem takeM_inv {e : List Sl} {t : Tp} {fl : Fl} {e' : List Sl} {t' : Tp} (h : takeM e t = some (fl, e', t')) : ∃ (n : Int) (s2 s3 s4 s5 : Sl), e = [.sh .tape, .sh (.int n), s2, s3, s4, s5] ∧ n < 1073741824 ∧ fl = .rt (.int (tkR t n)) ∧ e' = [.sh .tape, .sh (.int n), .no, .no, .no, .no] ∧ t' = tkT t n := by
  unfold takeM at h
  split at h
  · rename_i n s2 s3 s4 s5
    by_cases hn : n < 1073741824
    · rw [if_pos hn] at h
      cases h
      exact ⟨n, s2, s3, s4, s5, rfl, hn, rfl, rfl, rfl⟩
    · rw [if_neg hn] at h; cases h
  · cases h
theorem bT {b : Bool} {A B : Prop} (e : b = true) (h : A) : if b = true then A else B := by rw [if_pos e]; exact h
theorem bF {b : Bool} {A B : Prop} (e : b = false) (h : B) : if b = true then A else B := by rw [if_neg (by rw [e]; decide)]; exact h
theorem take_core {K : PySem.W.Frag} {D : Ends} {σ : L2.St} {H : Hp} (h : denS tz takeM D σ H) : tTake K D σ H := by
  obtain ⟨⟨p, q⟩, env, T, F, A, fl, env', T', R, e, k⟩ := h
  obtain ⟨n, s2, s3, s4, s5, rfl, hn, rfl, rfl, rfl⟩ := takeM_inv e
  have hR := R.env
  obtain ⟨o0, r0, A0, A0', rfl, rfl, h0, o1, r1, A1, A1', rfl, rfl, h1, o2, r2, A2, A2', rfl, rfl, h2, o3, r3, A3, A3', rfl, rfl, h3, o4, r4, A4, A4', rfl, rfl, h4, o5, r5, A5, A5', rfl, rfl, h5, rfl, rfl⟩ := hR
  obtain ⟨_, v0, rfl, hv0⟩ := h0
  obtain ⟨_, v1, rfl, hv1⟩ := h1
  simp only [Holds] at hv0 hv1
  subst hv0 hv1
  obtain ⟨hp, hq, ne, ok, le⟩ := R.tp
  dsimp only at hp hq ne
  have wp : ∀ {Hx : Hp} {T2 : Tp} {σ2 : L2.St}, (∀ a, a ∉ ([p, q] : List Addr) → Hx a = H a) → TpAt (p, q) T2 Hx → (∃ a b c d, σ2 = [some (.ref p), some (.int n), a, b, c, d]) → ∃ A', Rel tz (p, q) [.sh .tape, .sh (.int n), .no, .no, .no, .no] T2 F σ2 Hx A' ∧ Stp tz (p, q) (A0 ++ (A1 ++ (A2 ++ (A3 ++ (A4 ++ (A5 ++ [])))))) F H A' F Hx := by
    rintro Hx T2 σ2 hx ht ⟨a, b, c, d, rfl⟩
    obtain ⟨R1, S1⟩ := Rel.tape (Z := tz) (ad := (p, q)) (T' := T2) R hx ht
    obtain ⟨B1, R2, S2⟩ := R1.setNo 2 a
    obtain ⟨B2, R3, S3⟩ := R2.setNo 3 b
    obtain ⟨B3, R4, S4⟩ := R3.setNo 4 c
    obtain ⟨B4, R5, S5⟩ := R4.setNo 5 d
    exact ⟨B4, R5, (((S1.trans S2).trans S3).trans S4).trans S5⟩
  refine ⟨_, rfl, n, 2, rfl, rfl, decide (n < 2), rfl, ?_⟩
  by_cases n2 : n < 2
  · refine bT (decide_eq_true n2) ?_
    obtain ⟨A', R', S'⟩ := wp (Hx := H) (T2 := tkT T n) (σ2 := [some (.ref p), some (.int n), o2, o3, o4, o5]) (fun _ _ => rfl) (by unfold tkT; rw [if_pos n2]; exact ⟨hp, hq, ne, ok, le⟩) ⟨_, _, _, _, rfl⟩
    exact k _ H F A' R' S' (.int 0) (by unfold tkR; rw [if_pos n2]; simp only [Holds])
  · refine bF (decide_eq_false n2) ?_
    have hlen : 0 < T.cs.length := List.length_pos_iff.mpr ok
    have hix : tpIx T < T.cs.length := by
      unfold tpIx
      have a := Int.emod_lt_of_pos T.pl (b := (T.cs.length : Int)) (by omega)
      have b := Int.emod_nonneg T.pl (b := (T.cs.length : Int)) (by omega)
      omega
    have hixI : T.pl % (T.cs.length : Int) = (tpIx T : Int) := by
      unfold tpIx
      have b := Int.emod_nonneg T.pl (b := (T.cs.length : Int)) (by omega)
      omega
    have ixn : ixN T.cs.length (T.pl % (T.cs.length : Int)) = some (tpIx T) := by
      rw [hixI]; unfold ixN
      rw [if_pos (by omega), if_pos (by omega)]; rfl
    have hget : T.cs[tpIx T]? = some (tpCell T) := by
      unfold tpCell
      rw [List.getD_eq_getElem?_getD, List.getElem?_eq_getElem hix]; rfl
    refine ⟨_, rfl, p, _, 1, .ref q, rfl, rfl, SqL.of hp, rfl, ?_⟩
    refine ⟨_, rfl, p, _, 0, .int T.pl, rfl, rfl, SqL.of hp, rfl, .inl ⟨T.pl, rfl, _, rfl, q, _, rfl, .inl (SqL.of hq), ?_⟩⟩
    refine ⟨T.pl, ((T.cs.map V.int).length : Nat), rfl, rfl, by simpa using hlen, ?_⟩
    refine ⟨_, rfl, _, rfl, q, _, _, .int (tpCell T), rfl, rfl, SqL.of hq, ?_, ?_⟩
    · unfold L2.atI
      rw [List.length_map, ixn]
      simp only [Option.bind_some, List.getElem?_map, hget, Option.map_some]
    refine ⟨_, rfl, tpCell T, 1000000000000000000, rfl, rfl, decide (1000000000000000000 ≤ tpCell T), rfl, ?_⟩
    by_cases big : 1000000000000000000 ≤ tpCell T
    · refine bT (decide_eq_true big) ?_
      refine ⟨_, rfl, _, rfl, tpCell T, n, rfl, rfl, ⟨by omega, hn⟩, ?_⟩
      refine ⟨_, rfl, _, rfl, q, _, _, tpIx T, rfl, rfl, hq, by rw [List.length_map]; exact ixn, ?_⟩
      refine ⟨_, rfl, .inl ⟨tpCell T, rfl, _, rfl, tpCell T, n, rfl, rfl, by omega, ?_⟩⟩
      obtain ⟨A', R', S'⟩ := wp (Hx := L2.upd H q (.lst ((T.cs.map V.int).set (tpIx T) (.int (tpCell T / n))))) (T2 := tkT T n) (σ2 := [some (.ref p), some (.int n), some (.ref q), some (.int (T.pl % ((T.cs.map V.int).length : Nat))), some (.int (tpCell T)), o5])
        (fun a ha => upd_ne fun z => ha (by simp [z])) (by
          unfold tkT tpNext
          rw [if_neg n2, if_pos big]
          exact ⟨(upd_ne ne).trans hp, upd_same.trans (by simp), ne, by simpa using ok, by simpa using le⟩) ⟨_, _, _, _, rfl⟩
      exact k _ _ F A' R' S' (.int (tpCell T % n)) (by unfold tkR tpDraw; rw [if_neg n2, if_pos big]; simp only [Holds])
    · refine bF (decide_eq_false big) ?_
      refine ⟨_, rfl, p, _, 0, .int T.pl, rfl, rfl, SqL.of hp, rfl, T.pl, 1, rfl, rfl, ?_⟩
      refine ⟨_, rfl, p, _, 0, 0, rfl, rfl, hp, rfl, ?_⟩
      have hp2 : L2.upd H p (.lst [.int (T.pl + 1), .ref q]) p = some (.lst [.int (T.pl + 1), .ref q]) := upd_same
      refine ⟨_, rfl, tpCell T, 48271, rfl, rfl, .inr ⟨by decide, by decide⟩, _, rfl, p, _, 0, .int (T.pl + 1), rfl, rfl, SqL.of hp2, rfl, T.pl + 1, 69621, rfl, rfl, .inr ⟨by decide, by decide⟩, _, _, rfl, rfl, .inl ⟨_, rfl, _, _, rfl, rfl, (by show (0 : Int) < 2147483647; decide), ?_⟩⟩
      refine ⟨_, rfl, mix1 (tpCell T) (T.pl + 1), 16807, rfl, rfl, .inr ⟨by decide, by decide⟩, _, rfl, p, _, 0, .int (T.pl + 1), rfl, rfl, SqL.of hp2, rfl, T.pl + 1, 7919, rfl, rfl, .inr ⟨by decide, by decide⟩, _, _, rfl, rfl, .inl ⟨_, rfl, _, _, rfl, rfl, (by show (0 : Int) < 1000000007; decide), ?_⟩⟩
      refine ⟨_, rfl, mix2 (mix1 (tpCell T) (T.pl + 1)) (T.pl + 1), 7, rfl, rfl, ⟨by decide, by decide⟩, .inl ⟨_, rfl, _, rfl, _, n, rfl, rfl, by omega, ?_⟩⟩
      obtain ⟨A', R', S'⟩ := wp (Hx := L2.upd H p (.lst [.int (T.pl + 1), .ref q])) (T2 := tkT T n) (σ2 := [some (.ref p), some (.int n), some (.ref q), some (.int (T.pl % ((T.cs.map V.int).length : Nat))), some (.int (tpCell T)), some (.int (mix2 (mix1 (tpCell T) (T.pl + 1)) (T.pl + 1)))])
        (fun a ha => upd_ne fun z => ha (by simp [z])) (by
          unfold tkT tpNext
          rw [if_neg n2, if_neg big]
          exact ⟨upd_same, (upd_ne ne.symm).trans hq, ne, ok, le⟩) ⟨_, _, _, _, rfl⟩
      exact k _ _ F A' R' S' (.int (mix2 (mix1 (tpCell T) (T.pl + 1)) (T.pl + 1) / 7 % n)) (by unfold tkR tpDraw; rw [if_neg n2, if_neg big]; simp only [Holds])
end DL

/-! The draws' tape, first kind: how it is made of the script. -/
namespace DL
open PySem L2

def absI (i : Int) : Int := if i < 0 then -i else i
def startT (ns : List Int) : Tp := ⟨0, if ns = [] then [0] else ns.map absI⟩
def spState (K : PySem.W.Frag) : Sp := fun vs H Q _ => ∃ (a : Addr) (ns : List Int), vs = [.ref a] ∧ SqL K H a (ns.map V.int) ∧ ns.length ≤ 63 ∧ ∀ p q H', TpAt (p, q) (startT ns) H' → Q (.ref p) H'
abbrev rAbsI : List V → Hp → VK → Prop := fun xs H Q => ∃ i, xs = [V.int i] ∧ Q (.int (if i < 0 then -i else i)) H
def tState (K : PySem.W.Frag) : TS :=
  tSeq (tAsg (tLc (iList K (tSl (rSlL K) (tVar 0) (fun σ H Q => Q none H) (fun σ H Q => tC (.int 63) σ H fun x H1 => ∃ i, x = V.int i ∧ Q (some i) H1))) (gName 2) tYes (tCB rAbsI (tCons (tVar 2) tNil)) [2]) (gName 1))
  (tSeq (tIfS (tTest (tOp rEq (tCB (fun xs H Q => ∃ p ys, xs = [V.ref p] ∧ (SqL K H p ys ∨ SqT K H p ys) ∧ Q (.int ys.length) H) (tCons (tVar 1) tNil)) (tC (.int 0)))) (tAsg (tLst (tCons (tC (.int 0)) tNil)) (gName 1)) tNext)
    (tRet (tLst (tCons (tC (.int 0)) (tCons (tVar 1) tNil)))))
theorem cut63 {xs : List V} (h : xs.length ≤ 63) : cutV xs none (some 63) = xs := by
  unfold cutV
  have e : HT.sIx xs.length xs.length (some 63) = xs.length := by
    have := HT.sIx_nat xs.length xs.length 63
    rw [show ((63 : Nat) : Int) = 63 from rfl] at this
    rw [this]; omega
  rw [e, HT.sIx_none, List.drop_zero, Nat.sub_zero, List.take_length]
theorem state_core {K : PySem.W.Frag} {D : Ends} {H : Hp} {a : Addr} {ns : List Int} (hS : SqL K H a (ns.map V.int)) (hl : ns.length ≤ 63) (k : ∀ p q H', TpAt (p, q) (startT ns) H' → D.rt (.ref p) H') : tState K D [some (.ref a), none, none] H := by
  refine ⟨.ref a, rfl, 63, rfl, a, _, rfl, hS, fun p0 hp0 => ?_⟩
  rw [cut63 (by simpa using hl)]
  have h0 : L2.upd H p0 (.lst (ns.map V.int)) p0 = some (.lst (ns.map V.int)) := upd_same
  refine ⟨p0, rfl, ⟨_, SqL.of h0⟩, fun L hL => ?_⟩
  have nL : p0 ≠ L := fun z => by rw [z, upd_same] at hL; cases hL
  refine lc_list (K := K) (a := p0) (xs := ns.map V.int) (fun i H' => H' p0 = some (.lst (ns.map V.int)) ∧ H' L = some (.lst ((ns.take i).map fun n => V.int (absI n)))) ⟨(upd_ne nL).trans h0, upd_same⟩ (fun i H' _ h => SqL.of h.1) ?_ ?_
  · rintro i x H' hi ⟨h1, h2⟩
    have hi63 : i < ns.length := by
      have q := (List.getElem?_eq_some_iff.mp hi).1
      simpa using q
    have hx : x = V.int ns[i] := by
      rw [List.getElem?_map, List.getElem?_eq_getElem hi63] at hi
      simpa using hi.symm
    subst hx
    refine ⟨rfl, ?_⟩
    unfold tYes
    refine iteT ⟨_, rfl, ns[i], rfl, _, h2, ?_, (upd_ne nL).trans h1, ?_⟩
    · rw [List.length_map, List.length_take]
      exact Nat.lt_of_le_of_lt (Nat.min_le_left _ _) (Nat.lt_of_lt_of_le hi63 (Nat.le_trans hl (by decide)))
    · rw [upd_same, List.take_succ_eq_append_getElem hi63, List.map_append]
      rfl
  · rintro H' ⟨h1, h2⟩
    rw [List.length_map, List.take_length] at h2
    refine ⟨_, rfl, L, _, rfl, .inl (SqL.of h2), rfl, decide (V.int ((ns.map fun n => V.int (absI n)).length : Nat) = V.int 0), rfl, ?_⟩
    by_cases e : ns = []
    · subst e
      refine bT (decide_eq_true rfl) ⟨Nat.le_trans (by decide : 1 ≤ 63) (by decide), fun m hm => ?_⟩
      refine ⟨_, rfl, Nat.le_trans (by decide : 2 ≤ 63) (by decide), fun p hp => ?_⟩
      have np : p ≠ m := fun z => by rw [z, upd_same] at hp; cases hp
      exact k p m _ ⟨upd_same, (upd_ne np.symm).trans upd_same, np, by simp [startT], by simp [startT]⟩
    · refine bF (decide_eq_false fun z => ?_) ⟨_, rfl, Nat.le_trans (by decide : 2 ≤ 63) (by decide), fun p hp => ?_⟩
      · injection z with z
        apply e
        apply List.length_eq_zero_iff.mp
        simp only [List.length_map] at z
        omega
      · have np : p ≠ L := fun z => by rw [z, h2] at hp; cases hp
        refine k p L _ ⟨upd_same, (upd_ne np.symm).trans ?_, np, ?_, ?_⟩
        · rw [h2]; unfold startT; rw [if_neg e, List.map_map]; rfl
        · unfold startT; rw [if_neg e]; simpa using e
        · unfold startT; rw [if_neg e]; simpa using hl
end DL

/-! The data layer: defs by level; the law's first statement. -/
namespace DL
open PySem L2

structure FnAt (Z : TSys) (P : Program) (w : World) (K : PySem.W.Frag) (mg : Str → Option Value) (base : Heap) (k : Nat) (x : Str) (n : Nat) (f : FnM Z) : Prop where
  ex : ∃ (fa : Addr) (fd : FuncData) (ps : List Str), ps.length = n ∧ FnOk P w K mg base CX0 k fa fd ps (spD Z n f) ∧ mg x = some (.ref fa) ∧ PySem.W.keepIn K (.ref fa) = true ∧ Binds K fd ps []
theorem FnAt.fn {Z : TSys} {P : Program} {w : World} {K : PySem.W.Frag} {mg : Str → Option Value} {base : Heap} {k k' : Nat} {x : Str} {n : Nat} {f : FnM Z} (h : FnAt Z P w K mg base k x n f) {A : Around} (hr : Room k' A) (le : k ≤ k') : Fn Z P w K mg base A x n f := by
  obtain ⟨fa, fd, ps, e, F, m, kp, b⟩ := h.ex
  exact ⟨k, fa, fd, ps, e, F, hr.mono le, m, kp, b⟩
theorem Fun.ofD {K : PySem.W.Frag} {x qual : Str} {st : Stmt} {f : Addr} {fd : FuncData} (F : FunD K x qual (defArgs st) (defBody st) (defScope st) [] [] f fd) : Fun K x qual st f fd := by
  obtain ⟨oc, od, dV, kV, doc, pm, an, cdv, ct, osl, e, lk, hc, hd, _⟩ := F.ex
  refine ⟨⟨oc, od, kV, doc, pm, an, cdv, ct, osl, ?_, lk, hc⟩, F.kp⟩
  rcases hd with ⟨_, e2⟩ | ⟨e2, _⟩
  · rw [e, e2]
  · exact absurd rfl e2
theorem FnAt.of {Z : TSys} {P : Program} {w : World} {K : PySem.W.Frag} {mg : Str → Option Value} {base : Heap} {k : Nat} {x : Str} {n : Nat} {f : FnM Z} {fa : Addr} {fd : FuncData} {ps : List Str} (F : FnOk P w K mg base CX0 k fa fd ps (spD Z n f)) (e : ps.length = n) (m : mg x = some (.ref fa)) (kp : PySem.W.keepIn K (.ref fa) = true) (b : Binds K fd ps []) : FnAt Z P w K mg base k x n f := ⟨fa, fd, ps, e, F, m, kp, b⟩
theorem kitT {K : PySem.W.Frag} {T : String} (h : (["NoneType", "bool", "int", "str", "tuple", "list", "dict"].all fun n => decide (kitB n T = some (n == T || (n == "bool" && T == "int")))) = true) : ∀ n ∈ ["NoneType", "bool", "int", "str", "tuple", "list", "dict"], PySem.W.kitOne K (.type n) (.type T) = some (n == T || (n == "bool" && T == "int")) := fun n hn =>
  kit_ty (of_decide_eq_true (List.all_eq_true.mp h n hn))
def spLaw (K : PySem.W.Frag) : Sp := fun vs H Q _ => ∃ (a : Addr) (ns : List Int), vs = [.ref a] ∧ SqL K H a (ns.map V.int) ∧ ns.length ≤ 63 ∧ ∀ H', Q (.bl true) H'
theorem FnOk.imp {P : Program} {w : World} {K : PySem.W.Frag} {mg : Str → Option Value} {base : Heap} {CX : CXT} {k : Nat} {fa : Addr} {fd : FuncData} {ps : List Str} {sp sp' : Sp} (h : FnOk P w K mg base CX k fa fd ps sp) (e : sp' = sp) : FnOk P w K mg base CX k fa fd ps sp' := e ▸ h
/-- the law's reading: state = _law_state(script), then the rest, by data -/
theorem law_core {m : SM tz} {D : Ends} {x : V} {k : Nat} (ns : List Int) (hrun : ∃ T', ∃ e', m (.no :: .sh .tape :: List.replicate k .no) (startT ns) = some (.rt (.bl true), e', T')) (hq : ∀ H', D.rt (.bl true) H') :
    ∀ p q H', TpAt (p, q) (startT ns) H' → denS tz m D (some x :: some (.ref p) :: List.replicate k none) H' := by
  intro p q H' ht
  obtain ⟨T', e', e⟩ := hrun
  have env0 : ∀ k : Nat, EnvR (tz.root (p, q)) (fun _ => none) H' (List.replicate k .no) (List.replicate k none) [] := by
    intro k
    induction k with
    | zero => exact ⟨rfl, rfl⟩
    | succ k ih => exact ⟨none, _, [], [], rfl, rfl, rfl, ih⟩
  refine ⟨(p, q), .no :: .sh .tape :: List.replicate k .no, startT ns, fun _ => none, [], _, e', T', ⟨(fun a o z => by cases z), ⟨some x, _, [], [], rfl, rfl, rfl, ⟨some (.ref p), _, [], [], rfl, rfl, ⟨rfl, .ref p, rfl, by simp only [Holds]⟩, env0 k⟩⟩, List.nodup_nil, ht, fun a _ => ⟨rfl, by simp⟩⟩, e, fun σ' H2 F2 A2 R S v hv => ?_⟩
  simp only [Holds] at hv
  subst hv
  exact hq H2
end DL

/-! The data layer read as plain functions. -/
namespace DL
open PySem L2

section
variable {Z : TSys}
theorem forL_nx {g : G} {b : SM Z} {ds : List D} {e : List Sl} {t : Z.T} (Inv : Nat → List Sl → Z.T → Prop) (h0 : Inv 0 e t)
    (hs : ∀ i d e t, ds[i]? = some d → Inv i e t → ∃ e1, g d e = some e1 ∧ ∃ fl e2 t2, b e1 t = some (fl, e2, t2) ∧ (fl = .nx ∨ fl = .ct) ∧ Inv (i + 1) e2 t2) :
    ∃ e' t', forL g b ds e t = some (.nx, e', t') ∧ Inv ds.length e' t' := by
  induction ds generalizing e t Inv with
  | nil => exact ⟨e, t, rfl, h0⟩
  | cons d ds ih =>
    obtain ⟨e1, h1, fl, e2, t2, h2, hf, h3⟩ := hs 0 d e t rfl h0
    obtain ⟨e', t', q1, q2⟩ := ih (e := e2) (t := t2) (fun i => Inv (i + 1)) h3 fun i d' e t hd hi => hs (i + 1) d' e t (by simpa using hd) hi
    refine ⟨e', t', ?_, q2⟩
    simp only [forL, h1, h2]
    rcases hf with rfl | rfl
    · exact q1
    · exact q1
theorem forL_any {g : G} {b : SM Z} {ds : List D} {e : List Sl} {t : Z.T} (Inv : Nat → List Sl → Z.T → Prop) (Ret : D → Z.T → Prop) (h0 : Inv 0 e t)
    (hs : ∀ i d e t, ds[i]? = some d → Inv i e t → ∃ e1, g d e = some e1 ∧ ∃ fl e2 t2, b e1 t = some (fl, e2, t2) ∧ (((fl = .nx ∨ fl = .ct) ∧ Inv (i + 1) e2 t2) ∨ ∃ r, fl = .rt r ∧ Ret r t2)) :
    ∃ fl e' t', forL g b ds e t = some (fl, e', t') ∧ ((fl = .nx ∧ Inv ds.length e' t') ∨ ∃ r, fl = .rt r ∧ Ret r t') := by
  induction ds generalizing e t Inv with
  | nil => exact ⟨.nx, e, t, rfl, .inl ⟨rfl, h0⟩⟩
  | cons d ds ih =>
    obtain ⟨e1, h1, fl, e2, t2, h2, hf⟩ := hs 0 d e t rfl h0
    rcases hf with ⟨hf, h3⟩ | ⟨r, rfl, h3⟩
    · obtain ⟨fl', e', t', q1, q2⟩ := ih (e := e2) (t := t2) (fun i => Inv (i + 1)) h3 fun i d' e t hd hi => hs (i + 1) d' e t (by simpa using hd) hi
      refine ⟨fl', e', t', ?_, q2⟩
      simp only [forL, h1, h2]
      rcases hf with rfl | rfl
      · exact q1
      · exact q1
    · refine ⟨.rt r, e2, t2, ?_, .inr ⟨r, rfl, h3⟩⟩
      simp only [forL, h1, h2]
/-- a loop that is a fold over typed states -/
theorem forL_fold {S A : Type} {g : G} {b : SM Z} (enc : S → List Sl) (eA : A → D) (f : S → A → S) (P : S → A → Prop) (h : ∀ s a t, P s a → ∃ e1, g (eA a) (enc s) = some e1 ∧ b e1 t = some (.nx, enc (f s a), t)) :
    ∀ (xs : List A) (s : S) (t : Z.T), (∀ i a, xs[i]? = some a → P ((xs.take i).foldl f s) a) → forL g b (xs.map eA) (enc s) t = some (.nx, enc (xs.foldl f s), t)
  | [], s, t, _ => rfl
  | a :: xs, s, t, hp => by
    obtain ⟨e1, h1, h2⟩ := h s a t (hp 0 a rfl)
    simp only [List.map_cons, forL, h1, h2, List.foldl_cons]
    exact forL_fold enc eA f P h xs (f s a) t fun i a' ha => by
      have := hp (i + 1) a' (by simpa using ha)
      simpa using this
end
/-! ### slots wiped and put back -/
theorem wipeE_length (env : List Sl) : ∀ vs : List Nat, (wipeE env vs).length = env.length
  | [] => rfl
  | v :: vs => by unfold wipeE; rw [List.length_set, wipeE_length env vs]
theorem wipeE_get (env : List Sl) (i : Nat) : ∀ vs : List Nat, (wipeE env vs)[i]? = if i ∈ vs then (if i < env.length then some .no else none) else env[i]?
  | [] => by simp [wipeE]
  | v :: vs => by
    unfold wipeE
    rw [List.getElem?_set, wipeE_get env i vs, wipeE_length]
    by_cases h : v = i
    · subst h; simp
    · have h' : ¬ i = v := fun z => h z.symm
      simp [h, h']
theorem restE_length (env : List Sl) : ∀ (vs : List Nat) (e : List Sl), (restE env vs e).length = e.length
  | [], _ => rfl
  | v :: vs, e => by unfold restE; rw [restE_length env vs, List.length_set]
theorem restE_get (env : List Sl) (i : Nat) : ∀ (vs : List Nat) (e : List Sl), (restE env vs e)[i]? = if i ∈ vs ∧ i < e.length then some (env.getD i .no) else e[i]?
  | [], e => by simp [restE]
  | v :: vs, e => by
    unfold restE
    rw [restE_get env i vs, List.length_set]
    by_cases m : i ∈ vs
    · by_cases l : i < e.length
      · simp [m, l]
      · simp [l]
    · rw [if_neg (fun z => m z.1), List.getElem?_set]
      by_cases h : v = i
      · subst h; simp
        by_cases l : v < e.length
        · simp [l]
        · simp [l]
      · have h' : ¬ i = v := fun z => h z.symm
        simp [h, h', m]
theorem restE_wipe (env : List Sl) (vs : List Nat) : restE env vs (wipeE env vs) = env := by
  apply List.ext_getElem?
  intro i
  rw [restE_get, wipeE_length, wipeE_get]
  by_cases m : i ∈ vs
  · by_cases l : i < env.length
    · simp [m, l]
    · simp [m, l]
  · simp [m]
theorem wipeE_wipe (env : List Sl) (vs : List Nat) : wipeE (wipeE env vs) vs = wipeE env vs := by
  apply List.ext_getElem?
  intro i
  rw [wipeE_get, wipeE_length, wipeE_get]
  by_cases m : i ∈ vs
  · simp [m]
  · simp [m]
section
variable {Z : TSys}
/-- a comprehension without draws -/
theorem lcL_map {A : Type} {own : List Nat} {g : G} {tt : MB Z} {el : M Z} {e : List Sl} {t : Z.T} (eA : A → D) (p : A → Bool) (f : A → D) (he : wipeE e own = e) : ∀ (xs : List A) (acc : List D),
    (∀ a ∈ xs, ∃ e1, g (eA a) e = some e1 ∧ wipeE e1 own = e ∧ tt e1 t = some (p a, e1, t) ∧ (p a = true → ∃ e2, el e1 t = some (f a, e2, t) ∧ wipeE e2 own = e)) →
    lcL own g tt el (xs.map eA) acc e t = some (acc ++ (xs.filter p).map f, e, t)
  | [], acc, _ => by simp [lcL]
  | a :: xs, acc, h => by
    obtain ⟨e1, h1, h2, h3, h4⟩ := h a List.mem_cons_self
    have ih := fun acc => lcL_map (g := g) (tt := tt) (el := el) (t := t) eA p f he xs acc fun b hb => h b (List.mem_cons_of_mem _ hb)
    simp only [List.map_cons, lcL, he, h1, h3]
    cases q : p a with
    | false =>
      simp only [h2]
      rw [ih, List.filter_cons_of_neg (by simp [q])]
    | true =>
      obtain ⟨e2, h5, h6⟩ := h4 q
      simp only [h5, h6]
      rw [ih, List.filter_cons_of_pos q, List.map_cons, List.append_assoc]
      rfl
theorem mlc_map {A : Type} {own : List Nat} {src : ML Z} {g : G} {tt : MB Z} {el : M Z} {e e1 : List Sl} {t t1 : Z.T} (eA : A → D) (p : A → Bool) (f : A → D) (xs : List A) (hs : src e t = some (xs.map eA, e1, t1)) (hok : ownOk e1 own = true) (hl : xs.length ≤ 16777216)
    (h : ∀ a ∈ xs, ∃ e2, g (eA a) (wipeE e1 own) = some e2 ∧ wipeE e2 own = wipeE e1 own ∧ tt e2 t1 = some (p a, e2, t1) ∧ (p a = true → ∃ e3, el e2 t1 = some (f a, e3, t1) ∧ wipeE e3 own = wipeE e1 own)) :
    mlc own src g tt el e t = some (.lst ((xs.filter p).map f), e1, t1) := by
  unfold mlc
  have hz : ((xs.map eA).length ≤ sizeLine) := by rw [List.length_map]; exact Nat.le_trans hl (by decide)
  simp only [hs, hok, hz, decide_true, Bool.and_self, if_true]
  rw [lcL_map eA p f (wipeE_wipe e1 own) xs [] h]
  simp only [List.nil_append, restE_wipe]
theorem mlc_all {A : Type} {own : List Nat} {src : ML Z} {g : G} {el : M Z} {e e1 : List Sl} {t t1 : Z.T} (eA : A → D) (f : A → D) (xs : List A) (hs : src e t = some (xs.map eA, e1, t1)) (hok : ownOk e1 own = true) (hl : xs.length ≤ 16777216)
    (h : ∀ a ∈ xs, ∃ e2, g (eA a) (wipeE e1 own) = some e2 ∧ wipeE e2 own = wipeE e1 own ∧ ∃ e3, el e2 t1 = some (f a, e3, t1) ∧ wipeE e3 own = wipeE e1 own) :
    mlc own src g byes el e t = some (.lst (xs.map f), e1, t1) := by
  have := mlc_map (tt := byes) (el := el) eA (fun _ => true) f xs hs hok hl fun a ha => by
    obtain ⟨e2, h1, h2, h3⟩ := h a ha
    exact ⟨e2, h1, h2, rfl, fun _ => h3⟩
  rwa [List.filter_eq_self.mpr fun _ _ => rfl] at this
/-- .. that draws -/
theorem lcL_inv {own : List Nat} {g : G} {tt : MB Z} {el : M Z} {e : List Sl} (he : wipeE e own = e) (Inv : Nat → List D → Z.T → Prop) : ∀ (ds : List D) (acc : List D) (t : Z.T) (n : Nat), Inv n acc t →
    (∀ i d acc t, ds[i]? = some d → Inv (n + i) acc t → ∃ e1, g d e = some e1 ∧ ∃ c e2 t2, tt e1 t = some (c, e2, t2) ∧ ((c = false ∧ wipeE e2 own = e ∧ Inv (n + i + 1) acc t2) ∨ (c = true ∧ ∃ y e3 t3, el e2 t2 = some (y, e3, t3) ∧ wipeE e3 own = e ∧ Inv (n + i + 1) (acc ++ [y]) t3))) →
    ∃ acc' t', lcL own g tt el ds acc e t = some (acc', e, t') ∧ Inv (n + ds.length) acc' t'
  | [], acc, t, n, h0, _ => ⟨acc, t, rfl, h0⟩
  | d :: ds, acc, t, n, h0, hs => by
    obtain ⟨e1, h1, c, e2, t2, h2, h3⟩ := hs 0 d acc t rfl h0
    have rc := fun acc t h => lcL_inv (g := g) (tt := tt) (el := el) he Inv ds acc t (n + 1) h fun i d' acc t hd hi => by
      have := hs (i + 1) d' acc t (by simpa using hd) (by rw [show n + (i + 1) = n + 1 + i by omega]; exact hi)
      rw [show n + (i + 1) + 1 = n + 1 + i + 1 by omega] at this
      exact this
    rw [show n + (d :: ds).length = n + 1 + ds.length by rw [List.length_cons]; omega]
    rcases h3 with ⟨rfl, h4, h5⟩ | ⟨rfl, y, e3, t3, h4, h5, h6⟩
    · obtain ⟨acc', t', q1, q2⟩ := rc acc t2 h5
      refine ⟨acc', t', ?_, q2⟩
      simp only [lcL, he, h1, h2, h4]
      exact q1
    · obtain ⟨acc', t', q1, q2⟩ := rc (acc ++ [y]) t3 h6
      refine ⟨acc', t', ?_, q2⟩
      simp only [lcL, he, h1, h2, h4, h5]
      exact q1
theorem mlc_inv {own : List Nat} {src : ML Z} {g : G} {el : M Z} {e e1 : List Sl} {t t1 : Z.T} {ds : List D} (Inv : Nat → List D → Z.T → Prop) (hs : src e t = some (ds, e1, t1)) (hok : ownOk e1 own = true) (hl : ds.length ≤ 16777216) (h0 : Inv 0 [] t1)
    (h : ∀ i d acc t, ds[i]? = some d → Inv i acc t → ∃ e2, g d (wipeE e1 own) = some e2 ∧ ∃ y e3 t3, el e2 t = some (y, e3, t3) ∧ wipeE e3 own = wipeE e1 own ∧ Inv (i + 1) (acc ++ [y]) t3) :
    ∃ acc t', mlc own src g byes el e t = some (.lst acc, e1, t') ∧ Inv ds.length acc t' := by
  obtain ⟨acc, t', q1, q2⟩ := lcL_inv (g := g) (tt := byes) (el := el) (wipeE_wipe e1 own) Inv ds [] t1 0 h0 fun i d acc t hd hi => by
    rw [Nat.zero_add] at hi ⊢
    obtain ⟨e2, h1, y, e3, t3, h2, h3, h4⟩ := h i d acc t hd hi
    exact ⟨e2, h1, true, e2, t, rfl, .inr ⟨rfl, y, e3, t3, h2, h3, h4⟩⟩
  refine ⟨acc, t', ?_, by simpa using q2⟩
  unfold mlc
  have hz : (ds.length ≤ sizeLine) := Nat.le_trans hl (by decide)
  simp only [hs, hok, hz, decide_true, Bool.and_self, if_true, q1, restE_wipe]
/-- two clauses, without draws -/
theorem lc2L_map {A B : Type} {own own1 : List Nat} {g : G} {src1 : ML Z} {g1 : G} {tt1 : MB Z} {el : M Z} {e : List Sl} {t : Z.T} (eA : A → D) (eB : B → D) (in1 : A → List B) (p : A → B → Bool) (f : A → B → D) (he : wipeE e own = e) : ∀ (xs : List A) (acc : List D),
    (∀ a ∈ xs, ∃ e1 e2, g (eA a) e = some e1 ∧ src1 e1 t = some ((in1 a).map eB, e2, t) ∧ wipeE (wipeE e2 own1) own = e ∧ ∀ b ∈ in1 a, ∃ e3, g1 (eB b) (wipeE e2 own1) = some e3 ∧ wipeE e3 own1 = wipeE e2 own1 ∧ tt1 e3 t = some (p a b, e3, t) ∧ (p a b = true → ∃ e4, el e3 t = some (f a b, e4, t) ∧ wipeE e4 own1 = wipeE e2 own1)) →
    lc2L own own1 g byes src1 g1 tt1 el (xs.map eA) acc e t = some (acc ++ xs.flatMap fun a => ((in1 a).filter (p a)).map (f a), e, t)
  | [], acc, _ => by simp [lc2L]
  | a :: xs, acc, h => by
    obtain ⟨e1, e2, h1, h2, h3, h4⟩ := h a List.mem_cons_self
    have ih := fun acc => lc2L_map (g := g) (src1 := src1) (g1 := g1) (tt1 := tt1) (el := el) (t := t) (own1 := own1) eA eB in1 p f he xs acc fun b hb => h b (List.mem_cons_of_mem _ hb)
    simp only [List.map_cons, lc2L, he, h1, byes, h2]
    rw [lcL_map eB (p a) (f a) (wipeE_wipe e2 own1) (in1 a) acc h4]
    simp only [h3]
    rw [ih, List.flatMap_cons, List.append_assoc]
theorem mlc2_map {A B : Type} {own own1 : List Nat} {src : ML Z} {g : G} {src1 : ML Z} {g1 : G} {el : M Z} {e e0 : List Sl} {t t0 : Z.T} (eA : A → D) (eB : B → D) (in1 : A → List B) (f : A → B → D) (xs : List A) (hs : src e t = some (xs.map eA, e0, t0)) (hok : ownOk e0 own = true)
    (hl : (xs.flatMap in1).length ≤ 16777216)
    (h : ∀ a ∈ xs, ∃ e1 e2, g (eA a) (wipeE e0 own) = some e1 ∧ src1 e1 t0 = some ((in1 a).map eB, e2, t0) ∧ wipeE (wipeE e2 own1) own = wipeE e0 own ∧ ∀ b ∈ in1 a, ∃ e3, g1 (eB b) (wipeE e2 own1) = some e3 ∧ wipeE e3 own1 = wipeE e2 own1 ∧ ∃ e4, el e3 t0 = some (f a b, e4, t0) ∧ wipeE e4 own1 = wipeE e2 own1) :
    mlc2 own own1 src g byes src1 g1 byes el e t = some (.lst (xs.flatMap fun a => (in1 a).map (f a)), e0, t0) := by
  unfold mlc2
  have q := lc2L_map (g := g) (src1 := src1) (g1 := g1) (tt1 := byes) (el := el) (t := t0) (own1 := own1) eA eB in1 (fun _ _ => true) f (wipeE_wipe e0 own) xs [] fun a ha => by
    obtain ⟨e1, e2, h1, h2, h3, h4⟩ := h a ha
    exact ⟨e1, e2, h1, h2, h3, fun b hb => by
      obtain ⟨e3, k1, k2, k3⟩ := h4 b hb
      exact ⟨e3, k1, k2, rfl, fun _ => k3⟩⟩
  simp only [hs, hok, if_true, q, List.nil_append]
  have e2 : (xs.flatMap fun a => ((in1 a).filter fun _ => true).map (f a)) = xs.flatMap fun a => (in1 a).map (f a) := by
    congr 1
    funext a
    rw [List.filter_eq_self.mpr fun _ _ => rfl]
  rw [e2]
  have hz : (xs.flatMap fun a => (in1 a).map (f a)).length ≤ sizeLine := by
    refine Nat.le_trans (Nat.le_of_eq ?_) (Nat.le_trans hl (by decide))
    clear h q hs hl e2
    induction xs with
    | nil => rfl
    | cons a xs ih => simp only [List.flatMap_cons, List.length_append, List.length_map, ih]
  rw [if_pos hz, restE_wipe]
end
@[simp] theorem atI_nat {α : Type} (xs : List α) (i : Nat) : atI xs (i : Int) = xs[i]? := by
  unfold atI ixN
  by_cases h : i < xs.length
  · simp [h]
  · simp [h]
theorem idx_lst (ds : List D) (i : Nat) : idxD (.lst ds) (.int (i : Int)) = ds[i]? := by simp [idxD]
theorem idx_tup (ds : List D) (i : Nat) : idxD (.tup ds) (.int (i : Int)) = ds[i]? := by simp [idxD]
end DL
namespace DL
open PySem L2
section
variable {Z : TSys}
theorem mmt_ee {T : String} {g : D → List D → Option D} {m m2 : M Z} {e e1 e2 : List Sl} {t t1 t2 : Z.T} {d0 d1 r : D} (h1 : m e t = some (d0, e1, t1)) (hk : kindD d0 = T) (h2 : m2 e1 t1 = some (d1, e2, t2)) (h3 : g d0 [d1] = some r) :
    mmt T g (.e m) [.e m2] e t = some (r, e2, t2) := by
  simp only [mmt, slotOk, evA, h1, getA, hk, evN, evAs, h2, getAs, h3, if_true]
theorem sret_ev {m : M Z} {e e1 : List Sl} {t t1 : Z.T} {d : D} (h : m e t = some (d, e1, t1)) : sret m e t = some (.rt d, e1, t1) := by simp only [sret, h]
theorem sset_ev {m : M Z} {e e1 : List Sl} {t t1 : Z.T} {d : D} {i : Nat} (h : m e t = some (d, e1, t1)) : sset i m e t = some (.nx, e1.set i (.sh d), t1) := by simp only [sset, h]
theorem scons_nx {a b : SM Z} {e e1 : List Sl} {t t1 : Z.T} {x : Option (Fl × List Sl × Z.T)} (h : a e t = some (.nx, e1, t1)) (k : b e1 t1 = x) : scons a b e t = x := by simp only [scons, h, k]
theorem scons_rt {a b : SM Z} {e e1 : List Sl} {t t1 : Z.T} {d : D} (h : a e t = some (.rt d, e1, t1)) : scons a b e t = some (.rt d, e1, t1) := by simp only [scons, h]
theorem runFn_rt {N n : Nat} {m : SM Z} {ds : List D} {t t1 : Z.T} {e1 : List Sl} {d : D} (h : m (ds.map .sh ++ List.replicate (N - n) .no) t = some (.rt d, e1, t1)) : runFn N n m ds t = some (d, t1) := by simp only [runFn, h]
theorem runFn_at {N n : Nat} {m : SM Z} {ds : List D} {t t1 : Z.T} {e1 : List Sl} {d : D} (env : List Sl) (h0 : ds.map .sh ++ List.replicate (N - n) .no = env) (h : m env t = some (.rt d, e1, t1)) : runFn N n m ds t = some (d, t1) := by
  subst h0
  exact runFn_rt h
theorem sfor_nx {src : ML Z} {g : G} {b : SM Z} {e e1 : List Sl} {t t1 : Z.T} {ds : List D} {x : Option (Fl × List Sl × Z.T)} (h : src e t = some (ds, e1, t1)) (k : forL g b ds e1 t1 = x) : sfor src g b e t = x := by simp only [sfor, h, k]
end
end DL

/-! The data layer: some more displays. -/
namespace DL
open PySem L2
theorem ie_dict0 {Z : TSys} {X : Cx} {pos : Pos} : IsE Z X (.Dict [] [] pos) (mcst (.dic [] [])) := ⟨PE.imp pe_dnewK fun σ H Q ⟨ad, env, T, F, A, r, env', T', R, e, k⟩ => by
  simp only [mcst, Option.some.injEq, Prod.mk.injEq] at e
  obtain ⟨rfl, rfl, rfl⟩ := e
  intro p hp
  obtain ⟨R2, S2⟩ := R.upd hp (.dK [])
  refine k _ _ _ A R2 S2 ?_
  simp only [Holds]
  exact ⟨p, [], rfl, .nil, .inl ⟨[], rfl, rfl, upd_same⟩⟩⟩
def mneg {Z : TSys} (m : M Z) : M Z := fun e t => match m e t with
  | some (.int i, e1, t1) => some (.int (-i), e1, t1)
  | _ => none
theorem ie_neg {Z : TSys} {X : Cx} {pos : Pos} {e : Expr} {m : M Z} (h : IsE Z X e m) : IsE Z X (.UnaryOp .USub e pos) (mneg m) := ⟨PE.imp (pe_un un_neg h.pe) fun σ H Q ⟨ad, env, T, F, A, r, env', T', R, e, k⟩ => by
  unfold mneg at e
  cases q : m env T with
  | none => rw [q] at e; cases e
  | some z =>
    obtain ⟨d, e1, t1⟩ := z
    rw [q] at e
    cases d with
    | int i =>
      simp only [Option.some.injEq, Prod.mk.injEq] at e
      obtain ⟨rfl, rfl, rfl⟩ := e
      refine ⟨ad, env, T, F, A, .int i, e1, t1, R, q, fun v H' F' A' R' S' hv => ?_⟩
      simp only [Holds] at hv
      subst hv
      exact ⟨i, rfl, k _ H' F' A' R' S' (by simp only [Holds])⟩
    | _ => cases e⟩
end DL

/-! The data layer: len(set(texts)), any number of them. -/
namespace DL
open PySem PySem.Spec PyProof.Rows

/-- how many different texts -/
def distS (xs : List Str) : Nat := (xs.foldl (fun acc x => if acc.any (· == x) then acc else acc ++ [x]) []).length
def dedS (xs : List Str) : List Str := xs.foldl (fun acc x => if acc.any (· == x) then acc else acc ++ [x]) []
theorem dedS_mem (xs : List Str) (k : Str) : (dedS xs).any (· == k) = xs.any (· == k) := by
  have : ∀ (xs acc : List Str), (xs.foldl (fun acc x => if acc.any (· == x) then acc else acc ++ [x]) acc).any (· == k) = (acc.any (· == k) || xs.any (· == k)) := by
    intro xs
    induction xs with
    | nil => intro acc; simp
    | cons x xs ih =>
      intro acc
      rw [List.foldl_cons, ih]
      by_cases q : acc.any (· == x) = true
      · rw [if_pos q, List.any_cons]
        by_cases e : x = k
        · subst e; rw [q]; simp
        · have : (x == k) = false := beq_eq_false_iff_ne.mpr e
          rw [this]; simp
      · rw [if_neg q, List.any_append, List.any_cons, List.any_cons, List.any_nil]
        simp [Bool.or_assoc]
  have h := this xs []
  rw [List.any_nil, Bool.false_or] at h
  exact h
theorem dedS_snoc (xs : List Str) (x : Str) : (dedS (xs ++ [x])).length = if xs.any (· == x) then (dedS xs).length else (dedS xs).length + 1 := by
  have e : dedS (xs ++ [x]) = if (dedS xs).any (· == x) then dedS xs else dedS xs ++ [x] := by
    unfold dedS; rw [List.foldl_append]; rfl
  rw [e, dedS_mem]
  split
  · rfl
  · simp
theorem dedS_le (xs : List Str) : (dedS xs).length ≤ xs.length := by
  have : ∀ (xs acc : List Str), (xs.foldl (fun acc x => if acc.any (· == x) then acc else acc ++ [x]) acc).length ≤ acc.length + xs.length := by
    intro xs
    induction xs with
    | nil => intro acc; simp
    | cons x xs ih =>
      intro acc
      rw [List.foldl_cons]
      refine Nat.le_trans (ih _) ?_
      split
      · simp only [List.length_cons]; omega
      · simp only [List.length_append, List.length_cons, List.length_nil]; omega
  have h := this xs []
  rw [List.length_nil, Nat.zero_add] at h
  exact h
section
variable {prog : Program} {w : World} {A : Around} {R : Result → Shared → Prop} {I : Addr} {fp wr : List Addr} {G : Array GenState → Array GenState → Prop} {n : Nat} {P : Nat → Value → Prop} {St : Nat → Shared → Prop}
theorem loopS (W : WalksS prog w A.in1 I fp wr G n P St) (S : Addr) (hSf : S ∉ fp) (xs : List Str) (hsz : xs.length = n) (hn1 : n + 2 < scanBound)
    (hval : ∀ i v, P i v → ∃ t, v = .str (xs.getD i Str.empty) t) (k : Nat) : ∀ (i : Nat) (s : Shared), n - i = k → i ≤ n → St i s →
      s.heap.SetOf (PySem.strKind prog w) S (fun k' => (xs.take i).any (· == k')) (dedS (xs.take i)).length →
      (∀ s', Moved (S :: wr) G s s' → s'.heap.SetOf (PySem.strKind prog w) S (fun k' => (xs.take n).any (· == k')) (dedS (xs.take n)).length → R (.ok (.ret .none)) s') →
      codeAny (model prog w) A (.builtin "set.update.loop" ⟨[.ref S, .ref I], []⟩) R s := by
  have out : S ∉ wr := fun h => hSf (W.sub _ h)
  have sub : ∀ b ∈ wr, b ∈ S :: wr := fun b hb => List.mem_cons_of_mem _ hb
  induction k with
  | zero =>
    intro i s hk hi hst hS hR
    obtain rfl : i = n := by omega
    refine codeAny_builtin PyProof.Rows.F.entry_set_update_loop ?_
    rw [Around.under_plainId PyProof.Rows.F.plain_set_update_loop _]
    show wpAny _ A.in1 (pyNext (.ref I) >>= _) _ _ s
    refine wpAny_bind (W.done s _ _ hst fun s' hm => ?_)
    show wpAny _ A.in1 (ret Value.none) _ _ s'
    obtain ⟨o, es, ep, t, ho, rest⟩ := hS
    exact wpAny_pure (hR s' (hm.mono sub) ⟨o, es, ep, t, hm.heap S _ out ho, rest⟩)
  | succ k ih =>
    intro i s hk hi hst hS hR
    have hlt : i < n := by omega
    refine codeAny_builtin PyProof.Rows.F.entry_set_update_loop ?_
    rw [Around.under_plainId PyProof.Rows.F.plain_set_update_loop _]
    show wpAny _ A.in1 (pyNext (.ref I) >>= _) _ _ s
    refine wpAny_bind (W.item i s _ _ hlt hst fun v s' hP hst' hm => ?_)
    obtain ⟨t, rfl⟩ := hval i v hP
    have hS' : s'.heap.SetOf (PySem.strKind prog w) S (fun k' => (xs.take i).any (· == k')) (dedS (xs.take i)).length := by
      obtain ⟨o, es, ep, tb, ho, rest⟩ := hS
      exact ⟨o, es, ep, tb, hm.heap S _ out ho, rest⟩
    have small : (dedS (xs.take i)).length + 1 < scanBound := by
      have a := dedS_le (xs.take i)
      rw [List.length_take] at a
      omega
    show wpAny _ A.in1 (holding [Value.str (xs.getD i Str.empty) t] (setAdd S (.str (xs.getD i Str.empty) t)) >>= _) _ _ s'
    refine wpAny_bind (wpAny_holding ?_)
    unfold setAdd
    refine wpAny_holding (wpAny_bind ((PySem.strKind prog w).pyHash (k := xs.getD i Str.empty) (strKind_is _ _ _ _) ?_))
    refine wpAny_setAddHashed_of (knd := PySem.strKind prog w) (s := { s' with toks := s'.toks + 1 }) (strKind_is _ _ _ _) rfl hS' small fun h' same hS2 => ?_
    have tk : xs.take (i + 1) = xs.take i ++ [xs.getD i Str.empty] := by
      rw [List.take_succ_eq_append_getElem (by omega), List.getD_eq_getElem?_getD, List.getElem?_eq_getElem (by omega)]; rfl
    have hSi : h'.SetOf (PySem.strKind prog w) S (fun k' => (xs.take (i + 1)).any (· == k')) (dedS (xs.take (i + 1))).length := by
      refine SetOf_congr hS2 (fun k' => ?_) ?_
      · rw [tk, List.any_append]
        congr 1
        by_cases e : k' = xs.getD i Str.empty
        · rw [decide_eq_true e, e]; simp
        · rw [decide_eq_false e]
          have : (xs.getD i Str.empty == k') = false := beq_eq_false_iff_ne.mpr fun z => e z.symm
          simp only [List.any_cons, this, List.any_nil, Bool.or_false]
      · rw [tk, dedS_snoc]
    have keepB : ∀ b o, b ∉ S :: wr → { s' with toks := s'.toks + 1 }.heap.get? b = some o → h'.get? b = some o := fun b o hb e => by
      rw [same.2 b (fun h : b = S => hb (by rw [h]; exact List.mem_cons_self))]; exact e
    refine wpAny_pure ⟨plainId_quiet PyProof.Rows.F.plain_set_update_loop _, ih (i + 1) _ (by omega) hlt (W.frame _ s' _ _ hst' (Nat.le_succ _) fun b hb o e => ?_) hSi fun s'' hm'' hS'' => ?_⟩
    · rw [same.2 b (fun h : b = S => hSf (by rw [← h]; exact hb))]; exact e
    · exact hR s'' (Moved.trans W.gtrans ((hm.mono sub).then_heap (Nat.le_succ _) keepB) hm'') hS''
end

section
variable {prog : Program} {w : World} {A : Around} {E : Value → Shared → Prop} {s : Shared}
/-- what a call of set leaves: a new set of these texts, the old objects as they were -/
def SetLeft (prog : Program) (w : World) (xs : List Str) (s s' : Shared) : Prop := ∃ h' tk, s' = { s with heap := h', toks := tk } ∧
  h'.SetOf (PySem.strKind prog w) s.heap.objs.size (fun k' => xs.any (· == k')) (dedS xs).length ∧
  (∀ b o, s.heap.get? b = some o → h'.get? b = some o)
abbrev newSet (led : Bool) : Obj := { cls := .type "set", dict := none, data := .set #[] 0 (.fresh 0 0 led) }
set_option maxHeartbeats 3200000 in
theorem call_setS {l : Addr} {items : Array Value} {xs : List Str} {Q : Value → Shared → Prop}
    (hh : A.handled = none) (hl : s.heap.IsTuple l items) (hi : PyProof.Rows.StrsAre items.toList xs) (hn1 : xs.length + 2 < scanBound)
    (h : ∀ s', SetLeft prog w xs s s' → Q (.ref s.heap.objs.size) s') :
    wpAny (model prog w) A (call (.type "set") [.ref l]) Q E s := by
  obtain ⟨c, tl, hmro⟩ := PySem.F.called_set.mro
  have m0 := PySem.F.called_set.made
  have m1 := PySem.F.called_set.sub
  refine wpAny_call (codeAny_of_tree ?_)
  show wpAny _ _ (callAny (.type "set") _) _ _ _
  refine wpAny_pure ⟨Code.quiet_builtin _ (by decide +kernel), codeAny_builtin PySem.F.entry_type_call ?_⟩
  rw [Around.under_plain (weight_type_call_type "set" [.ref l] []) rfl]
  have m2 := PySem.F.called_set.notType
  have m3 := PySem.F.called_set.canCreate
  have m4 := PySem.F.typeCall_set_1 (.ref l)
  repeat (any_goals (first | assumption | wp_step))
  refine codeAny_mono (code_set_new_1 (.ref l) (E := E) (Q₁ := fun obj s₁ => ∃ led : Bool, obj = .ref s.heap.objs.size ∧ s₁ = { s with heap := s.heap.push (newSet led) }) fun led => ⟨led, rfl, rfl⟩) fun r s₁ hr => ?_
  cases r with
  | error e => exact hr
  | ok fl =>
    cases fl with
    | ret obj =>
      obtain ⟨led, rfl, rfl⟩ := hr
      have hS : (s.heap.push (newSet led)).get? s.heap.objs.size = some (newSet led) := Heap.get?_push_size _ rfl
      have hT : Shared.TypeIs { s with heap := s.heap.push (newSet led) } (.ref s.heap.objs.size) "set" := ⟨_, hS, rfl⟩
      have m5 := PySem.F.called_set.init.lookup
      have m6 := PySem.F.called_set.init.bind (.ref s.heap.objs.size)
      repeat (any_goals (first | assumption | wp_step))
      refine codeAny_mono (codeAny_call_builtin (R := wants (fun r s₂ => r = .none ∧ SetLeft prog w xs s s₂) E) PySem.F.called_set.init.plain PySem.F.entry_set_init (check_set_init_1 hT ?_)) fun r₂ s₂ hr₂ => ?_
      · obtain ⟨ol, hol, hcl, nl, hdl⟩ := hl
        obtain ⟨ocls, odict, odata, oslots⟩ := ol
        simp only at hcl hdl
        subst hcl; subst hdl
        have hl1 : (s.heap.push (newSet led)).IsTuple l items := ⟨_, Heap.get?_push_of_some _ hol, rfl, nl, rfl⟩
        have m9 := (Heap.get?_push_of_some (newSet led) hol : (s.heap.push (newSet led)).get? l = some { cls := .type "tuple", dict := odict, data := .seq items nl, slots := oslots })
        have m7 := PySem.F.sub_tuple_set
        have m8 := PySem.F.sub_tuple_frozenset
        have ma : (Value.type "tuple" == Value.type "dict") = false := by decide
        unfold Builtin.«set.__init__» noKeywords Builtin.Frozenset.updateFrom
        generalize q : pyIter = PI
        wp_walk
        subst q
        refine wpAny_pyIter_tuple hl1 (wpAny_bind (wpAny_runValue ?_))
        have big : (s.heap.push (newSet led)).objs.size = s.heap.objs.size + 1 := Heap.size_push _ _
        have hlS : l < s.heap.objs.size := Heap.lt_size hol
        have hsz : xs.length = items.size := by rw [← StrsAre.len_eq hi, Array.length_toList]
        have all : xs.take items.size = xs := by rw [← hsz, List.take_length]
        refine loopS (xs := xs) ((Walks.tuple (show A.in1.in1.in1.handled = none by simp [hh]) _ l (by rw [big]; exact Nat.ne_of_lt (Nat.lt_succ_of_lt hlS)) items).toS) s.heap.objs.size
          (by rw [big]; simp only [List.mem_cons, List.not_mem_nil, or_false, not_or]; exact ⟨Nat.ne_of_lt (Nat.lt_succ_self _), Nat.ne_of_gt hlS⟩) hsz (by rw [← hsz]; exact hn1)
          (fun i v hv => SS.strs_at hi i v (by rw [Array.getElem?_toList]; exact hv)) (items.size - 0) 0 _ (by omega) (Nat.zero_le _)
          ⟨⟨_, Heap.get?_push_size _ rfl, rfl, rfl⟩, (hl1.push _)⟩ ?c0 ?c1
        case c0 =>
          exact PyProof.Rows.SetOf_congr ((PyProof.Rows.setObjOf_fresh (knd := PySem.strKind prog w) led).setOf (Heap.get?_push_of_some _ hS) (by unfold scanBound; omega)) (fun _ => rfl) rfl
        case c1 =>
          intro s' hm hS'
          obtain ⟨h', g', d', tk', os'⟩ := s'
          obtain rfl : g' = s.gens := hm.gens
          obtain rfl : d' = s.drawn := hm.drawn
          obtain rfl : os' = s.os := hm.os
          show wpAny _ _ _ _ _ _
          refine wpAny_pure ?_
          show wpAny _ _ (ret Value.none) _ _ _
          rw [all] at hS'
          refine wpAny_pure ⟨rfl, h', tk', rfl, hS', fun b o e => ?_⟩
          have hb := Heap.lt_size e
          exact hm.heap b o (by rw [big]; simp only [List.mem_cons, List.not_mem_nil, or_false, not_or]; exact ⟨Nat.ne_of_lt hb, Nat.ne_of_lt (Nat.lt_succ_of_lt hb)⟩) (Heap.get?_push_of_some _ (Heap.get?_push_of_some _ e))
      · cases r₂ with
        | error e => exact hr₂
        | ok fl₂ =>
          cases fl₂ with
          | ret r =>
            obtain ⟨rfl, left⟩ := hr₂
            repeat (any_goals (first | assumption | wp_step))
            exact h _ left
          | _ => exact hr₂.elim
    | _ => exact hr.elim
end
end DL

/-! The data layer: xs[::-1] of a tuple; len(set(texts)) as an expression. -/
namespace DL
open PySem PySem.Spec PyProof.Rows HT
section
variable {prog : Program} {w : World} {A : Around} {E : Value → Shared → Prop} {s : Shared}
theorem revApplied {sl : Addr} {vl vu vs : Value} {n : Nat} {Q : Int × Int × Nat → Shared → Prop} (hs : s.heap.IsSliceOf sl vl vu vs) (pl : IsPart vl none) (pu : IsPart vu none) (ps : IsPart vs (some (-1)))
    (h : Q (((n : Int) - 1, -1, n)) s) : wpAny (model prog w) A (Builtin.Slice.sliceApplied (.ref sl) (pure (n : Int))) Q E s := by
  obtain ⟨os, g0, g1, g2⟩ := id hs
  unfold Builtin.Slice.sliceApplied Builtin.Slice.sliceFields
  refine wpAny_bind (wpAny_bind (wpAny_field g0 g2 (x := vl) rfl (wpAny_bind (wpAny_field g0 g2 (x := vu) rfl (wpAny_bind (wpAny_field g0 g2 (x := vs) rfl (wpAny_pure ?_)))))))
  refine wpAny_bind (slicePart_ ps ?_)
  show wpAny _ _ (if ((-1 : Int) == 0) = true then _ else _) _ _ s
  rw [if_neg (by decide)]
  refine wpAny_bind (slicePart_ pl (wpAny_bind (slicePart_ pu (wpAny_bind (wpAny_pure ?_)))))
  show wpAny _ _ (match Builtin.Slice.sliceAdjust none none (-1) (n : Int) with | (lo, hi) => pure (lo, (-1 : Int), Builtin.Slice.slicePlaces lo hi (-1))) _ _ s
  have e1 : Builtin.Slice.sliceAdjust none none (-1) (n : Int) = ((n : Int) - 1, -1) := by
    unfold Builtin.Slice.sliceAdjust; simp
  have e2 : Builtin.Slice.slicePlaces ((n : Int) - 1) (-1) (-1) = n := by
    unfold Builtin.Slice.slicePlaces
    have h1 : ¬ ((-1 : Int) > 0) := by decide
    simp only [h1, if_false]
    split <;> simp <;> omega
  rw [e1]
  show wpAny _ _ (pure ((n : Int) - 1, (-1 : Int), Builtin.Slice.slicePlaces ((n : Int) - 1) (-1) (-1))) _ _ s
  rw [e2]
  exact wpAny_pure h
theorem revPick (xs : Array Value) : ((List.range xs.size).filterMap fun (m : Nat) => xs[((xs.size : Int) - 1 + (m : Int) * (-1)).toNat]?).toArray = xs.toList.reverse.toArray := by
  have e : ((List.range xs.size).filterMap fun (m : Nat) => xs[((xs.size : Int) - 1 + (m : Int) * (-1)).toNat]?) = ((List.range xs.size).map fun k => xs.size - 1 - k).filterMap (xs[·]?) := by
    rw [List.filterMap_map]
    have go : ∀ (l : List Nat), (∀ k ∈ l, k < xs.size) → (l.filterMap fun (m : Nat) => xs[((xs.size : Int) - 1 + (m : Int) * (-1)).toNat]?) = l.filterMap ((fun x => xs[x]?) ∘ fun k => xs.size - 1 - k) := by
      intro l
      induction l with
      | nil => intro _; rfl
      | cons k l ih =>
        intro h
        have := h k List.mem_cons_self
        have e2 : ((xs.size : Int) - 1 + (k : Int) * (-1)).toNat = xs.size - 1 - k := by omega
        rw [List.filterMap_cons, List.filterMap_cons, ih fun j hj => h j (List.mem_cons_of_mem _ hj), e2]
        rfl
    exact go _ fun k hk => List.mem_range.mp hk
  rw [e, PySem.W.krv_range, List.filterMap_reverse, PySem.W.krv_all]
theorem getTupleRev {t sl : Addr} {items : Array Value} {vl vu vs : Value} {Q : Value → Shared → Prop} (ht : IsTup s.heap t items) (hs : s.heap.IsSliceOf sl vl vu vs) (pl : IsPart vl none) (pu : IsPart vu none) (ps : IsPart vs (some (-1)))
    (h : Q (.ref s.heap.objs.size) { s with heap := s.heap.push { cls := .type "tuple", data := .seq items.toList.reverse.toArray } })
    (hsz : items.size ≤ sizeLine) : wpAny (model prog w) A (getItem (.ref t) (.ref sl)) Q E s := by
  have fits : sizeOk (.seq items.toList.reverse.toArray) := by
    show items.toList.reverse.toArray.size ≤ sizeLine
    rw [List.size_toArray, List.length_reverse, Array.length_toList]
    exact hsz
  obtain ⟨os, g0, g1, g2⟩ := id hs
  have ty : s.TypeIs (.ref sl) "slice" := ⟨os, g0, g1⟩
  unfold getItem
  try with_reducible refine wpAny_holding ?_
  first | refine wpAny_bind (wpAny_pure ?_) | skip
  refine wpAny_bind (wpAny_sequenceKey ht.typeIs (by decide) ?_)
  refine wpAny_bind (wpAny_callSpecial?_slot (name := Str.ofString "__getitem__") ht.typeIs PyProof.Rows.slot_tuple_getitem
    (wpAny_call_entry PyProof.Rows.slot_tuple_getitem ht.typeIs entry_tuple_getitem ?_ (args_tuple_getitem _ _)))
  show wpAny _ _ (Builtin.Tuple.tupleItemsOf (.ref t) >>= _) _ _ s
  refine wpAny_bind (tupleItemsOf_ ht (wpAny_bind (wpAny_typeOf ty ?_)))
  rw [if_pos (by decide)]
  refine wpAny_bind (revApplied (n := items.size) hs pl pu ps ?_)
  have no : ¬ ((((items.size : Int) - 1) == 0 && (-1 : Int) == 1 && items.size == items.size) = true) := by
    intro q
    rw [Bool.and_eq_true, Bool.and_eq_true] at q
    exact absurd q.1.2 (by decide)
  show wpAny _ _ (if (((items.size : Int) - 1) == 0 && (-1 : Int) == 1 && items.size == items.size) = true then _ else _) _ _ s
  rw [if_neg no, revPick]
  first
    | exact wpAny_bind (m := Builtin.Tuple.tupleExact _) (wpAny_newObj_type (wpAny_pure ⟨_, rfl, wpAny_pure h⟩) fits)
    | exact wpAny_bind (m := Builtin.Tuple.tupleExact _) (wpAny_newObj_type (wpAny_bind (wpAny_pure (wpAny_pure ⟨_, rfl, wpAny_pure h⟩))) fits)
    | exact wpAny_bind (wpAny_bind (m := Builtin.Tuple.tupleExact _) (wpAny_newObj_type (wpAny_pure (wpAny_pure ⟨_, rfl, wpAny_pure h⟩)) fits))
    | exact wpAny_bind (wpAny_bind (m := Builtin.Tuple.tupleExact _) (wpAny_newObj_type (wpAny_pure ⟨_, rfl, wpAny_pure h⟩) fits))
end
end DL
namespace DL
open PySem PySem.Spec PyProof.Rows L2
section
variable {X : Cx}
def tRevT (K : PySem.W.Frag) (te : TE) : TE := fun σ H Q => te σ H fun x H1 => ∃ a xs, x = .ref a ∧ SqT K H1 a xs ∧ ∀ p o, H1 p = none → o.dict = none → Q (.ref p) (upd H1 p (.frz o (.tup xs.reverse)))
theorem pe_revT {e : Expr} {te : TE} {k : Nat} {p1 p2 p3 pos : Pos} (he : PE X e te) : PE X (.Subscript e (.Slice none none (some (.UnaryOp .USub (.Constant (.int 1) k p1) p2)) p3) pos) (tRevT X.K te) := by
  refine ⟨fun pins s σ H Q I h => PyProof.Rows.Subscript_ (thn (he.run pins s σ H _ I h) fun v s1 ⟨x, H1, I1, r1, a, xs, ex, hx, q⟩ => ?_)⟩
  subst ex
  cases r1
  have step : PO X (some (.UnaryOp .USub (.Constant (.int 1) k p1) p2)) (tPart (tUn (rU fun i => .int (-i)) (tC (.int 1)))) := po_some (pe_un un_neg pe_int)
  refine wpAny_Slice (thn (po_none.run pins s1 σ H1 (fun o H2 => o = none ∧ H2 = H1) I1 ⟨rfl, rfl⟩) fun vl s2 ⟨l, H2, I2, pl, el, e2⟩ => ?_)
  subst el e2
  refine thn (po_none.run pins s2 σ H2 (fun o H3 => o = none ∧ H3 = H2) I2 ⟨rfl, rfl⟩) fun vu s3 ⟨u, H3, I3, pu, eu, e3⟩ => ?_
  subst eu e3
  refine thn (step.run pins s3 σ H3 (fun o H4 => o = some (-1) ∧ H4 = H3) I3 ⟨1, rfl, -1, rfl, rfl, rfl⟩) fun vs s4 ⟨o, H4, I4, ps, eo, e4⟩ => ?_
  subst eo e4
  have I5 : Inv X pins σ H4 { s4 with heap := s4.heap.push { cls := .type "slice", data := .fields #[vl, vu, vs] } } := I4.kept (t' := s4.toks) fun b ob q => Heap.get?_push_of_some _ q
  obtain ⟨its, r, ht, hz⟩ := I5.tuple hx
  have hlen := r.length
  show wpAny (model X.prog X.w) X.A (subscriptTail e (.Slice none none (some (.UnaryOp .USub (.Constant (.int 1) k p1) p2)) p3) (.ref a) (.ref s4.heap.objs.size)) (EP X pins σ Q) X.xe { s4 with heap := s4.heap.push { cls := .type "slice", data := .fields #[vl, vu, vs] } }
  refine tail_any (ops := [.ref a, .ref s4.heap.objs.size]) ht.typeIs (PyProof.Rows.slot_tuple_getitem.lookup) ?_ (by with_unfolding_all rfl)
  refine getTupleRev ht (Heap.IsSliceOf.new _ vl vu vs) pl pu ps ?_ (by rw [List.size_toArray]; omega)
  exact ⟨.ref _, _, laidT I5 r.reverse (by rw [List.length_reverse]; exact hz) s4.toks, rfl, q _ _ (I5.hok.fresh (Nat.le_refl _)) rfl⟩
end
def mrev {Z : TSys} (m : M Z) : M Z := fun e t => match m e t with
  | some (.tup ds, e1, t1) => some (.tup ds.reverse, e1, t1)
  | _ => none
theorem HoldsL.rev {rt : V} {F : Hp} : ∀ {ds : List D} {vs : List V}, HoldsL rt F ds vs → HoldsL rt F ds.reverse vs.reverse := by
  intro ds
  induction ds with
  | nil => intro vs h; simp only [HoldsL] at h; subst h; exact .nil
  | cons d r ih =>
    intro vs h
    simp only [HoldsL] at h
    obtain ⟨v, us, rfl, h1, h2⟩ := h
    rw [List.reverse_cons, List.reverse_cons]
    exact (ih h2).app (.one h1)
theorem ie_rev {Z : TSys} {X : Cx} {k : Nat} {p1 p2 p3 pos : Pos} {e : Expr} {m : M Z} (h : IsE Z X e m) : IsE Z X (.Subscript e (.Slice none none (some (.UnaryOp .USub (.Constant (.int 1) k p1) p2)) p3) pos) (mrev m) := ⟨PE.imp (pe_revT h.pe) fun σ H Q ⟨ad, env, T, F, A, r, env', T', R, e, k⟩ => by
  unfold mrev at e
  cases q : m env T with
  | none => rw [q] at e; cases e
  | some z =>
    obtain ⟨d, e1, t1⟩ := z
    rw [q] at e
    cases d with
    | tup ds =>
      simp only [Option.some.injEq, Prod.mk.injEq] at e
      obtain ⟨rfl, rfl, rfl⟩ := e
      refine ⟨ad, env, T, F, A, .tup ds, e1, t1, R, q, fun v H' F' A' R' S' hv => ?_⟩
      simp only [Holds] at hv
      obtain ⟨a, vs, rfl, f, l⟩ := hv
      refine ⟨a, vs, rfl, (f.mono R'.same).sq, fun p o hp ho => ?_⟩
      obtain ⟨R2, S2⟩ := R'.upd hp (.frz o (.tup vs.reverse))
      refine k _ _ _ _ R2 (R'.st S' S2 R2) ?_
      simp only [Holds]
      exact ⟨p, vs.reverse, rfl, ⟨o, upd_same, ho⟩, l.rev.mono S2.sF⟩
    | _ => cases e⟩
def tLenSetS (K : PySem.W.Frag) (ta : TE) : TE := fun σ H Q => ta σ H fun x H1 => ∃ (l : Addr) (ns : List Str), x = V.ref l ∧ SqT K H1 l (ns.map V.str) ∧ ns.length ≤ 4000 ∧ Q (.int (dedS ns).length) H1
theorem pe_lenSetS {X : Cx} {a : Expr} {ta : TE} {p p2 q pos : Pos} (hg : Gl X "len") (hm : X.mg "len" = none) (hg2 : Gl X "set") (hm2 : X.mg "set" = none) (ha : PE X a ta) (hc : X.calm = true)
    (na : starEach [a] X.env = (false, eval a X.env) :: starEach [] X.env := by rfl) : PE X (.Call (.Name "len" p) [.Call (.Name "set" p2) [a] [] q] [] pos) (tLenSetS X.K ta) := by
  refine ⟨fun pins s σ H Q I h => ?_⟩
  refine PyProof.Rows.Call_ (ld_blt I hg hm PySem.boot_len (PyProof.Rows.callWith_builtin1 (PyProof.Rows.args_cons ?_ rfl) rfl rfl))
  refine PyProof.Rows.Call_ (ld_blt I hg2 hm2 PyProof.Rows.boot_set (PyProof.Rows.callWith_type1 (PyProof.Rows.args_cons (thn (ha.run pins s σ H _ I h) fun v s1 ⟨x, H1, I1, r1, q1⟩ => PyProof.Rows.args_nil ?_) na) na rfl))
  obtain ⟨l, ns, rfl, hq, hl, q1⟩ := q1
  cases r1
  obtain ⟨its, r, pl, hz⟩ := I1.tuple hq
  refine call_setS (I1.ok.hd hc) pl (xs := ns) (by simpa using r.strs) (by unfold scanBound; omega) fun s2 ⟨h', tk, e2, hS, hk⟩ => PyProof.Rows.args_nil ?_
  subst e2
  obtain ⟨o, es, ep, t, ho, hex, hd, _, _, _, hf, hn⟩ := hS
  have I2 : Inv X pins σ H1 { s1 with heap := h', toks := tk } := I1.kept fun b o e => hk b o e
  have hle := dedS_le ns
  exact call_len_set ho hex hd hf (by rw [hn] <;> omega) ⟨.int (dedS ns).length, H1, I2.tok _, ⟨_, by rw [hn]⟩, q1⟩
def mlensetS {Z : TSys} (a : Arg Z) : M Z := fun e t => match ev1 a e t with
  | some (.tup ds, e1, t1) => match strsD ds with
    | some ns => if ns.length ≤ 4000 then some (.int (dedS ns).length, e1, t1) else none
    | none => none
  | _ => none
theorem ie_lensetS {Z : TSys} {X : Cx} {a : Expr} {A : Arg Z} {p p2 q pos : Pos} (hg : Gl X "len") (hm : X.mg "len" = none) (hg2 : Gl X "set") (hm2 : X.mg "set" = none) (ha : IsA Z X a A) (hc : X.calm = true)
    (na : starEach [a] X.env = (false, eval a X.env) :: starEach [] X.env := by rfl) : IsE Z X (.Call (.Name "len" p) [.Call (.Name "set" p2) [a] [] q] [] pos) (mlensetS A) :=
  ⟨PE.imp (pe_lenSetS hg hm hg2 hm2 ha.pe hc na) fun σ H Q ⟨ad, env, T, F, A0, d, env', T', R, e, k⟩ => by
  unfold mlensetS at e
  cases q : ev1 A env T with
  | none => rw [q] at e; cases e
  | some z =>
    obtain ⟨d0, e1, t1⟩ := z
    rw [q] at e
    cases d0 with
    | tup ds =>
      simp only at e
      cases q2 : strsD ds with
      | none => rw [q2] at e; cases e
      | some ns =>
        rw [q2] at e
        simp only at e
        split at e
        · rename_i hz
          simp only [Option.some.injEq, Prod.mk.injEq] at e
          obtain ⟨rfl, rfl, rfl⟩ := e
          refine ev1_run q R fun v H' F' A' R' S' hv => ?_
          have ex := strsD_inv q2
          subst ex
          simp only [HB, Holds] at hv
          obtain ⟨a, us, rfl, f, l⟩ := hv
          have eu := holds_strs l
          subst eu
          exact ⟨a, ns, rfl, (f.mono R'.same).sq, hz, k _ H' F' A' R' S' (by simp only [Holds])⟩
        · cases e
    | _ => cases e⟩
end DL

/-! The draws' tape, second kind: a dict of the cells, a place, a great number and a seed. -/
namespace DL
open PySem L2

structure TpD where
  cs : List Int
  pl : Nat
  big : Int
  seed : Int
def kvD (c : Addr) (t : TpD) : List (Key × V) := [(.inr "cells", .ref c), (.inr "at", .int t.pl), (.inr "big", .int t.big), (.inr "seed", .int t.seed)]
structure TdAt (ad : Addr × Addr) (t : TpD) (H : Hp) : Prop where
  hp : H ad.1 = some (.dK (kvD ad.2 t))
  hq : H ad.2 = some (.lst (t.cs.map V.int))
  ne : ad.1 ≠ ad.2
  le : t.cs.length ≤ 63
@[reducible] def td : TSys where
  T := TpD
  Ad := Addr × Addr
  addrs a := [a.1, a.2]
  root a := .ref a.1
  At := TdAt
  loc h k := ⟨(k _ (by simp)).trans h.hp, (k _ (by simp)).trans h.hq, h.ne, h.le⟩
  has h m := by
    simp only [List.mem_cons, List.not_mem_nil, or_false] at m
    rcases m with rfl | rfl
    · exact ⟨_, h.hp⟩
    · exact ⟨_, h.hq⟩
def mixC (s c : Int) : Int := (s * 48271 + c * 16807 + 11) % 2147483647
def mixS (s : Int) : Int := (s * 48271 + 11) % 2147483647
def tdCell (t : TpD) : Int := t.cs.getD t.pl 0
def feed (t : TpD) : TpD := if t.big = 0 ∧ (t.pl : Int) < t.cs.length then ⟨t.cs, t.pl + 1, if 1000000000000000000 ≤ tdCell t then tdCell t else t.big, mixC t.seed (tdCell t)⟩ else t
def ndR (t : TpD) (n : Int) : Int := if 0 < (feed t).big then (feed t).big % n else mixS (feed t).seed / 7 % n
def ndT (t : TpD) (n : Int) : TpD := if 0 < (feed t).big then ⟨(feed t).cs, (feed t).pl, (feed t).big / n, (feed t).seed⟩ else ⟨(feed t).cs, (feed t).pl, (feed t).big, mixS (feed t).seed⟩
theorem ndR_lt {t : TpD} {n : Int} (h : 0 < n) : 0 ≤ ndR t n ∧ ndR t n < n := by
  unfold ndR
  split
  · exact ⟨Int.emod_nonneg _ (by omega), Int.emod_lt_of_pos _ h⟩
  · exact ⟨Int.emod_nonneg _ (by omega), Int.emod_lt_of_pos _ h⟩
def nextM : SM td := fun e t => match e with
  | [.sh .tape, .sh (.int n), _, _] => if 0 < n ∧ n < 1073741824 then some (.rt (.int (ndR t n)), [.sh .tape, .sh (.int n), .no, .no], ndT t n) else none
  | _ => none
/-- the draw, as the defs see it -/
def nextF : FnM td := runFn 4 2 nextM
theorem nextF_eq {n : Int} {t : TpD} (h0 : 0 < n) (h : n < 1073741824) : nextF [.tape, .int n] t = some (.int (ndR t n), ndT t n) := by
  simp [nextF, runFn, nextM, h0, h]
abbrev gK (k : Str) : TE := tDGet (tVar 0) (tC (.str k))
abbrev rInt1 : List V → Hp → VK → Prop := fun xs H Q => (∃ i, xs = [V.int i] ∧ Q (.int i) H) ∨ ∃ k, xs = [V.bl k] ∧ Q (.int (if k then 1 else 0)) H
abbrev rLen1 (K : PySem.W.Frag) : List V → Hp → VK → Prop := fun xs H Q => ∃ p ys, xs = [V.ref p] ∧ (SqL K H p ys ∨ SqT K H p ys) ∧ Q (.int ys.length) H
abbrev tMod (a b : TE) : TE := tOp (rI (fun _ j => 0 < j) fun i j => .int (i % j)) a b
abbrev tAdd (a b : TE) : TE := tOp (rI0 fun i j => .int (i + j)) a b
abbrev tMul (a b : TE) : TE := tOp (rI CMul fun i j => .int (i * j)) a b
abbrev tI (a : TE) : TE := tCB rInt1 (tCons a tNil)
def tDraw (K : PySem.W.Frag) : TS :=
  tSeq (tIfS (tAnd (tTest (tOp rEq (gK "big") (tC (.int 0)))) (tTest (tOp (rI0 fun i j => .bl (decide (i < j))) (gK "at") (tCB (rLen1 K) (tCons (gK "cells") tNil)))))
    (tSeq (tAsg (tOp (rIxL K) (gK "cells") (gK "at")) (gName 2))
    (tSeq (tAsg (tAdd (gK "at") (tC (.int 1))) (gSub (tVar 0) (tC (.str "at")) rSetD))
    (tSeq (tIfS (tTest (tOp (rI0 fun i j => .bl (decide (j ≤ i))) (tVar 2) (tOp (rI CPow fun i j => .int (i ^ j.toNat)) (tC (.int 10)) (tC (.int 18))))) (tAsg (tVar 2) (gSub (tVar 0) (tC (.str "big")) rSetD)) tNext)
      (tAsg (tMod (tI (tAdd (tAdd (tMul (gK "seed") (tC (.int 48271))) (tMul (tVar 2) (tC (.int 16807)))) (tC (.int 11)))) (tC (.int 2147483647))) (gSub (tVar 0) (tC (.str "seed")) rSetD))))) tNext)
  (tSeq (tIfS (tTest (tOp (rI0 fun i j => .bl (decide (j < i))) (gK "big") (tC (.int 0))))
    (tSeq (tAsg (tMod (tI (gK "big")) (tVar 1)) (gName 3))
    (tSeq (tAsg (tOp (rI CDiv fun i j => .int (i / j)) (gK "big") (tVar 1)) (gSub (tVar 0) (tC (.str "big")) rSetD))
      (tRet (tVar 3)))) tNext)
  (tSeq (tAsg (tMod (tI (tAdd (tMul (gK "seed") (tC (.int 48271))) (tC (.int 11)))) (tC (.int 2147483647))) (gSub (tVar 0) (tC (.str "seed")) rSetD))
    (tRet (tMod (tI (tOp (rI CDiv fun i j => .int (i / j)) (gK "seed") (tC (.int 7)))) (tVar 1)))))
theorem nextM_inv {e : List Sl} {t : TpD} {fl : Fl} {e' : List Sl} {t' : TpD} (h : nextM e t = some (fl, e', t')) : ∃ (n : Int) (s2 s3 : Sl), e = [.sh .tape, .sh (.int n), s2, s3] ∧ (0 < n ∧ n < 1073741824) ∧ fl = .rt (.int (ndR t n)) ∧ e' = [.sh .tape, .sh (.int n), .no, .no] ∧ t' = ndT t n := by
  unfold nextM at h
  split at h
  · rename_i n s2 s3
    by_cases hn : 0 < n ∧ n < 1073741824
    · rw [if_pos hn] at h
      cases h
      exact ⟨n, s2, s3, rfl, hn, rfl, rfl, rfl⟩
    · rw [if_neg hn] at h; cases h
  · cases h
section
variable {H : Hp} {p c : Addr} {t : TpD}
theorem gBig (h : H p = some (.dK (kvD c t))) : DGet H p (.str "big") (some (.int t.big)) := DGet.k (k := .inr "big") h
theorem gAt (h : H p = some (.dK (kvD c t))) : DGet H p (.str "at") (some (.int t.pl)) := DGet.k (k := .inr "at") h
theorem gCells (h : H p = some (.dK (kvD c t))) : DGet H p (.str "cells") (some (.ref c)) := DGet.k (k := .inr "cells") h
theorem gSeed (h : H p = some (.dK (kvD c t))) : DGet H p (.str "seed") (some (.int t.seed)) := DGet.k (k := .inr "seed") h
theorem pBig (h : H p = some (.dK (kvD c t))) (i : Int) : DPut H p (.str "big") (.int i) (L2.upd H p (.dK (kvD c ⟨t.cs, t.pl, i, t.seed⟩))) := DPut.k (k := .inr "big") h (by decide : 4 < sizeLine)
theorem pAt (h : H p = some (.dK (kvD c t))) (i : Nat) : DPut H p (.str "at") (.int i) (L2.upd H p (.dK (kvD c ⟨t.cs, i, t.big, t.seed⟩))) := DPut.k (k := .inr "at") h (by decide : 4 < sizeLine)
theorem pSeed (h : H p = some (.dK (kvD c t))) (i : Int) : DPut H p (.str "seed") (.int i) (L2.upd H p (.dK (kvD c ⟨t.cs, t.pl, t.big, i⟩))) := DPut.k (k := .inr "seed") h (by decide : 4 < sizeLine)
end
/-- what comes behind the first statement -/
theorem draw_rest {K : PySem.W.Frag} {D : Ends} {H : Hp} {p c : Addr} {u : TpD} {n : Int} {o2 o3 : Option V} (hn : 0 < n ∧ n < 1073741824) (hp : H p = some (.dK (kvD c u)))
    (k1 : 0 < u.big → D.rt (.int (u.big % n)) (L2.upd H p (.dK (kvD c ⟨u.cs, u.pl, u.big / n, u.seed⟩)))) (k2 : ¬ 0 < u.big → D.rt (.int (mixS u.seed / 7 % n)) (L2.upd H p (.dK (kvD c ⟨u.cs, u.pl, u.big, mixS u.seed⟩)))) :
    (tSeq (tIfS (tTest (tOp (rI0 fun i j => .bl (decide (j < i))) (gK "big") (tC (.int 0))))
    (tSeq (tAsg (tMod (tI (gK "big")) (tVar 1)) (gName 3))
    (tSeq (tAsg (tOp (rI CDiv fun i j => .int (i / j)) (gK "big") (tVar 1)) (gSub (tVar 0) (tC (.str "big")) rSetD))
      (tRet (tVar 3)))) tNext)
  (tSeq (tAsg (tMod (tI (tAdd (tMul (gK "seed") (tC (.int 48271))) (tC (.int 11)))) (tC (.int 2147483647))) (gSub (tVar 0) (tC (.str "seed")) rSetD))
    (tRet (tMod (tI (tOp (rI CDiv fun i j => .int (i / j)) (gK "seed") (tC (.int 7)))) (tVar 1))))) D [some (.ref p), some (.int n), o2, o3] H := by
  refine ⟨_, rfl, _, _, rfl, gBig hp, u.big, 0, rfl, rfl, decide (0 < u.big), rfl, ?_⟩
  by_cases b : 0 < u.big
  · refine bT (decide_eq_true b) ?_
    refine ⟨_, rfl, _, _, rfl, gBig hp, .inl ⟨u.big, rfl, _, rfl, u.big, n, rfl, rfl, hn.1, ?_⟩⟩
    refine ⟨_, rfl, _, _, rfl, gBig hp, _, rfl, u.big, n, rfl, rfl, ⟨by omega, hn.2⟩, ?_⟩
    refine ⟨_, rfl, p, _, rfl, pBig hp _, ?_⟩
    exact ⟨_, rfl, k1 b⟩
  · refine bF (decide_eq_false b) ?_
    refine ⟨_, rfl, _, _, rfl, gSeed hp, u.seed, 48271, rfl, rfl, .inr ⟨by decide, by decide⟩, _, _, rfl, rfl, .inl ⟨_, rfl, _, _, rfl, rfl, (by show (0 : Int) < 2147483647; decide), ?_⟩⟩
    refine ⟨_, rfl, p, _, rfl, pSeed hp _, ?_⟩
    have hp2 : L2.upd H p (.dK (kvD c ⟨u.cs, u.pl, u.big, mixS u.seed⟩)) p = some (.dK (kvD c ⟨u.cs, u.pl, u.big, mixS u.seed⟩)) := upd_same
    exact ⟨_, rfl, _, _, rfl, gSeed hp2, mixS u.seed, 7, rfl, rfl, ⟨by decide, by decide⟩, .inl ⟨_, rfl, _, rfl, _, n, rfl, rfl, hn.1, k2 b⟩⟩
theorem draw_core {K : PySem.W.Frag} {D : Ends} {σ : L2.St} {H : Hp} (h : denS td nextM D σ H) : tDraw K D σ H := by
  obtain ⟨⟨p, q⟩, env, T, F, A, fl, env', T', R, e, k⟩ := h
  obtain ⟨n, s2, s3, rfl, hn, rfl, rfl, rfl⟩ := nextM_inv e
  have hR := R.env
  obtain ⟨o0, r0, A0, A0', rfl, rfl, h0, o1, r1, A1, A1', rfl, rfl, h1, o2, r2, A2, A2', rfl, rfl, h2, o3, r3, A3, A3', rfl, rfl, h3, rfl, rfl⟩ := hR
  obtain ⟨_, v0, rfl, hv0⟩ := h0
  obtain ⟨_, v1, rfl, hv1⟩ := h1
  simp only [Holds] at hv0 hv1
  subst hv0 hv1
  obtain ⟨hp, hq, ne, le⟩ := R.tp
  dsimp only at hp hq ne
  have wp : ∀ {Hx : Hp} {T2 : TpD} {σ2 : L2.St}, (∀ a, a ∉ ([p, q] : List Addr) → Hx a = H a) → TdAt (p, q) T2 Hx → (∃ a b, σ2 = [some (.ref p), some (.int n), a, b]) → ∃ A', Rel td (p, q) [.sh .tape, .sh (.int n), .no, .no] T2 F σ2 Hx A' ∧ Stp td (p, q) (A0 ++ (A1 ++ (A2 ++ (A3 ++ [])))) F H A' F Hx := by
    rintro Hx T2 σ2 hx ht ⟨a, b, rfl⟩
    obtain ⟨R1, S1⟩ := Rel.tape (Z := td) (ad := (p, q)) (T' := T2) R hx ht
    obtain ⟨B1, R2, S2⟩ := R1.setNo 2 a
    obtain ⟨B2, R3, S3⟩ := R2.setNo 3 b
    exact ⟨B2, R3, (S1.trans S2).trans S3⟩
  have go : ∀ {Hx : Hp} {o2 o3 : Option V}, (∀ a, a ∉ ([p, q] : List Addr) → Hx a = H a) → Hx p = some (.dK (kvD q (feed T))) → Hx q = some (.lst (T.cs.map V.int)) →
      (tSeq (tIfS (tTest (tOp (rI0 fun i j => .bl (decide (j < i))) (gK "big") (tC (.int 0))))
    (tSeq (tAsg (tMod (tI (gK "big")) (tVar 1)) (gName 3))
    (tSeq (tAsg (tOp (rI CDiv fun i j => .int (i / j)) (gK "big") (tVar 1)) (gSub (tVar 0) (tC (.str "big")) rSetD))
      (tRet (tVar 3)))) tNext)
  (tSeq (tAsg (tMod (tI (tAdd (tMul (gK "seed") (tC (.int 48271))) (tC (.int 11)))) (tC (.int 2147483647))) (gSub (tVar 0) (tC (.str "seed")) rSetD))
    (tRet (tMod (tI (tOp (rI CDiv fun i j => .int (i / j)) (gK "seed") (tC (.int 7)))) (tVar 1))))) D [some (.ref p), some (.int n), o2, o3] Hx := by
    intro Hx o2 o3 hx hpx hqx
    have fc : (feed T).cs = T.cs := by unfold feed; split <;> rfl
    refine draw_rest (K := K) hn hpx (fun b => ?_) fun b => ?_
    · obtain ⟨A', R', S'⟩ := wp (Hx := L2.upd Hx p (.dK (kvD q ⟨(feed T).cs, (feed T).pl, (feed T).big / n, (feed T).seed⟩))) (T2 := ndT T n) (σ2 := [some (.ref p), some (.int n), o2, o3])
        (fun a ha => (upd_ne fun z => ha (by simp [z])).trans (hx a ha)) (by
          unfold ndT
          rw [if_pos b]
          exact ⟨upd_same, (upd_ne ne.symm).trans (by rw [hqx, fc]), ne, by rw [fc]; exact le⟩) ⟨_, _, rfl⟩
      exact k _ _ F A' R' S' (.int ((feed T).big % n)) (by unfold ndR; rw [if_pos b]; simp only [Holds])
    · obtain ⟨A', R', S'⟩ := wp (Hx := L2.upd Hx p (.dK (kvD q ⟨(feed T).cs, (feed T).pl, (feed T).big, mixS (feed T).seed⟩))) (T2 := ndT T n) (σ2 := [some (.ref p), some (.int n), o2, o3])
        (fun a ha => (upd_ne fun z => ha (by simp [z])).trans (hx a ha)) (by
          unfold ndT
          rw [if_neg b]
          exact ⟨upd_same, (upd_ne ne.symm).trans (by rw [hqx, fc]), ne, by rw [fc]; exact le⟩) ⟨_, _, rfl⟩
      exact k _ _ F A' R' S' (.int (mixS (feed T).seed / 7 % n)) (by unfold ndR; rw [if_neg b]; simp only [Holds])
  have ec : ∀ x : Int, decide (V.int x = V.int 0) = decide (x = 0) := fun x => by
    by_cases z : x = 0
    · subst z; simp
    · simp [z]
  refine ⟨_, rfl, _, _, rfl, gBig hp, rfl, decide (V.int T.big = V.int 0), rfl, ?_⟩
  by_cases b0 : T.big = 0
  · refine bT (by rw [ec]; exact decide_eq_true b0) ?_
    refine ⟨_, rfl, _, _, rfl, gAt hp, _, rfl, _, _, rfl, gCells hp, q, _, rfl, .inl (SqL.of hq), (T.pl : Int), (((T.cs.map V.int).length : Nat) : Int), rfl, rfl, decide ((T.pl : Int) < ((T.cs.map V.int).length : Nat)), rfl, ?_⟩
    by_cases b1 : (T.pl : Int) < T.cs.length
    · refine bT (decide_eq_true (by rw [List.length_map]; exact b1)) ?_
      have hl : T.pl < T.cs.length := by omega
      have hget : T.cs[T.pl]? = some (tdCell T) := by
        unfold tdCell
        rw [List.getD_eq_getElem?_getD, List.getElem?_eq_getElem hl]; rfl
      have ft : feed T = ⟨T.cs, T.pl + 1, if 1000000000000000000 ≤ tdCell T then tdCell T else T.big, mixC T.seed (tdCell T)⟩ := by
        unfold feed; rw [if_pos ⟨b0, b1⟩]
      refine ⟨_, rfl, _, _, rfl, gCells hp, _, rfl, _, _, rfl, gAt hp, q, _, _, .int (tdCell T), rfl, rfl, SqL.of hq, ?_, ?_⟩
      · unfold L2.atI ixN
        rw [List.length_map, if_pos (by omega), if_pos (by omega)]
        simp only [Option.bind_some, List.getElem?_map, Int.toNat_natCast, hget, Option.map_some]
      refine ⟨_, rfl, _, _, rfl, gAt hp, (T.pl : Int), 1, rfl, rfl, ?_⟩
      refine ⟨_, rfl, p, _, rfl, pAt hp (T.pl + 1), ?_⟩
      have hp1 : L2.upd H p (.dK (kvD q ⟨T.cs, T.pl + 1, T.big, T.seed⟩)) p = some (.dK (kvD q ⟨T.cs, T.pl + 1, T.big, T.seed⟩)) := upd_same
      refine ⟨_, rfl, 10, 18, rfl, rfl, ⟨by decide, by decide, by decide⟩, tdCell T, 10 ^ (18 : Int).toNat, rfl, rfl, decide (10 ^ (18 : Int).toNat ≤ tdCell T), rfl, ?_⟩
      have e18 : (10 : Int) ^ (18 : Int).toNat = 1000000000000000000 := by decide
      rw [e18]
      by_cases g : 1000000000000000000 ≤ tdCell T
      · refine bT (decide_eq_true g) ?_
        rw [if_pos g] at ft
        refine ⟨_, rfl, _, rfl, p, _, rfl, pBig hp1 (tdCell T), ?_⟩
        have hp2 : L2.upd (L2.upd H p (.dK (kvD q ⟨T.cs, T.pl + 1, T.big, T.seed⟩))) p (.dK (kvD q ⟨T.cs, T.pl + 1, tdCell T, T.seed⟩)) p = some (.dK (kvD q ⟨T.cs, T.pl + 1, tdCell T, T.seed⟩)) := upd_same
        refine ⟨_, rfl, _, _, rfl, gSeed hp2, T.seed, 48271, rfl, rfl, .inr ⟨by decide, by decide⟩, _, rfl, tdCell T, 16807, rfl, rfl, .inr ⟨by decide, by decide⟩, _, _, rfl, rfl, _, _, rfl, rfl, .inl ⟨_, rfl, _, _, rfl, rfl, (by show (0 : Int) < 2147483647; decide), ?_⟩⟩
        refine ⟨_, rfl, p, _, rfl, pSeed hp2 _, ?_⟩
        refine go (fun a ha => ?_) ?_ ?_
        · have : a ≠ p := fun z => ha (by simp [z])
          rw [upd_ne this, upd_ne this, upd_ne this]
        · rw [upd_same, ft]; rfl
        · rw [upd_ne ne.symm, upd_ne ne.symm, upd_ne ne.symm, hq]
      · refine bF (decide_eq_false g) ?_
        rw [if_neg g] at ft
        refine ⟨_, rfl, _, _, rfl, gSeed hp1, T.seed, 48271, rfl, rfl, .inr ⟨by decide, by decide⟩, _, rfl, tdCell T, 16807, rfl, rfl, .inr ⟨by decide, by decide⟩, _, _, rfl, rfl, _, _, rfl, rfl, .inl ⟨_, rfl, _, _, rfl, rfl, (by show (0 : Int) < 2147483647; decide), ?_⟩⟩
        refine ⟨_, rfl, p, _, rfl, pSeed hp1 _, ?_⟩
        refine go (fun a ha => ?_) ?_ ?_
        · have : a ≠ p := fun z => ha (by simp [z])
          rw [upd_ne this, upd_ne this]
        · rw [upd_same, ft]; rfl
        · rw [upd_ne ne.symm, upd_ne ne.symm, hq]
    · refine bF (decide_eq_false (by rw [List.length_map]; exact b1)) ?_
      have ft : feed T = T := by unfold feed; rw [if_neg (fun z => b1 z.2)]
      exact go (fun _ _ => rfl) (by rw [ft]; exact hp) hq
  · refine bF (by rw [ec]; exact decide_eq_false b0) ?_
    have ft : feed T = T := by unfold feed; rw [if_neg (fun z => b0 z.1)]
    exact go (fun _ _ => rfl) (by rw [ft]; exact hp) hq
end DL

/-! The draws' tape, second kind: how it is made of the script. -/
namespace DL
open PySem L2

def startD (sd : Int) (ns : List Int) : TpD := ⟨ns.map absI, 0, 0, sd⟩
def spTape (K : PySem.W.Frag) (sd : Int) : Sp := fun vs H Q _ => ∃ (a : Addr) (ns : List Int), vs = [.ref a] ∧ SqL K H a (ns.map V.int) ∧ ns.length ≤ 63 ∧ ∀ p q H', TdAt (p, q) (startD sd ns) H' → Q (.ref p) H'
def tTape (K : PySem.W.Frag) (sd : Int) : TS :=
  tRet (tDisp [(tC (.str "cells"), tLc (iList K (tVar 0)) (gName 1) tYes (tCB rAbsI (tCons (tI (tVar 1)) tNil)) [1]), (tC (.str "at"), tC (.int 0)), (tC (.str "big"), tC (.int 0)), (tC (.str "seed"), tC (.int sd))])
theorem sq_upd {K : PySem.W.Frag} {H : Hp} {a p : Addr} {xs : List V} {o : HO} (h : SqL K H a xs) (hp : H p = none) : SqL K (L2.upd H p o) a xs := by
  have e : ∀ b u, H b = some u → L2.upd H p o b = some u := fun b u hb => by
    rw [upd_ne fun z => by rw [z, hp] at hb; cases hb]; exact hb
  exact h.elim (fun h => .inl (h.elim (fun h => .inl (e _ _ h)) fun ⟨o, h⟩ => .inr ⟨o, e _ _ h⟩)) fun h => .inr h
theorem sq_keep {K : PySem.W.Frag} {H : Hp} {a L : Addr} {xs : List V} (h : SqL K H a xs) (hL : H L = none) : ∀ H' : Hp, (a ≠ L → H' a = H a) → SqL K H' a xs := by
  intro H' e
  rcases h with (h | ⟨o, h⟩) | h
  · exact .inl (.inl ((e fun z => by rw [z, hL] at h; cases h).trans h))
  · exact .inl (.inr ⟨o, (e fun z => by rw [z, hL] at h; cases h).trans h⟩)
  · exact .inr h
theorem tape_core {K : PySem.W.Frag} {sd : Int} {D : Ends} {H : Hp} {a : Addr} {ns : List Int} (hS : SqL K H a (ns.map V.int)) (hl : ns.length ≤ 63) (k : ∀ p q H', TdAt (p, q) (startD sd ns) H' → D.rt (.ref p) H') : tTape K sd D [some (.ref a), none] H := by
  intro p hp
  have hS1 := sq_upd (o := .dK []) hS hp
  refine ⟨_, rfl, a, rfl, ⟨_, hS1⟩, fun L hL => ?_⟩
  have nL : p ≠ L := fun z => by rw [z, upd_same] at hL; cases hL
  refine lc_list (K := K) (a := a) (xs := ns.map V.int) (fun i H' => (a ≠ L → H' a = L2.upd H p (.dK []) a) ∧ H' p = some (.dK []) ∧ H' L = some (.lst ((ns.take i).map fun n => V.int (absI n)))) ⟨fun z => upd_ne z, (upd_ne nL).trans upd_same, upd_same⟩ (fun i H' _ h => sq_keep hS1 hL H' h.1) ?_ ?_
  · rintro i x H' hi ⟨h0, h1, h2⟩
    have hi63 : i < ns.length := by
      have q := (List.getElem?_eq_some_iff.mp hi).1
      simpa using q
    have hx : x = V.int ns[i] := by
      rw [List.getElem?_map, List.getElem?_eq_getElem hi63] at hi
      simpa using hi.symm
    subst hx
    refine ⟨rfl, ?_⟩
    unfold tYes
    refine iteT ⟨_, rfl, .inl ⟨ns[i], rfl, ns[i], rfl, _, h2, ?_, ?_, (upd_ne nL).trans h1, ?_⟩⟩
    · rw [List.length_map, List.length_take]
      exact Nat.lt_of_le_of_lt (Nat.min_le_left _ _) (Nat.lt_of_lt_of_le hi63 (Nat.le_trans hl (by decide)))
    · exact fun z => (upd_ne z).trans (h0 z)
    · rw [upd_same, List.take_succ_eq_append_getElem hi63, List.map_append]
      rfl
  · rintro H' ⟨h0, h1, h2⟩
    rw [List.length_map, List.take_length] at h2
    refine ⟨h1, [(.inr "cells", .ref L), (.inr "at", .int 0), (.inr "big", .int 0), (.inr "seed", .int sd)], rfl, (by show 4 ≤ 15; decide), ?_⟩
    refine k p L _ ⟨upd_same, (upd_ne nL.symm).trans ?_, nL, ?_⟩
    · rw [h2]; unfold startD; rw [List.map_map]; rfl
    · unfold startD; simpa using hl
/-- the law's reading: tape = _law_tape(script), then the rest, by data -/
theorem law_coreD {m : SM td} {sd : Int} {D : Ends} {x : V} {k : Nat} (ns : List Int) (hrun : ∃ T', ∃ e', m (.no :: .sh .tape :: List.replicate k .no) (startD sd ns) = some (.rt (.bl true), e', T')) (hq : ∀ H', D.rt (.bl true) H') :
    ∀ p q H', TdAt (p, q) (startD sd ns) H' → denS td m D (some x :: some (.ref p) :: List.replicate k none) H' := by
  intro p q H' ht
  obtain ⟨T', e', e⟩ := hrun
  have env0 : ∀ k : Nat, EnvR (td.root (p, q)) (fun _ => none) H' (List.replicate k .no) (List.replicate k none) [] := by
    intro k
    induction k with
    | zero => exact ⟨rfl, rfl⟩
    | succ k ih => exact ⟨none, _, [], [], rfl, rfl, rfl, ih⟩
  refine ⟨(p, q), .no :: .sh .tape :: List.replicate k .no, startD sd ns, fun _ => none, [], _, e', T', ⟨(fun a o z => by cases z), ⟨some x, _, [], [], rfl, rfl, rfl, ⟨some (.ref p), _, [], [], rfl, rfl, ⟨rfl, .ref p, rfl, by simp only [Holds]⟩, env0 k⟩⟩, List.nodup_nil, ht, fun a _ => ⟨rfl, by simp⟩⟩, e, fun σ' H2 F2 A2 R S v hv => ?_⟩
  simp only [Holds] at hv
  subst hv
  exact hq H2
end DL

/-! The data layer: sets of texts that are walked; sorted(set(texts)). -/
namespace DL
open PySem PySem.Spec PyProof.Rows L2

def tx (e : Int × Value) : Str := match e.2 with | .str x _ => x | _ => Str.empty
def TxE (P : Program) (w : World) (e : Int × Value) : Prop := ∃ x tk, e.2 = Value.str x tk ∧ e.1 = (PySem.strKind P w).hash x
/-- what a table of texts is; z: its members in some order -/
structure Tab (P : Program) (w : World) (es : Array (Int × Value)) (t : SetTable) (z : List Str) : Prop where
  ok : ∀ e ∈ es.toList, TxE P w e
  pm : (es.toList.map tx).Perm z
  few : es.size < scanBound
  fits : t.fits es.size = true
  ris : Ris t.place.toList
  led : w.params.followText "set-order" = true ∨ t.led = true
def SW (P : Program) (w : World) (h : Heap) (a : Addr) (z : List Str) : Prop := ∃ o es ep t, h.get? a = some o ∧ o.ExactSet ∧ o.data = .set es ep t ∧ Tab P w es t z
section
variable {P : Program} {w : World} {A : Around} {E : Value → Shared → Prop} {s : Shared} {a : Addr} {z : List Str}
theorem tx_elems {l : List (Int × Value)} (g : ∀ e ∈ l, TxE P w e) : ElemsOf (PySem.strKind P w) l := fun e he => by
  obtain ⟨k, tk, h1, h2⟩ := g e he
  exact ⟨⟨k, by rw [h1]; exact strKind_is P w k tk, h2⟩, by rw [h1] <;> rfl⟩
theorem tx_is {e : Int × Value} (g : TxE P w e) (k : Str) : (PySem.strKind P w).is k e.2 = true ↔ tx e = k := by
  obtain ⟨k0, tk, h1, _⟩ := g
  unfold tx
  rw [h1]
  constructor
  · intro q; exact (PySem.strKind P w).inj _ _ _ (strKind_is P w k0 tk) q
  · intro q
    have q : k0 = k := q
    rw [← q]; exact strKind_is P w k0 tk
theorem tail_w {g : Bool → Sem Unit} (hg : ∀ (b : Bool) (s₁ : Shared) (Q' : Unit → Shared → Prop), Q' () s₁ → wpAny (model P w) A (g b) Q' E s₁)
    {o : Obj} {es : Array (Int × Value)} {ep : Nat} {t : SetTable} (ho : s.heap.get? a = some o) (hex : o.ExactSet) (hd : o.data = .set es ep t)
    {es1 : Array (Int × Value)} {t2 : SetTable} (T : Tab P w es1 t2 z) {wasDummy : Bool} {R : Option Bool → Shared → Prop}
    (hR : ∀ h', Heap.SameBut a s.heap h' → SW P w h' a z → R (some true) { s with heap := h' }) :
    wpAny (model P w) A (do
        storeSet a es1 t2
        if (!wasDummy && t2.tooFull) = true then do
            g (relayAll t2 es1 (SetTable.grown es1.size)).2.2
            storeSet a (relayAll t2 es1 (SetTable.grown es1.size)).1 (relayAll t2 es1 (SetTable.grown es1.size)).2.1
            pure (some true)
          else pure (some true)) R E s := by
  refine wpAny_bind (wpAny_storeSet_of ho hd ?_ (fits_of_scanBound T.few))
  have ho1 := store_at (es' := es1) (t' := t2) ho hd
  have sb1 := Heap.SameBut.update s.heap a (Obj.putSet es1 t2)
  split
  · have pm := relayAll_perm t2 es1 (SetTable.grown es1.size)
    have f3 := relayAll_fits t2 es1 (SetTable.grown es1.size)
    have r3 := relayAll_ris t2 es1 (SetTable.grown es1.size)
    have l3 := relayAll_led t2 es1 (SetTable.grown es1.size)
    generalize relayAll t2 es1 (SetTable.grown es1.size) = Z at pm f3 r3 l3 ⊢
    obtain ⟨es2, t3, gave⟩ := Z
    dsimp only at pm f3 r3 l3 ⊢
    have sz : es2.size = es1.size := by rw [← Array.length_toList, pm.length_eq, Array.length_toList]
    have few : es2.size < scanBound := by rw [sz]; exact T.few
    refine wpAny_bind (hg _ _ _ (wpAny_bind (wpAny_storeSet_of ho1 rfl ?_ (fits_of_scanBound few))))
    refine wpAny_pure (hR _ (sb1.trans (Heap.SameBut.update _ a _)) ⟨_, es2, _, t3, store_at (es' := es2) (t' := t3) ho1 rfl, hex, rfl, fun e he => T.ok e (pm.mem_iff.mp he), (pm.map tx).trans T.pm, few, f3, r3, ?_⟩)
    exact T.led.imp id fun q => by rw [l3]; exact q
  · exact wpAny_pure (hR _ sb1 ⟨_, es1, _, t2, ho1, hex, rfl, T⟩)
def addS (z : List Str) (k : Str) : List Str := if k ∈ z then z else z ++ [k]
theorem add_w {k : Str} {tk : Tok} {Q : Bool → Shared → Prop} (W : SW P w s.heap a z) (room : z.length + 1 < scanBound)
    (hQ : ∀ b h', Heap.SameBut a s.heap h' → SW P w h' a (addS z k) → Q b { s with heap := h' }) :
    wpAny (model P w) A (setAddHashed a (.str k tk) ((PySem.strKind P w).hash k)) Q E s := by
  obtain ⟨o, es, ep, t, ho, hex, hd, T⟩ := W
  have isk : (PySem.strKind P w).is k (.str k tk) = true := strKind_is P w k tk
  have sc : (Value.str k tk).scannable = true := rfl
  have el : ElemsOf (PySem.strKind P w) es.toList := tx_elems T.ok
  have sz : es.size = z.length := by rw [← T.pm.length_eq, List.length_map, Array.length_toList]
  unfold setAddHashed setAddHashedIn
  refine wpAny_holding (wpAny_bind (wpAny_setState_of ho hd T.fits ?_))
  dsimp only
  rw [byScan_of sc T.few el]
  simp only [↓reduceIte]
  unfold setAddByScan
  refine wpAny_bind (wpAny_bind (wpAny_rule (wpAny_bind (wpAny_setScan_of isk ho hd T.fits el ?_))))
  cases q : List.findIdx? (fun e => (PySem.strKind P w).is k e.2) es.toList with
  | some j =>
    dsimp only
    obtain ⟨hj, pj, _⟩ := List.findIdx?_eq_some_iff_getElem.mp q
    have mem : k ∈ z := T.pm.mem_iff.mp (List.mem_map.mpr ⟨_, List.getElem_mem hj, (tx_is (T.ok _ (List.getElem_mem hj)) k).mp pj⟩)
    have := hQ false s.heap (Heap.SameBut.refl a s.heap) (by rw [addS, if_pos mem]; exact ⟨o, es, ep, t, ho, hex, hd, T⟩)
    exact wpAny_pure (wpAny_pure this)
  | none =>
    dsimp only
    have nmem : k ∉ z := fun m => by
      obtain ⟨e, he, q2⟩ := List.mem_map.mp (T.pm.mem_iff.mpr m)
      have c := List.findIdx?_eq_none_iff.mp q e he
      rw [(tx_is (T.ok e he) k).mpr q2] at c
      cases c
    have pm := layNew_perm t es ((PySem.strKind P w).hash k) (.str k tk)
    have f1 := layNew_fits t es ((PySem.strKind P w).hash k) (.str k tk)
    have r1 := layNew_ris t es ((PySem.strKind P w).hash k) (.str k tk) T.ris
    have l1 := layNew_led t es ((PySem.strKind P w).hash k) (.str k tk)
    generalize layNew t es ((PySem.strKind P w).hash k) (.str k tk) = Z at pm f1 r1 l1 ⊢
    obtain ⟨es1, t1, wasDummy, gave⟩ := Z
    dsimp only at pm f1 r1 l1 ⊢
    rw [Array.toList_push] at pm
    have T1 : ∀ t', t'.place = t1.place → t'.fits es1.size = true → t'.led = t1.led → Tab P w es1 t' (addS z k) := fun t' e1 e2 e3 => by
      refine ⟨fun e he => ?_, ?_, ?_, e2, by rw [e1]; exact r1, T.led.imp id fun q => by rw [e3, l1]; exact q⟩
      · rcases List.mem_append.mp (pm.mem_iff.mp he) with h | h
        · exact T.ok e h
        · rw [List.mem_singleton.mp h]; exact ⟨k, tk, rfl, rfl⟩
      · rw [addS, if_neg nmem]
        have := pm.map tx
        rw [List.map_append] at this
        exact this.trans (T.pm.append_right _)
      · rw [← Array.length_toList, pm.length_eq, List.length_append, Array.length_toList, sz]
        exact room
    have gw : ∀ (b : Bool) (s₁ : Shared) (Q' : Unit → Shared → Prop), Q' () s₁ → wpAny (model P w) A (match b with | true => rule "set.scan.the-table-gave-way" | false => pure ()) Q' E s₁ :=
      fun b s₁ Q' q => by cases b <;> first | exact wpAny_pure q | exact wpAny_rule q
    have fin : ∀ h', Heap.SameBut a s.heap h' → SW P w h' a (addS z k) → Q true { s with heap := h' } := fun h' sb r => hQ true h' sb r
    refine wpAny_bind (gw _ _ _ ?_)
    split
    · refine wpAny_bind ?_
      rw [hashByValue_scannable 8 sc]
      refine wpAny_pure ?_
      refine tail_w (z := addS z k) ?_ ho hex hd ?_ ?_
      · intro b s₁ Q' q; cases b <;> first | exact wpAny_pure q | exact wpAny_rule q
      · first
          | (split
             · exact T1 _ rfl f1 rfl
             · exact T1 _ rfl (SetTable.fits_plain_off f1) rfl)
          | exact T1 _ rfl f1 rfl
      · intro h' sb r; dsimp only; exact wpAny_pure (fin h' sb r)
    · refine wpAny_bind (wpAny_pure ?_)
      simp only [↓reduceIte]
      refine tail_w (z := addS z k) ?_ ho hex hd (T1 _ rfl f1 rfl) ?_
      · intro b s₁ Q' q; cases b <;> first | exact wpAny_pure q | exact wpAny_rule q
      · intro h' sb r; dsimp only; exact wpAny_pure (fin h' sb r)
end
/-- the different texts, in the order of their coming -/
def dedW (xs : List Str) : List Str := xs.foldl addS []
theorem dedW_snoc (xs : List Str) (x : Str) : dedW (xs ++ [x]) = addS (dedW xs) x := by unfold dedW; rw [List.foldl_append]; rfl
theorem addS_len (z : List Str) (x : Str) : (addS z x).length ≤ z.length + 1 := by
  unfold addS; split
  · omega
  · simp
theorem dedW_le (xs : List Str) : (dedW xs).length ≤ xs.length := by
  have : ∀ (xs acc : List Str), (xs.foldl addS acc).length ≤ acc.length + xs.length := by
    intro xs
    induction xs with
    | nil => intro acc; simp
    | cons x xs ih =>
      intro acc
      have := ih (addS acc x)
      have := addS_len acc x
      rw [List.foldl_cons, List.length_cons]
      omega
  have h := this xs []
  simpa [dedW] using h
theorem dedW_mem (xs : List Str) (k : Str) : k ∈ dedW xs ↔ k ∈ xs := by
  have : ∀ (xs acc : List Str), k ∈ xs.foldl addS acc ↔ k ∈ acc ∨ k ∈ xs := by
    intro xs
    induction xs with
    | nil => intro acc; simp
    | cons x xs ih =>
      intro acc
      rw [List.foldl_cons, ih]
      unfold addS
      split
      · rename_i h
        constructor
        · rintro (h1 | h1)
          · exact .inl h1
          · exact .inr (List.mem_cons_of_mem _ h1)
        · rintro (h1 | h1)
          · exact .inl h1
          · rcases List.mem_cons.mp h1 with rfl | h1
            · exact .inl h
            · exact .inr h1
      · simp [or_assoc]
  have h := this xs []
  simpa [dedW] using h
section
variable {prog : Program} {w : World} {A : Around} {R : Result → Shared → Prop} {I : Addr} {fp wr : List Addr} {G : Array GenState → Array GenState → Prop} {n : Nat} {P : Nat → Value → Prop} {St : Nat → Shared → Prop}
theorem loopW (W : WalksS prog w A.in1 I fp wr G n P St) (S : Addr) (hSf : S ∉ fp) (xs : List Str) (hsz : xs.length = n) (hn1 : n + 2 < scanBound)
    (hval : ∀ i v, P i v → ∃ t, v = .str (xs.getD i Str.empty) t) (k : Nat) : ∀ (i : Nat) (s : Shared), n - i = k → i ≤ n → St i s → SW prog w s.heap S (dedW (xs.take i)) →
      (∀ s', Moved (S :: wr) G s s' → SW prog w s'.heap S (dedW (xs.take n)) → R (.ok (.ret .none)) s') →
      codeAny (model prog w) A (.builtin "set.update.loop" ⟨[.ref S, .ref I], []⟩) R s := by
  have out : S ∉ wr := fun h => hSf (W.sub _ h)
  have sub : ∀ b ∈ wr, b ∈ S :: wr := fun b hb => List.mem_cons_of_mem _ hb
  induction k with
  | zero =>
    intro i s hk hi hst hS hR
    obtain rfl : i = n := by omega
    refine codeAny_builtin PyProof.Rows.F.entry_set_update_loop ?_
    rw [Around.under_plainId PyProof.Rows.F.plain_set_update_loop _]
    show wpAny _ A.in1 (pyNext (.ref I) >>= _) _ _ s
    refine wpAny_bind (W.done s _ _ hst fun s' hm => ?_)
    show wpAny _ A.in1 (ret Value.none) _ _ s'
    obtain ⟨o, es, ep, t, ho, rest⟩ := hS
    exact wpAny_pure (hR s' (hm.mono sub) ⟨o, es, ep, t, hm.heap S _ out ho, rest⟩)
  | succ k ih =>
    intro i s hk hi hst hS hR
    have hlt : i < n := by omega
    refine codeAny_builtin PyProof.Rows.F.entry_set_update_loop ?_
    rw [Around.under_plainId PyProof.Rows.F.plain_set_update_loop _]
    show wpAny _ A.in1 (pyNext (.ref I) >>= _) _ _ s
    refine wpAny_bind (W.item i s _ _ hlt hst fun v s' hP hst' hm => ?_)
    obtain ⟨t, rfl⟩ := hval i v hP
    have hS' : SW prog w s'.heap S (dedW (xs.take i)) := by
      obtain ⟨o, es, ep, tb, ho, rest⟩ := hS
      exact ⟨o, es, ep, tb, hm.heap S _ out ho, rest⟩
    have room : (dedW (xs.take i)).length + 1 < scanBound := by
      have a := dedW_le (xs.take i)
      rw [List.length_take] at a
      omega
    show wpAny _ A.in1 (holding [Value.str (xs.getD i Str.empty) t] (setAdd S (.str (xs.getD i Str.empty) t)) >>= _) _ _ s'
    refine wpAny_bind (wpAny_holding ?_)
    unfold setAdd
    refine wpAny_holding (wpAny_bind ((PySem.strKind prog w).pyHash (k := xs.getD i Str.empty) (strKind_is _ _ _ _) ?_))
    refine add_w (s := { s' with toks := s'.toks + 1 }) hS' room fun b h' same hS2 => ?_
    have tk : xs.take (i + 1) = xs.take i ++ [xs.getD i Str.empty] := by
      rw [List.take_succ_eq_append_getElem (by omega), List.getD_eq_getElem?_getD, List.getElem?_eq_getElem (by omega)]; rfl
    have keepB : ∀ b o, b ∉ S :: wr → { s' with toks := s'.toks + 1 }.heap.get? b = some o → h'.get? b = some o := fun b o hb e => by
      rw [same.2 b (fun h : b = S => hb (by rw [h]; exact List.mem_cons_self))]; exact e
    refine wpAny_pure ⟨plainId_quiet PyProof.Rows.F.plain_set_update_loop _, ih (i + 1) _ (by omega) hlt (W.frame _ s' _ _ hst' (Nat.le_succ _) fun b hb o e => ?_) (by rw [tk, dedW_snoc]; exact hS2) fun s'' hm'' hS'' => ?_⟩
    · rw [same.2 b (fun h : b = S => hSf (by rw [← h]; exact hb))]; exact e
    · exact hR s'' (Moved.trans W.gtrans ((hm.mono sub).then_heap (Nat.le_succ _) keepB) hm'') hS''
end
end DL

/-! The data layer: set(list of texts) that is walked; sorted of it. -/
namespace DL
open PySem PySem.Spec PyProof.Rows L2
section
variable {prog : Program} {w : World} {A : Around} {E : Value → Shared → Prop} {s : Shared}
def WLeft (prog : Program) (w : World) (xs : List Str) (s s' : Shared) : Prop := ∃ h' tk, s' = { s with heap := h', toks := tk } ∧ SW prog w h' s.heap.objs.size (dedW xs) ∧ (∀ b o, s.heap.get? b = some o → h'.get? b = some o)
abbrev ledSet (w : World) : Obj := { cls := .type "set", dict := none, data := .set #[] 0 (.fresh 0 0 (!w.params.followText "set-order")) }
theorem sw_new {h : Heap} {a : Addr} (ho : h.get? a = some (ledSet w)) : SW prog w h a [] :=
  ⟨_, #[], 0, _, ho, ⟨rfl, rfl, rfl⟩, rfl, (fun e he => by simp at he), List.Perm.refl _, (by decide), (by rfl), List.Pairwise.nil, by
    show _ ∨ (!w.params.followText "set-order") = true
    cases w.params.followText "set-order"
    · exact .inr rfl
    · exact .inl rfl⟩
set_option maxHeartbeats 3200000 in
theorem call_setW {l : Addr} {items : Array Value} {xs : List Str} {Q : Value → Shared → Prop}
    (hh : A.handled = none) (hl : s.heap.IsList l items) (hi : PyProof.Rows.StrsAre items.toList xs) (hn1 : xs.length + 2 < scanBound)
    (h : ∀ s', WLeft prog w xs s s' → Q (.ref s.heap.objs.size) s') :
    wpAny (model prog w) A (call (.type "set") [.ref l]) Q E s := by
  obtain ⟨c, tl, hmro⟩ := PySem.F.called_set.mro
  have m0 := PySem.F.called_set.made
  have m1 := PySem.F.called_set.sub
  refine wpAny_call (codeAny_of_tree ?_)
  show wpAny _ _ (callAny (.type "set") _) _ _ _
  refine wpAny_pure ⟨Code.quiet_builtin _ (by decide +kernel), codeAny_builtin PySem.F.entry_type_call ?_⟩
  rw [Around.under_plain (weight_type_call_type "set" [.ref l] []) rfl]
  have m2 := PySem.F.called_set.notType
  have m3 := PySem.F.called_set.canCreate
  have m4 := PySem.F.typeCall_set_1 (.ref l)
  repeat (any_goals (first | assumption | wp_step))
  refine codeAny_mono (code_set_led1 (.ref l) (E := E) (Q₁ := fun obj s₁ => obj = .ref s.heap.objs.size ∧ s₁ = { s with heap := s.heap.push (ledSet w) }) ⟨rfl, rfl⟩) fun r s₁ hr => ?_
  cases r with
  | error e => exact hr
  | ok fl =>
    cases fl with
    | ret obj =>
      obtain ⟨rfl, rfl⟩ := hr
      have hS : (s.heap.push (ledSet w)).get? s.heap.objs.size = some (ledSet w) := Heap.get?_push_size _ rfl
      have hT : Shared.TypeIs { s with heap := s.heap.push (ledSet w) } (.ref s.heap.objs.size) "set" := ⟨_, hS, rfl⟩
      have m5 := PySem.F.called_set.init.lookup
      have m6 := PySem.F.called_set.init.bind (.ref s.heap.objs.size)
      repeat (any_goals (first | assumption | wp_step))
      refine codeAny_mono (codeAny_call_builtin (R := wants (fun r s₂ => r = .none ∧ WLeft prog w xs s s₂) E) PySem.F.called_set.init.plain PySem.F.entry_set_init (check_set_init_1 hT ?_)) fun r₂ s₂ hr₂ => ?_
      · obtain ⟨ol, hol, hcl, nl, hdl⟩ := hl
        obtain ⟨ocls, odict, odata, oslots⟩ := ol
        simp only at hcl hdl
        subst hcl; subst hdl
        have hl1 : (s.heap.push (ledSet w)).IsList l items := ⟨_, Heap.get?_push_of_some _ hol, rfl, nl, rfl⟩
        have m9 := (Heap.get?_push_of_some (ledSet w) hol : (s.heap.push (ledSet w)).get? l = some { cls := .type "list", dict := odict, data := .seq items nl, slots := oslots })
        have m7 := PySem.F.sub_list_set
        have m8 := PySem.F.sub_list_frozenset
        have ma : (Value.type "list" == Value.type "dict") = false := by decide
        unfold Builtin.«set.__init__» noKeywords Builtin.Frozenset.updateFrom
        generalize q : pyIter = PI
        wp_walk
        subst q
        refine wpAny_pyIter_list hl1 (wpAny_bind (wpAny_runValue ?_))
        have big : (s.heap.push (ledSet w)).objs.size = s.heap.objs.size + 1 := Heap.size_push _ _
        have hlS : l < s.heap.objs.size := Heap.lt_size hol
        have hsz : xs.length = items.size := by rw [← StrsAre.len_eq hi, Array.length_toList]
        have all : xs.take items.size = xs := by rw [← hsz, List.take_length]
        refine loopW (xs := xs) ((Walks.list (show A.in1.in1.in1.handled = none by simp [hh]) _ l (by rw [big]; exact Nat.ne_of_lt (Nat.lt_succ_of_lt hlS)) items).toS) s.heap.objs.size
          (by rw [big]; simp only [List.mem_cons, List.not_mem_nil, or_false, not_or]; exact ⟨Nat.ne_of_lt (Nat.lt_succ_self _), Nat.ne_of_gt hlS⟩) hsz (by rw [← hsz]; exact hn1)
          (fun i v hv => SS.strs_at hi i v (by rw [Array.getElem?_toList]; exact hv)) (items.size - 0) 0 _ (by omega) (Nat.zero_le _)
          ⟨⟨_, Heap.get?_push_size _ rfl, rfl, rfl⟩, (hl1.push _)⟩ ?c0 ?c1
        case c0 => exact sw_new (Heap.get?_push_of_some _ hS)
        case c1 =>
          intro s' hm hS'
          obtain ⟨h', g', d', tk', os'⟩ := s'
          obtain rfl : g' = s.gens := hm.gens
          obtain rfl : d' = s.drawn := hm.drawn
          obtain rfl : os' = s.os := hm.os
          show wpAny _ _ _ _ _ _
          refine wpAny_pure ?_
          show wpAny _ _ (ret Value.none) _ _ _
          rw [all] at hS'
          refine wpAny_pure ⟨rfl, h', tk', rfl, hS', fun b o e => ?_⟩
          have hb := Heap.lt_size e
          exact hm.heap b o (by rw [big]; simp only [List.mem_cons, List.not_mem_nil, or_false, not_or]; exact ⟨Nat.ne_of_lt hb, Nat.ne_of_lt (Nat.lt_succ_of_lt hb)⟩) (Heap.get?_push_of_some _ (Heap.get?_push_of_some _ e))
      · cases r₂ with
        | error e => exact hr₂
        | ok fl₂ =>
          cases fl₂ with
          | ret r =>
            obtain ⟨rfl, left⟩ := hr₂
            repeat (any_goals (first | assumption | wp_step))
            exact h _ left
          | _ => exact hr₂.elim
    | _ => exact hr.elim
theorem txs_are : ∀ {vs : List Value}, (∀ v ∈ vs, ∃ x t, v = Value.str x t) → StrsAre vs (vs.map fun v => tx (0, v))
  | [], _ => .nil
  | v :: vs, h => by
    obtain ⟨x, t, rfl⟩ := h v List.mem_cons_self
    exact .cons x t (txs_are fun u hu => h u (List.mem_cons_of_mem _ hu))
/-- sorted of a set of texts -/
theorem sortedW {a : Addr} {z : List Str} {Q : Value → Shared → Prop} (R : SW prog w s.heap a z) (hh : A.handled = none) (h64 : z.length < 64)
    (hQ : ∀ s' p (out : Array Value) (c : Nat) (ys : List Str), (∀ b o, s.heap.get? b = some o → s'.heap.get? b = some o) → s'.gens = s.gens → s'.os = s.os → s.heap.objs.size ≤ p →
      s'.heap.get? p = some (seqObj "list" out c) → StrsAre out.toList ys → ys.Perm z → sortedS ys = true → Q (.ref p) s') :
    wpAny (model prog w) A (call (.builtin "sorted") [.ref a]) Q E s := by
  obtain ⟨o, es, ep, t, ho, hex, hd, T⟩ := R
  refine Calls.call_function_entry kind_sorted plain_sorted entry_sorted (args_sorted1 _) ?_
  unfold Builtin.«sorted»
  refine wpAny_bind (m := checkCount "sorted" 1 1 _) (wpAny_pure ?_)
  refine wpAny_bind (collect_set (A := A.in1) hh ⟨o, ho, hex.1, hd⟩ T.fits T.few T.ris T.led fun s1 vs k1 hz g1 o1 pm => ?_)
  have hS : StrsAre vs (vs.map fun v => tx (0, v)) := txs_are fun v hv => by
    obtain ⟨e, he, q⟩ := List.mem_map.mp (pm.mem_iff.mp hv)
    obtain ⟨x, tk, h1, _⟩ := T.ok e he
    exact ⟨x, tk, by rw [← q]; exact h1⟩
  have pk : (vs.map fun v => tx (0, v)).Perm z := by
    have q := pm.map fun v => tx (0, v)
    rw [List.map_map] at q
    exact q.trans T.pm
  have len : vs.length = z.length := by rw [← pk.length_eq, List.length_map]
  refine wpAny_bind (wpAny_newList ?_ (by rw [len, sizeLine_eq]; omega))
  have hoL : (s1.heap.push (seqObj "list" vs.toArray 0)).get? s1.heap.objs.size = some (seqObj "list" vs.toArray 0) := Heap.get?_push_size _ rfl
  refine wpAny_bind (wpAny_holding (wpAny_call_entry slot_list_sort ⟨_, hoL, rfl⟩ entry_list_sort (list_sort_treeK strKind_oneLt hoL hS.keysOf (fun v₁ v₂ rest e => keyKind_strs (by rw [← e]; exact hS)) (by rw [len]; exact h64) fun st' hp hs => ⟨_, rfl, ?_⟩) (args_list_sort _)))
  obtain ⟨ys, a1, a2, a3⟩ := sorted_out_str hS hp hs
  obtain ⟨c, hc⟩ := sortedHeap_at (vs := vs) (out := (arrOf st').map (·.2)) hoL
  refine wpAny_pure ⟨_, rfl, hQ _ s1.heap.objs.size _ c ys (fun b u e => ?_) g1 o1 hz hc a1 (a2.trans pk) a3⟩
  have q := k1 b u e
  have hlt := Heap.lt_size q
  show (sortedHeap (s1.heap.push (seqObj "list" vs.toArray 0)) s1.heap.objs.size vs _).get? b = some u
  rw [sortedHeap_old (Nat.ne_of_lt hlt) (by rw [size_push']; exact Nat.lt_succ_of_lt hlt)]
  exact Heap.get?_push_of_some _ q
end
end DL

/-! The data layer: sorted of a tuple of ints, sorted(set(..)). -/
namespace DL
open PySem PySem.Spec PyProof.Rows L2
/-! ### the one sorted list -/
theorem perm_eq {α : Type} {le : α → α → Prop} (anti : ∀ a b, le a b → le b a → a = b) : ∀ {l m : List α}, l.Perm m → l.Pairwise le → m.Pairwise le → l = m
  | [], m, p, _, _ => (List.Perm.eq_nil p.symm).symm
  | x :: l, [], p, _, _ => absurd p.length_eq (by simp)
  | x :: l, y :: m, p, h1, h2 => by
    have h1' := List.pairwise_cons.mp h1
    have h2' := List.pairwise_cons.mp h2
    have e : x = y := by
      rcases List.mem_cons.mp (p.mem_iff.mp List.mem_cons_self) with e | hx
      · exact e
      · rcases List.mem_cons.mp (p.mem_iff.mpr List.mem_cons_self) with e | hy
        · exact e.symm
        · exact anti x y (h1'.1 y hy) (h2'.1 x hx)
    subst e
    rw [perm_eq anti p.cons_inv h1'.2 h2'.2]
def sle (a b : Str) : Bool := !ltCps b.cps.toList a.cps.toList
theorem sle_iff (a b : Str) : sle a b = true ↔ a.cps.toList ≤ b.cps.toList := by
  unfold sle
  rw [PyProof.Rows.ltCps_eq]
  simp
theorem sle_anti (a b : Str) (h1 : sle a b = true) (h2 : sle b a = true) : a = b := by
  have e := List.le_antisymm ((sle_iff a b).mp h1) ((sle_iff b a).mp h2)
  cases a; cases b
  simp only [Str.mk.injEq]
  exact Array.toList_inj.mp e
theorem sle_trans (a b c : Str) (h1 : sle a b = true) (h2 : sle b c = true) : sle a c = true := (sle_iff a c).mpr (List.le_trans ((sle_iff a b).mp h1) ((sle_iff b c).mp h2))
theorem sle_total (a b : Str) : (sle a b || sle b a) = true := by
  rw [Bool.or_eq_true, sle_iff, sle_iff]
  exact List.le_total _ _
def srtS (z : List Str) : List Str := z.mergeSort sle
theorem srtS_perm (z : List Str) : (srtS z).Perm z := List.mergeSort_perm _ _
theorem srtS_pair (z : List Str) : (srtS z).Pairwise (fun a b => sle a b = true) := List.pairwise_mergeSort sle_trans sle_total z
theorem rising_pair : ∀ (r : List Str) (p : Str), risingS p r = true → (p :: r).Pairwise (fun a b => sle a b = true)
  | [], p, _ => by simp
  | x :: r, p, h => by
    simp only [risingS, Bool.and_eq_true] at h
    have ih := rising_pair r x h.2
    refine List.pairwise_cons.mpr ⟨fun y hy => ?_, ih⟩
    rcases List.mem_cons.mp hy with rfl | hy
    · exact h.1
    · exact sle_trans _ _ _ h.1 ((List.pairwise_cons.mp ih).1 y hy)
theorem sorted_pair (l : List Str) (h : sortedS l = true) : l.Pairwise (fun a b => sle a b = true) := by
  cases l with
  | nil => simp
  | cons x r => exact rising_pair r x h
theorem srtS_of {ys z : List Str} (p : ys.Perm z) (h : sortedS ys = true) : ys = srtS z := perm_eq sle_anti (p.trans (srtS_perm z).symm) (sorted_pair ys h) (srtS_pair z)
/-! ### sorted of a tuple of ints -/
section
variable {prog : Program} {w : World} {A : Around} {E : Value → Shared → Prop} {s : Shared}
theorem collectT {l : Addr} {vs : List Value} {Q : List Value → Shared → Prop} (hl : s.heap.IsTuple l vs.toArray)
    (h : ∀ h', (∀ b o, s.heap.get? b = some o → h'.get? b = some o) → s.heap.objs.size ≤ h'.objs.size → Q vs { s with heap := h' }) (hsz : vs.length ≤ sizeLine) : wpAny (model prog w) A (collect (.ref l)) Q E s := by
  obtain ⟨o, ho, hc, n, hd⟩ := id hl
  unfold collect
  refine wpAny_bind (wpAny_runValue (codeAny_builtin entry_proto_collect' ?_))
  show wpAny _ _ (do again (.builtin "list.__iadd__" ⟨[← newList [], .ref l], []⟩)) _ _ s
  refine wpAny_bind (wpAny_newList (wpAny_pure ⟨Code.quiet_builtin _ (by decide +kernel), codeAny_builtin entry_list_iadd' ?_⟩))
  show wpAny _ _ (Builtin.List.listExtendWith (.ref s.heap.objs.size) (.ref l) (.ref s.heap.objs.size)) _ _ { s with heap := s.heap.push (seqObj "list" #[] 0) }
  unfold Builtin.List.listExtendWith
  have ho' : (s.heap.push (seqObj "list" #[] 0)).get? l = some o := Heap.get?_push_of_some _ ho
  refine wpAny_bind (wpAny_typeOf (T := "tuple") ⟨o, ho', hc⟩ ?_)
  rw [if_pos (by simp)]
  refine wpAny_bind (listItems_at ho' hd (wpAny_bind (listItems_at (xs := #[]) (n := 0) (Heap.get?_push_size _ rfl) rfl ?_)))
  rw [if_neg (by simp)]
  refine wpAny_bind (listUpdate_at (xs := #[]) (n := 0) (Heap.get?_push_size _ rfl) rfl ?_ (Nat.zero_le _) (by show (#[] ++ vs.toArray).size ≤ sizeLine + 1; simp only [Array.size_append, List.size_toArray, List.length_nil]; omega))
  refine wpAny_pure ?_
  show wpAny (model prog w) A (do
      let o ← load s.heap.objs.size
      match o.data with
      | .seq xs _ => pure xs.toList
      | _ => unsupported "internal:collect") Q E { s with heap := (s.heap.push (seqObj "list" #[] 0)).update s.heap.objs.size (Obj.mapSeq (· ++ vs.toArray)) }
  refine wpAny_bind (wpAny_load (get?_update_seq (Heap.get?_push_size _ rfl) _) ?_)
  show wpAny _ _ (pure ((#[] : Array Value) ++ vs.toArray).toList) Q E _
  rw [show ((#[] : Array Value) ++ vs.toArray).toList = vs by simp]
  refine wpAny_pure (h _ (fun b u e => ?_) ?_)
  · rw [Heap.get?_update_ne _ _ _ _ (Nat.ne_of_lt (Heap.lt_size e))]
    exact Heap.get?_push_of_some _ e
  · rw [Heap.size_update, size_push']
    exact Nat.le_succ _
theorem sortedTup {l : Addr} {vs : List Value} {ns : List Int} {Q : Value → Shared → Prop} (hl : s.heap.IsTuple l vs.toArray) (hI : IntsAre vs ns) (h64 : vs.length < 64)
    (hQ : ∀ h' p (out : Array Value) (c : Nat) (ys : List Int), (∀ b o, s.heap.get? b = some o → h'.get? b = some o) → s.heap.objs.size ≤ p →
      h'.get? p = some (seqObj "list" out c) → IntsAre out.toList ys → ys.Perm ns → ys.Pairwise (· ≤ ·) → Q (.ref p) { s with heap := h' }) :
    wpAny (model prog w) A (call (.builtin "sorted") [.ref l]) Q E s := by
  refine Calls.call_function_entry kind_sorted plain_sorted entry_sorted (args_sorted1 _) ?_
  unfold Builtin.«sorted»
  refine wpAny_bind (m := checkCount "sorted" 1 1 _) (wpAny_pure ?_)
  refine wpAny_bind (collectT (A := A.in1) hl (fun h1 k1 hz => ?_) (by rw [sizeLine_eq]; omega))
  refine wpAny_bind (wpAny_newList ?_ (by rw [sizeLine_eq]; omega))
  have hoL : (h1.push (seqObj "list" vs.toArray 0)).get? h1.objs.size = some (seqObj "list" vs.toArray 0) := Heap.get?_push_size _ rfl
  refine wpAny_bind (wpAny_holding (wpAny_call_entry slot_list_sort ⟨_, hoL, rfl⟩ entry_list_sort (list_sort_tree hoL hI h64 fun out ns' a1 a2 a3 => ⟨_, rfl, ?_⟩) (args_list_sort _)))
  obtain ⟨c, hc⟩ := sortedHeap_at (vs := vs) (out := out) hoL
  refine wpAny_pure ⟨_, rfl, hQ _ h1.objs.size out c ns' (fun b u e => ?_) hz hc a1 a2 a3⟩
  have q := k1 b u e
  have hlt := Heap.lt_size q
  show (sortedHeap (h1.push (seqObj "list" vs.toArray 0)) h1.objs.size vs out).get? b = some u
  rw [sortedHeap_old (Nat.ne_of_lt hlt) (by rw [size_push']; exact Nat.lt_succ_of_lt hlt)]
  exact Heap.get?_push_of_some _ q
end
end DL

/-! The data layer: sorted of tuples and of sets, as expressions. -/
namespace DL
open PySem L2
section
variable {X : Cx}
def rSortT (K : PySem.W.Frag) : List V → Hp → VK → Prop := fun vs H Q => ∃ (a : Addr) (ns : List Int), vs = [V.ref a] ∧ SqT K H a (ns.map V.int) ∧ ns.length < 64 ∧ ∀ (p : Addr), H p = none → Q (.ref p) (upd H p (.lst ((sortI ns).map V.int)))
theorem cr_sortT : CallR X (.builtin "sorted") (rSortT X.K) := by
  intro pins s σ H vs us Q I r h
  obtain ⟨a, ns, rfl, hs, h64, q⟩ := h
  obtain ⟨its, rv, hl, hz⟩ := I.tuple hs
  rw [Vals.ref1 r]
  have len : its.length = ns.length := by rw [← rv.length, List.length_map]
  refine sortedTup hl rv.ints (by rw [len]; exact h64) fun h' p out c ys keep hp hg hi h2 h3 => ?_
  have e : ys = sortI ns := pair_perm_eq (h2.trans (sortI_perm ns).symm) h3 (sortI_pair ns)
  subst e
  have hlen : ((sortI ns).map V.int).length ≤ sizeLine := by
    rw [List.length_map, h2.length_eq]
    exact Nat.le_trans (Nat.le_of_lt h64) (by decide)
  exact ⟨.ref p, upd H p (.lst ((sortI ns).map V.int)), I.laid (t' := s.toks) keep hp ⟨hlen, out.toList, c, vals_of_ints hi, hg⟩, rfl, q p (I.hok.fresh hp)⟩
def rSortA (K : PySem.W.Frag) : List V → Hp → VK → Prop := fun vs H Q => rSortedI K vs H Q ∨ rSortT K vs H Q
theorem cr_sortA : CallR X (.builtin "sorted") (rSortA X.K) := by
  intro pins s σ H vs us Q I r h
  rcases h with h | h
  · exact cr_sortedI pins s σ H vs us Q I r h
  · exact cr_sortT pins s σ H vs us Q I r h
def sortA1 : List D → Option (List D)
  | [.lst ds] => match intsD ds with
    | some ns => some ((sortI ns).map .int)
    | none => none
  | [.tup ds] => match intsD ds with
    | some ns => if ns.length < 64 then some ((sortI ns).map .int) else none
    | none => none
  | _ => none
theorem cn_sortA {K : PySem.W.Frag} : CallN (rSortA K) sortA1 := by
  intro rt F H ds d vs Q s h e k
  match ds, e with
  | [.lst xs], e => exact .inl (cn_sortedI rt F H [.lst xs] d vs Q s h e k)
  | [.tup xs], e =>
    simp only [sortA1] at e
    cases q : intsD xs with
    | none => rw [q] at e; cases e
    | some ns =>
      rw [q] at e
      simp only at e
      split at e
      · rename_i h64
        simp only [Option.some.injEq] at e
        subst e
        have ex := intsD_inv q
        subst ex
        obtain ⟨v, rfl, hv⟩ := hbl1 h
        obtain ⟨a, us, rfl, f, l⟩ := hv.tup
        have eu := holds_ints l
        subst eu
        exact .inr ⟨a, ns, rfl, (f.mono s).sq, h64, fun p hn => k p _ hn (holds_mapInt _)⟩
      · cases e
/-! ### sorted(set(xs)) -/
def tSortSetS (K : PySem.W.Frag) (ta : TE) : TE := fun σ H Q => ta σ H fun x H1 => ∃ (l : Addr) (xs : List Str), x = V.ref l ∧ SqL K H1 l (xs.map V.str) ∧ xs.length < 64 ∧ ∀ p, H1 p = none → Q (.ref p) (upd H1 p (.lst ((srtS (dedW xs)).map V.str)))
def dedI (ns : List Int) : List Int := ns.foldl (fun acc x => if x ∈ acc then acc else acc ++ [x]) []
def tSortSetT (K : PySem.W.Frag) (ta : TE) : TE := fun σ H Q => ta σ H fun x H1 => ∃ (l : Addr) (ns : List Int), x = V.ref l ∧ SqT K H1 l (ns.map V.int) ∧ ns.length < 64 ∧ ∀ p, H1 p = none → Q (.ref p) (upd H1 p (.lst ((sortI (dedI ns)).map V.int)))
theorem dedI_ok (ns : List Int) : (dedI ns).Nodup ∧ ∀ k, k ∈ dedI ns ↔ k ∈ ns := by
  have : ∀ (ns acc : List Int), acc.Nodup → (ns.foldl (fun acc x => if x ∈ acc then acc else acc ++ [x]) acc).Nodup ∧ ∀ k, k ∈ ns.foldl (fun acc x => if x ∈ acc then acc else acc ++ [x]) acc ↔ k ∈ acc ∨ k ∈ ns := by
    intro ns
    induction ns with
    | nil => intro acc h; exact ⟨h, by simp⟩
    | cons x ns ih =>
      intro acc h
      rw [List.foldl_cons]
      by_cases m : x ∈ acc
      · rw [if_pos m]
        obtain ⟨a, b⟩ := ih acc h
        refine ⟨a, fun k => ?_⟩
        rw [b]
        constructor
        · rintro (z | z)
          · exact .inl z
          · exact .inr (List.mem_cons_of_mem _ z)
        · rintro (z | z)
          · exact .inl z
          · rcases List.mem_cons.mp z with rfl | z
            · exact .inl m
            · exact .inr z
      · rw [if_neg m]
        obtain ⟨a, b⟩ := ih (acc ++ [x]) (by
          rw [List.nodup_append]
          refine ⟨h, by simp, fun u hu v hv => ?_⟩
          simp at hv; subst hv
          rintro rfl
          exact m hu)
        refine ⟨a, fun k => ?_⟩
        rw [b]
        simp [or_assoc]
  have h := this ns [] (by simp)
  exact ⟨h.1, fun k => by have := h.2 k; simpa [dedI] using this⟩
variable {a : Expr} {ta : TE} {p p2 q pos : Pos}
theorem pe_sortSetS (hg : Gl X "sorted") (hm : X.mg "sorted" = none) (hg2 : Gl X "set") (hm2 : X.mg "set" = none) (ha : PE X a ta) (hc : X.calm = true)
    (na : starEach [a] X.env = (false, eval a X.env) :: starEach [] X.env := by rfl) : PE X (.Call (.Name "sorted" p) [.Call (.Name "set" p2) [a] [] q] [] pos) (tSortSetS X.K ta) := by
  refine ⟨fun pins s σ H Q I h => ?_⟩
  refine PyProof.Rows.Call_ (ld_blt I hg hm PyProof.Rows.boot_sorted (PyProof.Rows.callWith_builtin1 (PyProof.Rows.args_cons ?_ rfl) rfl rfl))
  refine PyProof.Rows.Call_ (ld_blt I hg2 hm2 PyProof.Rows.boot_set (PyProof.Rows.callWith_type1 (PyProof.Rows.args_cons (thn (ha.run pins s σ H _ I h) fun v s1 ⟨x, H1, I1, r1, q1⟩ => PyProof.Rows.args_nil ?_) na) na rfl))
  obtain ⟨l, xs, rfl, hq, h64, q1⟩ := q1
  cases r1
  obtain ⟨its, r, pl, hz⟩ := I1.list hq
  refine call_setW (I1.ok.hd hc) pl.isList (xs := xs) (by simpa using r.strs) (by unfold scanBound; omega) fun s2 ⟨h', tk, e2, hW, hk⟩ => PyProof.Rows.args_nil ?_
  subst e2
  have I2 : Inv X pins σ H1 { s1 with heap := h', toks := tk } := I1.kept fun b o e => hk b o e
  refine sortedW hW (I2.ok.hd hc) (Nat.lt_of_le_of_lt (dedW_le xs) h64) fun s' p out c ys k g o hp hg hi pm so => ?_
  have e : ys = srtS (dedW xs) := srtS_of pm so
  subst e
  have hlen : ((srtS (dedW xs)).map V.str).length ≤ sizeLine := by
    rw [List.length_map, (srtS_perm _).length_eq]
    exact Nat.le_trans (dedW_le xs) (Nat.le_trans (Nat.le_of_lt h64) (by decide))
  have hn : H1 p = none := I2.hok.fresh hp
  have J : Inv X pins σ (upd H1 p (.lst ((srtS (dedW xs)).map V.str))) { { s1 with heap := h', toks := tk } with heap := s'.heap, gens := s'.gens, drawn := s'.drawn, toks := s'.toks } :=
    I2.call (ch := []) (Un.laid k hp hn) (I2.hok.laid k hp ⟨hlen, out.toList, c, vals_of_strs hi, hg⟩) (by rw [g]; exact I2.bare) (fun _ z => nomatch z)
  have e : s' = { { s1 with heap := h', toks := tk } with heap := s'.heap, gens := s'.gens, drawn := s'.drawn, toks := s'.toks } := by
    cases s'
    cases s1
    cases o
    rfl
  rw [e]
  exact ⟨.ref p, _, J, rfl, q1 p hn⟩
theorem pe_sortSetT (hg : Gl X "sorted") (hm : X.mg "sorted" = none) (hg2 : Gl X "set") (hm2 : X.mg "set" = none) (ha : PE X a ta) (hc : X.calm = true)
    (na : starEach [a] X.env = (false, eval a X.env) :: starEach [] X.env := by rfl) : PE X (.Call (.Name "sorted" p) [.Call (.Name "set" p2) [a] [] q] [] pos) (tSortSetT X.K ta) := by
  refine ⟨fun pins s σ H Q I h => ?_⟩
  refine PyProof.Rows.Call_ (ld_blt I hg hm PyProof.Rows.boot_sorted (PyProof.Rows.callWith_builtin1 (PyProof.Rows.args_cons ?_ rfl) rfl rfl))
  refine PyProof.Rows.Call_ (ld_blt I hg2 hm2 PyProof.Rows.boot_set (PyProof.Rows.callWith_type1 (PyProof.Rows.args_cons (thn (ha.run pins s σ H _ I h) fun v s1 ⟨x, H1, I1, r1, q1⟩ => PyProof.Rows.args_nil ?_) na) na rfl))
  obtain ⟨l, ns, rfl, hq, h64, q1⟩ := q1
  cases r1
  obtain ⟨its, r, pl, hz⟩ := I1.tuple hq
  refine call_set_tupI ns (I1.ok.hd hc) pl (by simpa using r.ints) (by unfold scanBound; omega) fun h' tk c0 hR hc0 hk => PyProof.Rows.args_nil ?_
  have I2 : Inv X pins σ H1 { s1 with heap := h', toks := tk } := I1.kept fun b o e => hk b o e
  refine sorted_set hR (I2.ok.hd hc) (Nat.lt_of_le_of_lt hc0 h64) fun s' p out c ys k g o hp hg hi hs hm hl => ?_
  obtain ⟨nd, me⟩ := dedI_ok ns
  have e : ys = sortI (dedI ns) := by
    have p1 : ys.Perm (sortI (dedI ns)) := (List.perm_ext_iff_of_nodup (hs.imp fun h => by omega) ((sortI_perm _).nodup_iff.mpr nd)).mpr fun k => by
      rw [hm k, (sortI_perm _).mem_iff, me]; simp
    exact pair_perm_eq p1 (hs.imp fun h => by omega) (sortI_pair _)
  subst e
  have hlen : ((sortI (dedI ns)).map V.int).length ≤ sizeLine := by
    rw [List.length_map, hl]
    exact Nat.le_trans hc0 (Nat.le_trans (Nat.le_of_lt h64) (by decide))
  have hn : H1 p = none := I2.hok.fresh hp
  have J : Inv X pins σ (upd H1 p (.lst ((sortI (dedI ns)).map V.int))) { { s1 with heap := h', toks := tk } with heap := s'.heap, gens := s'.gens, drawn := s'.drawn, toks := s'.toks } :=
    I2.call (ch := []) (Un.laid k hp hn) (I2.hok.laid k hp ⟨hlen, out.toList, c, vals_of_ints hi, hg⟩) (by rw [g]; exact I2.bare) (fun _ z => nomatch z)
  have e : s' = { { s1 with heap := h', toks := tk } with heap := s'.heap, gens := s'.gens, drawn := s'.drawn, toks := s'.toks } := by
    cases s'
    cases s1
    cases o
    rfl
  rw [e]
  exact ⟨.ref p, _, J, rfl, q1 p hn⟩
end
section
variable {Z : TSys} {X : Cx} {a : Expr} {A : Arg Z} {p p2 q pos : Pos}
def msortS (a : Arg Z) : M Z := fun e t => match ev1 a e t with
  | some (.lst ds, e1, t1) => match strsD ds with
    | some xs => if xs.length < 64 then some (.lst ((srtS (dedW xs)).map .str), e1, t1) else none
    | none => none
  | _ => none
def msortT (a : Arg Z) : M Z := fun e t => match ev1 a e t with
  | some (.tup ds, e1, t1) => match intsD ds with
    | some ns => if ns.length < 64 then some (.lst ((sortI (dedI ns)).map .int), e1, t1) else none
    | none => none
  | _ => none
theorem holds_mapStr {rt : V} {F : Hp} : ∀ (ns : List Str), HoldsL rt F (ns.map D.str) (ns.map V.str)
  | [] => .nil
  | n :: ns => .cons (by simp only [Holds]) (holds_mapStr ns)
theorem io_sortS (hg : Gl X "sorted") (hm : X.mg "sorted" = none) (hg2 : Gl X "set") (hm2 : X.mg "set" = none) (ha : IsA Z X a A) (hc : X.calm = true)
    (na : starEach [a] X.env = (false, eval a X.env) :: starEach [] X.env := by rfl) : IsO Z 1 X (.Call (.Name "sorted" p) [.Call (.Name "set" p2) [a] [] q] [] pos) (msortS A) :=
  ⟨PE.imp (pe_sortSetS hg hm hg2 hm2 ha.pe hc na) fun σ H Q ⟨ad, env, T, F, A0, d, env', T', R, e, k⟩ => by
  unfold msortS at e
  cases q : ev1 A env T with
  | none => rw [q] at e; cases e
  | some z =>
    obtain ⟨d0, e1, t1⟩ := z
    rw [q] at e
    cases d0 with
    | lst ds =>
      simp only at e
      cases q2 : strsD ds with
      | none => rw [q2] at e; cases e
      | some ns =>
        rw [q2] at e
        simp only at e
        split at e
        · rename_i hz
          simp only [Option.some.injEq, Prod.mk.injEq] at e
          obtain ⟨rfl, rfl, rfl⟩ := e
          refine ev1_run q R fun v H' F' A' R' S' hv => ?_
          have ex := strsD_inv q2
          subst ex
          obtain ⟨a, us, rfl, f, l⟩ := hv.lst
          have eu := holds_strs l
          subst eu
          refine ⟨a, ns, rfl, SqL.of f, hz, fun p hp => ?_⟩
          obtain ⟨R2, S2⟩ := R'.own hp (.lst ((srtS (dedW ns)).map V.str))
          obtain ⟨n1, n2⟩ := R'.notin hp
          refine k _ _ F' A' [p] R2 (R'.st S' S2 R2) ⟨p, [], rfl, R'.same.free hp, rfl, _, upd_same, OwnL.ofHolds (holds_mapStr _)⟩ (by simp) fun a ha => ?_
          have ea : a = p := by simpa using ha
          subst ea
          exact ⟨n1, S'.none hp, n2⟩
        · cases e
    | _ => cases e⟩
theorem io_sortT (hg : Gl X "sorted") (hm : X.mg "sorted" = none) (hg2 : Gl X "set") (hm2 : X.mg "set" = none) (ha : IsA Z X a A) (hc : X.calm = true)
    (na : starEach [a] X.env = (false, eval a X.env) :: starEach [] X.env := by rfl) : IsO Z 1 X (.Call (.Name "sorted" p) [.Call (.Name "set" p2) [a] [] q] [] pos) (msortT A) :=
  ⟨PE.imp (pe_sortSetT hg hm hg2 hm2 ha.pe hc na) fun σ H Q ⟨ad, env, T, F, A0, d, env', T', R, e, k⟩ => by
  unfold msortT at e
  cases q : ev1 A env T with
  | none => rw [q] at e; cases e
  | some z =>
    obtain ⟨d0, e1, t1⟩ := z
    rw [q] at e
    cases d0 with
    | tup ds =>
      simp only at e
      cases q2 : intsD ds with
      | none => rw [q2] at e; cases e
      | some ns =>
        rw [q2] at e
        simp only at e
        split at e
        · rename_i hz
          simp only [Option.some.injEq, Prod.mk.injEq] at e
          obtain ⟨rfl, rfl, rfl⟩ := e
          refine ev1_run q R fun v H' F' A' R' S' hv => ?_
          have ex := intsD_inv q2
          subst ex
          simp only [HB, Holds] at hv
          obtain ⟨a, us, rfl, f, l⟩ := hv
          have eu := holds_ints l
          subst eu
          refine ⟨a, ns, rfl, (f.mono R'.same).sq, hz, fun p hp => ?_⟩
          obtain ⟨R2, S2⟩ := R'.own hp (.lst ((sortI (dedI ns)).map V.int))
          obtain ⟨n1, n2⟩ := R'.notin hp
          refine k _ _ F' A' [p] R2 (R'.st S' S2 R2) ⟨p, [], rfl, R'.same.free hp, rfl, _, upd_same, OwnL.ofHolds (holds_mapInt _)⟩ (by simp) fun a ha => ?_
          have ea : a = p := by simpa using ha
          subst ea
          exact ⟨n1, S'.none hp, n2⟩
        · cases e
    | _ => cases e⟩
end
end DL

/-! The data layer: list(range(n)). -/
namespace DL
open PySem L2
section
variable {Z : TSys} {X : Cx} {a : Expr} {p p2 q pos : Pos}
def mlistR (m : M Z) : M Z := fun e t => match m e t with
  | some (.int j, e1, t1) => if 0 ≤ j ∧ j ≤ 1000 then some (.lst (rangeD 0 j.toNat), e1, t1) else none
  | _ => none
theorem rgOk_small {j : Int} (h : 0 ≤ j ∧ j ≤ 1000) : RgOk 0 j := by
  exact RgOk.of_le (Int.le_refl _) (by omega) (by omega) h.1
theorem rgV_eq {j : Int} (h : 0 ≤ j ∧ j ≤ 1000) : rgV 0 j = (List.range j.toNat).map fun (k : Nat) => V.int (0 + (k : Int)) := by
  unfold rgV
  rw [Int.sub_zero]
theorem holds_range {rt : V} {F : Hp} (n : Nat) : HoldsL rt F (rangeD 0 n) ((List.range n).map fun (k : Nat) => V.int (0 + (k : Int))) := by
  have := holds_mapInt (rt := rt) (F := F) ((List.range n).map fun (k : Nat) => 0 + (k : Int))
  rw [List.map_map, List.map_map] at this
  exact this
theorem io_listR {m : M Z} (hg : Gl X "list") (hm : X.mg "list" = none) (hg2 : Gl X "range") (hm2 : X.mg "range" = none) (ha : IsE Z X a m) (hc : X.calm = true)
    (n1 : starEach [a] X.env = (false, eval a X.env) :: starEach [] X.env := by rfl) (n2 : starEach [.Call (.Name "range" p2) [a] [] q] X.env = (false, eval (.Call (.Name "range" p2) [a] [] q) X.env) :: starEach [] X.env := by rfl) :
    IsO Z 1 X (.Call (.Name "list" p) [.Call (.Name "range" p2) [a] [] q] [] pos) (mlistR m) :=
  ⟨PE.imp (pe_listRg hc hg hm (prg_1 hg2 hm2 ha.pe n1) n2) fun σ H Q ⟨ad, env, T, F, A0, d, env', T', R, e, k⟩ => by
  unfold mlistR at e
  cases q : m env T with
  | none => rw [q] at e; cases e
  | some z =>
    obtain ⟨d0, e1, t1⟩ := z
    rw [q] at e
    cases d0 with
    | int j =>
      simp only at e
      split at e
      · rename_i hz
        simp only [Option.some.injEq, Prod.mk.injEq] at e
        obtain ⟨rfl, rfl, rfl⟩ := e
        refine ⟨ad, env, T, F, A0, .int j, e1, t1, R, q, fun v H' F' A' R' S' hv => ?_⟩
        simp only [Holds] at hv
        subst hv
        refine ⟨j, rfl, rgOk_small hz, fun p hp => ?_⟩
        rw [rgV_eq hz]
        obtain ⟨R2, S2⟩ := R'.own hp (.lst ((List.range j.toNat).map fun (k : Nat) => V.int (0 + (k : Int))))
        obtain ⟨n1, n2⟩ := R'.notin hp
        refine k _ _ F' A' [p] R2 (R'.st S' S2 R2) ⟨p, [], rfl, R'.same.free hp, rfl, _, upd_same, OwnL.ofHolds (holds_range _)⟩ (by simp) fun a ha => ?_
        have ea : a = p := by simpa using ha
        subst ea
        exact ⟨n1, S'.none hp, n2⟩
      · cases e
    | _ => cases e⟩
end
theorem mt_indexLs {X : Cx} {k : Nat} (hr : Room k X.A) : MtR X "list.index" (rIndexD X.K) := mt_indexD (by have := hr.un; omega)
end DL

namespace K91
open PySem L2 DL
def top (i : Nat) : Stmt := PySem.Challenge.pw_elderfolios_k91_worn_quires_judged.main.body.getD i (.Pass ⟨0, 0, 0, 0⟩)
abbrev s_is_whole : Stmt := top 2
abbrev s_is_word : Stmt := top 3
abbrev s_is_ascending : Stmt := top 4
abbrev s_words_of : Stmt := top 7
abbrev s_is_order : Stmt := top 8
abbrev s_is_worn : Stmt := top 10
abbrev s_told_words : Stmt := top 11
abbrev s_lack : Stmt := top 12
abbrev s_is_mending : Stmt := top 13
abbrev s_is_bar : Stmt := top 14
abbrev s_accepts_ordered : Stmt := top 15
abbrev s__law_tape : Stmt := top 17
abbrev s__law_next : Stmt := top 18
abbrev s__law_pick : Stmt := top 19
abbrev s__law_told_words : Stmt := top 20
abbrev s__law_is_bar : Stmt := top 21
abbrev s__law_is_mending : Stmt := top 22
abbrev s__law_is_order : Stmt := top 23
abbrev s__law_told : Stmt := top 24
abbrev s__law_made : Stmt := top 25
abbrev s__law_bent : Stmt := top 26
abbrev s__law_odd : Stmt := top 27
abbrev s_law : Stmt := top 28
theorem k_bool {K : PySem.W.Frag} : ∀ n ∈ ["NoneType", "bool", "int", "str", "tuple", "list", "dict"], PySem.W.kitOne K (.type n) (.type "bool") = some (n == "bool" || (n == "bool" && "bool" == "int")) := kitT (by decide +kernel)
theorem k_int {K : PySem.W.Frag} : ∀ n ∈ ["NoneType", "bool", "int", "str", "tuple", "list", "dict"], PySem.W.kitOne K (.type n) (.type "int") = some (n == "int" || (n == "bool" && "int" == "int")) := kitT (by decide +kernel)
theorem k_str {K : PySem.W.Frag} : ∀ n ∈ ["NoneType", "bool", "int", "str", "tuple", "list", "dict"], PySem.W.kitOne K (.type n) (.type "str") = some (n == "str" || (n == "bool" && "str" == "int")) := kitT (by decide +kernel)
theorem k_tuple {K : PySem.W.Frag} : ∀ n ∈ ["NoneType", "bool", "int", "str", "tuple", "list", "dict"], PySem.W.kitOne K (.type n) (.type "tuple") = some (n == "tuple" || (n == "bool" && "tuple" == "int")) := kitT (by decide +kernel)
structure Tx (K : PySem.W.Frag) (mg : Str → Option Value) : Prop where
  z_abs : mg "abs" = none
  z_all : mg "all" = none
  z_any : mg "any" = none
  z_bool : mg "bool" = none
  z_int : mg "int" = none
  z_isinstance : mg "isinstance" = none
  z_len : mg "len" = none
  z_list : mg "list" = none
  z_range : mg "range" = none
  z_set : mg "set" = none
  z_sorted : mg "sorted" = none
  z_str : mg "str" = none
  z_sum : mg "sum" = none
  z_tuple : mg "tuple" = none
  z_MOST_LETTERS : ∃ t, mg "MOST_LETTERS" = some (.int 16 t)
  z_MOST_QUIRES : ∃ t, mg "MOST_QUIRES" = some (.int 40 t)
section
variable {P : Program} {w : World} {K : PySem.W.Frag} {mg : Str → Option Value} {base : Heap}
abbrev f__law_next : FnM td := nextF
theorem room1 {k : Nat} {A : Around} (r : Room k A) : A.units + 1 < cLine := by have := room64 r; omega
theorem sc__law_next : FnScope ["tape", "many", "cell", "value"] ["tape", "many"] (defScope s__law_next) := ⟨rfl, rfl, rfl, by decide +kernel, rfl, by decide +kernel, by decide +kernel⟩
theorem ok__law_next {f : Addr} {fd : FuncData} (F : Fun K "_law_next" "_law_next" s__law_next f fd) (T : Tx K mg) : FnOk P w K mg base CX0 1 f fd ["tape", "many"] (spD td 2 f__law_next) :=
  fn_ok F sc__law_next fun cdv A outer s H E hr => ⟨PSs.imp (
    pss_cons (ps_if (PW.pt (pw_and (pt_cmpR op_eq (pe_dget (room1 hr) (pv 0) pe_str fun _ _ => rfl) pe_int (nomark _)) (pw_and1 (pt_cmpR op_lt (pe_dget (room1 hr) (pv 0) pe_str fun _ _ => rfl) (pe_callB call_len_seq (by rfl) T.z_len PySem.boot_len (pa_cons (pe_dget (room1 hr) (pv 0) pe_str fun _ _ => rfl) pa_nil)) (nomark _)))))
      (pss_cons (ps_set (i := 2) sc__law_next.nd rfl (Or.inl rfl) (pe_ix ix_list (pe_dget (room1 hr) (pv 0) pe_str fun _ _ => rfl) (pe_dget (room1 hr) (pv 0) pe_str fun _ _ => rfl) fun _ _ => rfl))
      (pss_cons (ps_asg (pe_op op_add (pe_dget (room1 hr) (pv 0) pe_str fun _ _ => rfl) pe_int) (pg_sub (pv 0) pe_str (set_dict (room1 hr))))
      (pss_cons (ps_if (pt_cmpR op_ge (pv 2) (pe_op op_pow pe_int pe_int) (nomark _)) (pss_one (ps_asg (pv 2) (pg_sub (pv 0) pe_str (set_dict (room1 hr))))) pss_nil)
      (pss_one (ps_asg (pe_op op_mod (pe_callTy call_int1 (by rfl) T.z_int PyProof.Rows.boot_int (pa_cons (pe_op op_add (pe_op op_add (pe_op op_mul (pe_dget (room1 hr) (pv 0) pe_str fun _ _ => rfl) pe_int) (pe_op op_mul (pv 2) pe_int)) pe_int) pa_nil)) pe_int) (pg_sub (pv 0) pe_str (set_dict (room1 hr)))))))) pss_nil)
    (pss_cons (ps_if (pt_cmpR op_gt (pe_dget (room1 hr) (pv 0) pe_str fun _ _ => rfl) pe_int (nomark _))
      (pss_cons (ps_set (i := 3) sc__law_next.nd rfl (Or.inl rfl) (pe_op op_mod (pe_callTy call_int1 (by rfl) T.z_int PyProof.Rows.boot_int (pa_cons (pe_dget (room1 hr) (pv 0) pe_str fun _ _ => rfl) pa_nil)) (pv 1)))
      (pss_cons (ps_asg (pe_op op_fdiv (pe_dget (room1 hr) (pv 0) pe_str fun _ _ => rfl) (pv 1)) (pg_sub (pv 0) pe_str (set_dict (room1 hr))))
      (pss_one (ps_ret (pv 3))))) pss_nil)
    (pss_cons (ps_asg (pe_op op_mod (pe_callTy call_int1 (by rfl) T.z_int PyProof.Rows.boot_int (pa_cons (pe_op op_add (pe_op op_mul (pe_dget (room1 hr) (pv 0) pe_str fun _ _ => rfl) pe_int) pe_int) pa_nil)) pe_int) (pg_sub (pv 0) pe_str (set_dict (room1 hr))))
    (pss_one (ps_ret (pe_op op_mod (pe_callTy call_int1 (by rfl) T.z_int PyProof.Rows.boot_int (pa_cons (pe_op op_fdiv (pe_dget (room1 hr) (pv 0) pe_str fun _ _ => rfl) pe_int) pa_nil)) (pv 1))))))) fun D σ H h => draw_core (K := K) h⟩
theorem sc__law_tape : FnScope ["script", "cell"] ["script"] (defScope s__law_tape) := ⟨rfl, rfl, rfl, by decide +kernel, rfl, by decide +kernel, by decide +kernel⟩
def scp__law_tape : Scope := { kind := .function, names := [((".0" : Str), .local), (("cell" : Str), .local), (("abs" : Str), .globalImplicit), (("int" : Str), .globalImplicit)], isGenerator := false, isCoroutine := false, more := [] }
theorem ok__law_tape {f : Addr} {fd : FuncData} (F : Fun K "_law_tape" "_law_tape" s__law_tape f fd) (T : Tx K mg) : FnOk P w K mg base CX0 1 f fd ["script"] (spTape K 91) := by
  refine F.ok sc__law_tape (fun vs H Q E h => ?_) (fun cdv A outer s H vs Q E hr h => ?_)
  · obtain ⟨a, ns, rfl, _⟩ := h
    rfl
  · obtain ⟨a, ns, rfl, hS, hl, k⟩ := h
    exact ⟨_, pss_one (ps_ret (pe_disp (pps_cons pe_str (pe_lc (own := [("cell", 1)]) (g := gName 1) (tt := tYes) rfl sc__law_tape.nd (pi_list (pv 0))
        (blkOk_by (N := ["script", "cell"]) (sc := defScope s__law_tape) (scope := scp__law_tape) (own := [("cell", 1)]) (by decide +kernel)) (fun _ _ _ _ _ => pg_name (i := 1) sc__law_tape.nd rfl (Or.inl rfl)) (fun _ _ _ _ _ => pts_nil) (fun _ _ _ _ _ => pe_callB call_abs (by rfl) T.z_abs PyProof.Rows.boot_abs (pa_cons (pe_callTy call_int1 (by rfl) T.z_int PyProof.Rows.boot_int (pa_cons (pv 1) pa_nil)) pa_nil)))
      (pps_cons pe_str pe_int (pps_cons pe_str pe_int (pps_cons pe_str pe_int pps_nil)))) (by decide) rfl (by simp) (by decide))), tape_core (K := K) hS hl k⟩
/-! ### is_whole -/
abbrev N_is_whole : List Str := [("value" : Str), ("low" : Str), ("high" : Str)]
theorem sc_is_whole : FnScope N_is_whole [("value" : Str), ("low" : Str), ("high" : Str)] (defScope s_is_whole) := ⟨rfl, rfl, rfl, by decide +kernel, rfl, by decide +kernel, by decide +kernel⟩
def m_is_whole : SM td := (sret (mand (misinst "int" (.v 0)) (mand (mnot (misinst "bool" (.v 0))) (mchain leD leD (.v 1) (.v 0) (.v 2)))))
def f_is_whole : FnM td := runFn 3 3 m_is_whole
theorem ok_is_whole {f : Addr} {fd : FuncData} (F : Fun K ("is_whole" : Str) ("is_whole" : Str) s_is_whole f fd) (T : Tx K mg)  : FnOk P w K mg base CX0 1 f fd [("value" : Str), ("low" : Str), ("high" : Str)] (spD td 3 f_is_whole) :=
  fn_ok F sc_is_whole fun cdv A outer s H E hr => by
    exact (ib_one (is_ret (ie_and (ie_isinst (by rfl) T.z_isinstance (by rfl) T.z_int (by decide +kernel) (.v (pv 0)) k_int) (ie_and (ie_not (ie_isinst (by rfl) T.z_isinstance (by rfl) T.z_bool (by decide +kernel) (.v (pv 0)) k_bool)) (ie_one (ie_chain op_leA od_le op_leA od_le (.v (pv 1)) (.v (pv 0)) (.v (pv 2))))))))
/-! ### is_word -/
abbrev N_is_word : List Str := [("value" : Str), ("sign" : Str)]
theorem sc_is_word : FnScope N_is_word [("value" : Str)] (defScope s_is_word) := ⟨rfl, rfl, rfl, by decide +kernel, rfl, by decide +kernel, by decide +kernel⟩
def scp_is_word_1 : Scope := { kind := .function, names := [((".0" : Str), .local), (("sign" : Str), .local)], isGenerator := false, isCoroutine := false, more := [] }
def ce_is_word_1 : M td := (mchain leD leD (.e (mcst (.str "a"))) (.v 1) (.e (mcst (.str "z"))))
def c_is_word_1 : M td := mlc [1] (iseq (mvar 0)) (gset 1) byes ce_is_word_1
def m_is_word : SM td := (scons (sif (bor (bnot (asB (misinst "str" (.v 0)))) (bnot (asB (mchain leD leD (.e (mcst (.int 1))) (.e (mfn len1 [(.v 0)])) (.e (mcst (.int 16))))))) (sret (mcst (.bl false))) snil)
    (sret (mfn all1 [(.e c_is_word_1)])))
def f_is_word : FnM td := runFn 2 1 m_is_word
theorem ok_is_word {f : Addr} {fd : FuncData} (F : Fun K ("is_word" : Str) ("is_word" : Str) s_is_word f fd) (T : Tx K mg)  : FnOk P w K mg base CX0 1 f fd [("value" : Str)] (spD td 1 f_is_word) :=
  fn_ok F sc_is_word fun cdv A outer s H E hr => by
    exact (ib_cons (is_if (IsW.t (iw_or (it_not (it_val (ie_isinst (by rfl) T.z_isinstance (by rfl) T.z_str (by decide +kernel) (.v (pv 0)) k_str))) (iw_or1 (it_not (it_chain op_leA od_le op_leA od_le (.e ie_int) (.e (ie_blt call_len cd_len (by rfl) T.z_len PySem.boot_len (ia_cons (.v (pv 0)) .nil))) (.e (ie_gint (by rfl) T.z_MOST_LETTERS.choose_spec))))))) (ib_one (is_ret ie_bl)) ib_nil)
    (ib_one (is_ret (ie_blt (cr_all rfl) cd_all (by rfl) T.z_all PyProof.Rows.boot_all (ia_cons (.e (IsO.toE (io_lc [(("sign" : Str), 1)] rfl sc_is_word.nd (ii_seq (ie_var (pv 0))) (blkOk_by (N := N_is_word) (sc := defScope s_is_word) (scope := scp_is_word_1) (own := [(("sign" : Str), 1)]) (by decide +kernel)) (fun _ _ _ _ _ => (ig_name (i := 1) sc_is_word.nd rfl (Or.inl rfl))) (fun _ _ _ _ _ => its_nil) (fun _ _ _ _ _ => (ie_chain op_leA od_le op_leA od_le (.e ie_str) (.v (pv 1)) (.e ie_str)))))) .nil)))))
/-! ### words_of -/
abbrev N_words_of : List Str := [("quires" : Str), ("pair" : Str), ("word" : Str)]
theorem sc_words_of : FnScope N_words_of [("quires" : Str)] (defScope s_words_of) := ⟨rfl, rfl, rfl, by decide +kernel, rfl, by decide +kernel, by decide +kernel⟩
def scp_words_of_1 : Scope := { kind := .function, names := [((".0" : Str), .local), (("pair" : Str), .local), (("word" : Str), .local)], isGenerator := false, isCoroutine := false, more := [] }
def ce_words_of_1 : M td := (mvar 2)
def ct_words_of_1 : MB td := (asB (mop neD (.v 2) (.e (mcst (.str "")))))
def cs_words_of_1 : ML td := (iseq (mvar 1))
def c_words_of_1 : M td := mlc2 [1, 2] [2] (iseq (mvar 0)) (gset 1) byes cs_words_of_1 (gset 2) ct_words_of_1 ce_words_of_1
def m_words_of : SM td := (sret (msortS (.e c_words_of_1)))
def f_words_of : FnM td := runFn 3 1 m_words_of
theorem ok_words_of {f : Addr} {fd : FuncData} (F : Fun K ("words_of" : Str) ("words_of" : Str) s_words_of f fd) (T : Tx K mg)  : FnOk P w K mg base CX0 1 f fd [("quires" : Str)] (spD td 1 f_words_of) :=
  fn_ok F sc_words_of fun cdv A outer s H E hr => by
    exact (ib_one (is_ret (IsO.toE (io_sortS (by rfl) T.z_sorted (by rfl) T.z_set (.e (IsO.toE (io_lc2 [(("pair" : Str), 1), (("word" : Str), 2)] [2] rfl sc_words_of.nd (ii_seq (ie_var (pv 0))) (blkOk_by (N := N_words_of) (sc := defScope s_words_of) (scope := scp_words_of_1) (own := [(("pair" : Str), 1), (("word" : Str), 2)]) (by decide +kernel)) (by decide) (fun _ _ _ _ _ => (ig_name (i := 1) sc_words_of.nd rfl (Or.inl rfl))) (fun _ _ _ _ _ => its_nil) (fun _ _ _ _ _ => (ii_seq (ie_var (pv 1)))) (fun _ _ _ _ _ => (ig_name (i := 2) sc_words_of.nd rfl (Or.inl rfl))) (fun _ _ _ _ _ => (its_one (it_cmp (op_neA hr) od_ne (.v (pv 2)) (.e ie_str) (nomark _)))) (fun _ _ _ _ _ => (ie_var (pv 2)))))) rfl))))
/-! ### lack -/
abbrev N_lack : List Str := [("quires" : Str), ("word" : Str), ("first" : Str), ("catch" : Str)]
theorem sc_lack : FnScope N_lack [("quires" : Str), ("word" : Str)] (defScope s_lack) := ⟨rfl, rfl, rfl, by decide +kernel, rfl, by decide +kernel, by decide +kernel⟩
def scp_lack_1 : Scope := { kind := .function, names := [((".0" : Str), .local), (("first" : Str), .local), (("catch" : Str), .local), (("int" : Str), .globalImplicit), (("word" : Str), .free)], isGenerator := false, isCoroutine := false, more := [] }
def ce_lack_1 : M td := (mop subD (.e (mfn int1 [(.e (mop eqD (.v 2) (.v 1)))])) (.e (mfn int1 [(.e (mop eqD (.v 3) (.v 1)))])))
def c_lack_1 : M td := mlc [2, 3] (iseq (mvar 0)) (gtup 2 (gcons (gset 2) (gcons (gset 3) gnil))) byes ce_lack_1
def m_lack : SM td := (sret (mfn sum1 [(.e c_lack_1)]))
def f_lack : FnM td := runFn 4 2 m_lack
theorem ok_lack {f : Addr} {fd : FuncData} (F : Fun K ("lack" : Str) ("lack" : Str) s_lack f fd) (T : Tx K mg)  : FnOk P w K mg base CX0 1 f fd [("quires" : Str), ("word" : Str)] (spD td 2 f_lack) :=
  fn_ok F sc_lack fun cdv A outer s H E hr => by
    exact (ib_one (is_ret (ie_blt (cr_sum rfl) cd_sum (by rfl) T.z_sum PyProof.Rows.boot_sum (ia_cons (.e (IsO.toE (io_lc [(("first" : Str), 2), (("catch" : Str), 3)] rfl sc_lack.nd (ii_seq (ie_var (pv 0))) (blkOk_by (N := N_lack) (sc := defScope s_lack) (scope := scp_lack_1) (own := [(("first" : Str), 2), (("catch" : Str), 3)]) (by decide +kernel)) (fun _ _ _ _ _ => (ig_tup rfl (igs_cons (ig_name (i := 2) sc_lack.nd rfl (Or.inl rfl)) (igs_cons (ig_name (i := 3) sc_lack.nd rfl (Or.inl rfl)) igs_nil)))) (fun _ _ _ _ _ => its_nil) (fun _ _ _ _ _ => (ie_op op_sub od_sub (.e (ie_ty call_int1 cd_int (by rfl) T.z_int PyProof.Rows.boot_int (ia_cons (.e (ie_cmp (op_eqA hr) od_eq (.v (pv 2)) (.v (pv 1)) (nomark _))) .nil))) (.e (ie_ty call_int1 cd_int (by rfl) T.z_int PyProof.Rows.boot_int (ia_cons (.e (ie_cmp (op_eqA hr) od_eq (.v (pv 3)) (.v (pv 1)) (nomark _))) .nil)))))))) .nil))))
/-! ### _law_told_words -/
abbrev N__law_told_words : List Str := [("quires" : Str), ("found" : Str), ("first" : Str), ("catch" : Str)]
theorem sc__law_told_words : FnScope N__law_told_words [("quires" : Str)] (defScope s__law_told_words) := ⟨rfl, rfl, rfl, by decide +kernel, rfl, by decide +kernel, by decide +kernel⟩
def lb__law_told_words_1 : SM td := (sset 1 (mop addD (.e (mop addD (.v 1) (.e (mlst (mcons (mvar 2) mnil))))) (.e (mite (asB (mop notinD (.v 3) (.e (mtup (mcons (mcst .non) (mcons (mcst (.str "")) mnil)))))) (mlst (mcons (mvar 3) mnil)) (mlst mnil)))))
def l__law_told_words_1 : SM td := sfor (iseq (mvar 0)) (gtup 2 (gcons (gset 2) (gcons (gset 3) gnil))) lb__law_told_words_1
def m__law_told_words : SM td := (scons (sset 1 (mlst mnil))
    (scons l__law_told_words_1
    (sret (mvar 1))))
def f__law_told_words : FnM td := runFn 4 1 m__law_told_words
theorem ok__law_told_words {f : Addr} {fd : FuncData} (F : Fun K ("_law_told_words" : Str) ("_law_told_words" : Str) s__law_told_words f fd) (T : Tx K mg)  : FnOk P w K mg base CX0 1 f fd [("quires" : Str)] (spD td 1 f__law_told_words) :=
  fn_ok F sc__law_told_words fun cdv A outer s H E hr => by
    exact (ib_cons (is_set (i := 1) sc__law_told_words.nd rfl (Or.inl rfl) (IsO.toE (io_lst il_nil)))
    (ib_cons (is_for PassesOwn.never rfl (ii_seq (ie_var (pv 0))) (ig_tup rfl (igs_cons (ig_name (i := 2) sc__law_told_words.nd rfl (Or.inl rfl)) (igs_cons (ig_name (i := 3) sc__law_told_words.nd rfl (Or.inl rfl)) igs_nil))) (ib_one (is_set (i := 1) sc__law_told_words.nd rfl (Or.inl rfl) (ie_op op_addAll od_add (.e (ie_op op_addAll od_add (.v (pv 1)) (.e (IsO.toE (io_lst (il_cons (ie_var (pv 2)) il_nil)))))) (.e (ie_ite (it_cmp (op_notInA hr) od_notin (.v (pv 3)) (.e (ie_tup (il_cons ie_non (il_cons ie_str il_nil)))) (by with_unfolding_all rfl)) (IsO.toE (io_lst (il_cons (ie_var (pv 3)) il_nil))) (IsO.toE (io_lst il_nil))))))))
    (ib_one (is_ret (ie_var (pv 1))))))
/-! ### _law_is_mending -/
abbrev N__law_is_mending : List Str := [("quires" : Str), ("value" : Str), ("k" : Str)]
theorem sc__law_is_mending : FnScope N__law_is_mending [("quires" : Str), ("value" : Str)] (defScope s__law_is_mending) := ⟨rfl, rfl, rfl, by decide +kernel, rfl, by decide +kernel, by decide +kernel⟩
def lb__law_is_mending_1 : SM td := (sif (bor (asB (mop neD (.e (mop idxD (.e (mop idxD (.v 1) (.v 2))) (.e (mcst (.int 0))))) (.e (mop idxD (.e (mop idxD (.v 0) (.v 2))) (.e (mcst (.int 0))))))) (bor (asB (mop isND (.e (mop idxD (.e (mop idxD (.v 1) (.v 2))) (.e (mcst (.int 1))))) (.e (mcst .non)))) (band (asB (mop isntND (.e (mop idxD (.e (mop idxD (.v 0) (.v 2))) (.e (mcst (.int 1))))) (.e (mcst .non)))) (asB (mop neD (.e (mop idxD (.e (mop idxD (.v 1) (.v 2))) (.e (mcst (.int 1))))) (.e (mop idxD (.e (mop idxD (.v 0) (.v 2))) (.e (mcst (.int 1)))))))))) (sret (mcst (.bl false))) snil)
def l__law_is_mending_1 : SM td := sfor (irange1 (mcons (mfn len1 [(.v 0)]) mnil)) (gset 2) lb__law_is_mending_1
def m__law_is_mending : SM td := (scons (sif (asB (mop neD (.e (mfn len1 [(.v 1)])) (.e (mfn len1 [(.v 0)])))) (sret (mcst (.bl false))) snil)
    (scons l__law_is_mending_1
    (sret (mcst (.bl true)))))
def f__law_is_mending : FnM td := runFn 3 2 m__law_is_mending
theorem ok__law_is_mending {f : Addr} {fd : FuncData} (F : Fun K ("_law_is_mending" : Str) ("_law_is_mending" : Str) s__law_is_mending f fd) (T : Tx K mg)  : FnOk P w K mg base CX0 1 f fd [("quires" : Str), ("value" : Str)] (spD td 2 f__law_is_mending) :=
  fn_ok F sc__law_is_mending fun cdv A outer s H E hr => by
    exact (ib_cons (is_if (it_cmp (op_neA hr) od_ne (.e (ie_blt call_len cd_len (by rfl) T.z_len PySem.boot_len (ia_cons (.v (pv 1)) .nil))) (.e (ie_blt call_len cd_len (by rfl) T.z_len PySem.boot_len (ia_cons (.v (pv 0)) .nil))) (nomark _)) (ib_one (is_ret ie_bl)) ib_nil)
    (ib_cons (is_for PassesOwn.never rfl (ii_range1 (by rfl) T.z_range (il_cons (ie_blt call_len cd_len (by rfl) T.z_len PySem.boot_len (ia_cons (.v (pv 0)) .nil)) il_nil)) (ig_name (i := 2) sc__law_is_mending.nd rfl (Or.inl rfl)) (ib_one (is_if (IsW.t (iw_or (it_cmp (op_neA hr) od_ne (.e (ie_ix ix_seq od_idx (.e (ie_ix ix_seq od_idx (.v (pv 1)) (.v (pv 2)))) (.e ie_int))) (.e (ie_ix ix_seq od_idx (.e (ie_ix ix_seq od_idx (.v (pv 0)) (.v (pv 2)))) (.e ie_int))) (nomark _)) (iw_or (it_cmp op_isN od_isN (.e (ie_ix ix_seq od_idx (.e (ie_ix ix_seq od_idx (.v (pv 1)) (.v (pv 2)))) (.e ie_int))) (.e ie_non) (nomark _)) (iw_or1 (IsW.t (iw_and (it_cmp op_notN od_isntN (.e (ie_ix ix_seq od_idx (.e (ie_ix ix_seq od_idx (.v (pv 0)) (.v (pv 2)))) (.e ie_int))) (.e ie_non) (nomark _)) (iw_and1 (it_cmp (op_neA hr) od_ne (.e (ie_ix ix_seq od_idx (.e (ie_ix ix_seq od_idx (.v (pv 1)) (.v (pv 2)))) (.e ie_int))) (.e (ie_ix ix_seq od_idx (.e (ie_ix ix_seq od_idx (.v (pv 0)) (.v (pv 2)))) (.e ie_int))) (nomark _))))))))) (ib_one (is_ret ie_bl)) ib_nil)))
    (ib_one (is_ret ie_bl))))
/-! ### _law_is_order -/
abbrev N__law_is_order : List Str := [("value" : Str), ("order" : Str), ("k" : Str)]
theorem sc__law_is_order : FnScope N__law_is_order [("value" : Str), ("order" : Str)] (defScope s__law_is_order) := ⟨rfl, rfl, rfl, by decide +kernel, rfl, by decide +kernel, by decide +kernel⟩
def scp__law_is_order_1 : Scope := { kind := .function, names := [((".0" : Str), .local), (("k" : Str), .local), (("value" : Str), .free)], isGenerator := false, isCoroutine := false, more := [] }
def scp__law_is_order_2 : Scope := { kind := .function, names := [((".0" : Str), .local), (("k" : Str), .local), (("value" : Str), .free)], isGenerator := false, isCoroutine := false, more := [] }
def ce__law_is_order_1 : M td := (mop idxD (.e (mop idxD (.v 0) (.v 2))) (.e (mcst (.int 1))))
def c__law_is_order_1 : M td := mlc [2] (iseq (mvar 1)) (gset 2) byes ce__law_is_order_1
def ce__law_is_order_2 : M td := (mop idxD (.e (mop idxD (.v 0) (.v 2))) (.e (mcst (.int 0))))
def c__law_is_order_2 : M td := mlc [2] (iseq (mslice sliceD (.v 1) (osome (mcst (.int 1))) onone)) (gset 2) byes ce__law_is_order_2
def m__law_is_order : SM td := (scons (sif (asB (mop neD (.e (mfnL sortA1 [(.v 1)])) (.e (mlistR (mfn len1 [(.v 0)]))))) (sret (mcst (.bl false))) snil)
    (sret (mop eqD (.e c__law_is_order_1) (.e (mop addD (.e c__law_is_order_2) (.e (mlst (mcons (mcst (.str "")) mnil))))))))
def f__law_is_order : FnM td := runFn 3 2 m__law_is_order
theorem ok__law_is_order {f : Addr} {fd : FuncData} (F : Fun K ("_law_is_order" : Str) ("_law_is_order" : Str) s__law_is_order f fd) (T : Tx K mg)  : FnOk P w K mg base CX0 1 f fd [("value" : Str), ("order" : Str)] (spD td 2 f__law_is_order) :=
  fn_ok F sc__law_is_order fun cdv A outer s H E hr => by
    exact (ib_cons (is_if (it_cmp (op_neA hr) od_ne (.e (IsO.toE (io_blt cr_sortA cn_sortA (by rfl) T.z_sorted PyProof.Rows.boot_sorted (ia_cons (.v (pv 1)) .nil)))) (.e (IsO.toE (io_listR (by rfl) T.z_list (by rfl) T.z_range (ie_blt call_len cd_len (by rfl) T.z_len PySem.boot_len (ia_cons (.v (pv 0)) .nil)) rfl))) (nomark _)) (ib_one (is_ret ie_bl)) ib_nil)
    (ib_one (is_ret (ie_cmp (op_eqA hr) od_eq (.e (IsO.toE (io_lc [(("k" : Str), 2)] rfl sc__law_is_order.nd (ii_seq (ie_var (pv 1))) (blkOk_by (N := N__law_is_order) (sc := defScope s__law_is_order) (scope := scp__law_is_order_1) (own := [(("k" : Str), 2)]) (by decide +kernel)) (fun _ _ _ _ _ => (ig_name (i := 2) sc__law_is_order.nd rfl (Or.inl rfl))) (fun _ _ _ _ _ => its_nil) (fun _ _ _ _ _ => (ie_ix ix_seq od_idx (.e (ie_ix ix_seq od_idx (.v (pv 0)) (.v (pv 2)))) (.e ie_int)))))) (.e (ie_op op_addAll od_add (.e (IsO.toE (io_lc [(("k" : Str), 2)] rfl sc__law_is_order.nd (ii_seq (ie_slice sl_all sd_all (.v (pv 1)) (ip_some ie_int) ip_none)) (blkOk_by (N := N__law_is_order) (sc := defScope s__law_is_order) (scope := scp__law_is_order_2) (own := [(("k" : Str), 2)]) (by decide +kernel)) (fun _ _ _ _ _ => (ig_name (i := 2) sc__law_is_order.nd rfl (Or.inl rfl))) (fun _ _ _ _ _ => its_nil) (fun _ _ _ _ _ => (ie_ix ix_seq od_idx (.e (ie_ix ix_seq od_idx (.v (pv 0)) (.v (pv 2)))) (.e ie_int)))))) (.e (IsO.toE (io_lst (il_cons ie_str il_nil)))))) (nomark _)))))
/-! ### _law_told -/
abbrev N__law_told : List Str := [("told" : Str), ("due" : Str)]
theorem sc__law_told : FnScope N__law_told [("told" : Str), ("due" : Str)] (defScope s__law_told) := ⟨rfl, rfl, rfl, by decide +kernel, rfl, by decide +kernel, by decide +kernel⟩
def m__law_told : SM td := (sret (mand (misinst "bool" (.v 0)) (mop eqD (.v 0) (.v 1))))
def f__law_told : FnM td := runFn 2 2 m__law_told
theorem ok__law_told {f : Addr} {fd : FuncData} (F : Fun K ("_law_told" : Str) ("_law_told" : Str) s__law_told f fd) (T : Tx K mg)  : FnOk P w K mg base CX0 1 f fd [("told" : Str), ("due" : Str)] (spD td 2 f__law_told) :=
  fn_ok F sc__law_told fun cdv A outer s H E hr => by
    exact (ib_one (is_ret (ie_and (ie_isinst (by rfl) T.z_isinstance (by rfl) T.z_bool (by decide +kernel) (.v (pv 0)) k_bool) (ie_one (ie_cmp (op_eqA hr) od_eq (.v (pv 0)) (.v (pv 1)) (nomark _))))))
/-! ### is_ascending -/
abbrev N_is_ascending : List Str := [("value" : Str), ("low" : Str), ("high" : Str), ("number" : Str), ("k" : Str)]
theorem sc_is_ascending : FnScope N_is_ascending [("value" : Str), ("low" : Str), ("high" : Str)] (defScope s_is_ascending) := ⟨rfl, rfl, rfl, by decide +kernel, rfl, by decide +kernel, by decide +kernel⟩
def scp_is_ascending_1 : Scope := { kind := .function, names := [((".0" : Str), .local), (("k" : Str), .local), (("value" : Str), .free)], isGenerator := false, isCoroutine := false, more := [] }
def scp_is_ascending_2 : Scope := { kind := .function, names := [((".0" : Str), .local), (("number" : Str), .local), (("is_whole" : Str), .globalImplicit), (("high" : Str), .free), (("low" : Str), .free)], isGenerator := false, isCoroutine := false, more := [] }
def ce_is_ascending_1 : M td := (mop ltD (.e (mop idxD (.v 0) (.v 4))) (.e (mop idxD (.v 0) (.e (mop addD (.v 4) (.e (mcst (.int 1))))))))
def c_is_ascending_1 : M td := mlc [4] (irange1 (mcons (mop subD (.e (mfn len1 [(.v 0)])) (.e (mcst (.int 1)))) mnil)) (gset 4) byes ce_is_ascending_1
def ce_is_ascending_2 : M td := (mcall 3 f_is_whole (mcons (mvar 3) (mcons (mvar 1) (mcons (mvar 2) mnil))))
def c_is_ascending_2 : M td := mlc [3] (iseq (mvar 0)) (gset 3) byes ce_is_ascending_2
def m_is_ascending : SM td := (scons (sif (bor (bnot (asB (misinst "tuple" (.v 0)))) (bnot (asB (mfn all1 [(.e c_is_ascending_2)])))) (sret (mcst (.bl false))) snil)
    (sret (mfn all1 [(.e c_is_ascending_1)])))
def f_is_ascending : FnM td := runFn 5 3 m_is_ascending
theorem ok_is_ascending {f : Addr} {fd : FuncData} (F : Fun K ("is_ascending" : Str) ("is_ascending" : Str) s_is_ascending f fd) (T : Tx K mg) (g_is_whole : FnAt td P w K mg base 1 ("is_whole" : Str) 3 f_is_whole) : FnOk P w K mg base CX0 2 f fd [("value" : Str), ("low" : Str), ("high" : Str)] (spD td 3 f_is_ascending) :=
  fn_ok F sc_is_ascending fun cdv A outer s H E hr => by
    have c_is_whole := g_is_whole.fn (A := A.deeper (PyProof.Rows.envOfC ("is_ascending" : Str) (defScope s_is_ascending) s.heap.objs.size f cdv)) hr (by decide)
    exact (ib_cons (is_if (IsW.t (iw_or (it_not (it_val (ie_isinst (by rfl) T.z_isinstance (by rfl) T.z_tuple (by decide +kernel) (.v (pv 0)) k_tuple))) (iw_or1 (it_not (it_val (ie_blt (cr_all rfl) cd_all (by rfl) T.z_all PyProof.Rows.boot_all (ia_cons (.e (IsO.toE (io_lc [(("number" : Str), 3)] rfl sc_is_ascending.nd (ii_seq (ie_var (pv 0))) (blkOk_by (N := N_is_ascending) (sc := defScope s_is_ascending) (scope := scp_is_ascending_2) (own := [(("number" : Str), 3)]) (by decide +kernel)) (fun _ _ _ _ _ => (ig_name (i := 3) sc_is_ascending.nd rfl (Or.inl rfl))) (fun _ _ _ _ _ => its_nil) (fun _ _ _ _ _ => (ie_call c_is_whole (by rfl) (il_cons (ie_var (pv 3)) (il_cons (ie_var (pv 1)) (il_cons (ie_var (pv 2)) il_nil)))))))) .nil))))))) (ib_one (is_ret ie_bl)) ib_nil)
    (ib_one (is_ret (ie_blt (cr_all rfl) cd_all (by rfl) T.z_all PyProof.Rows.boot_all (ia_cons (.e (IsO.toE (io_lc [(("k" : Str), 4)] rfl sc_is_ascending.nd (ii_range1 (by rfl) T.z_range (il_cons (ie_op op_sub od_sub (.e (ie_blt call_len cd_len (by rfl) T.z_len PySem.boot_len (ia_cons (.v (pv 0)) .nil))) (.e ie_int)) il_nil)) (blkOk_by (N := N_is_ascending) (sc := defScope s_is_ascending) (scope := scp_is_ascending_1) (own := [(("k" : Str), 4)]) (by decide +kernel)) (fun _ _ _ _ _ => (ig_name (i := 4) sc_is_ascending.nd rfl (Or.inl rfl))) (fun _ _ _ _ _ => its_nil) (fun _ _ _ _ _ => (ie_cmp op_ltA od_lt (.e (ie_ix ix_seq od_idx (.v (pv 0)) (.v (pv 4)))) (.e (ie_ix ix_seq od_idx (.v (pv 0)) (.e (ie_op op_addAll od_add (.v (pv 4)) (.e ie_int))))) (nomark _)))))) .nil)))))
/-! ### is_order -/
abbrev N_is_order : List Str := [("quires" : Str), ("value" : Str), ("caught" : Str), ("k" : Str)]
theorem sc_is_order : FnScope N_is_order [("quires" : Str), ("value" : Str)] (defScope s_is_order) := ⟨rfl, rfl, rfl, by decide +kernel, rfl, by decide +kernel, by decide +kernel⟩
def scp_is_order_1 : Scope := { kind := .function, names := [((".0" : Str), .local), (("k" : Str), .local), (("quires" : Str), .free)], isGenerator := false, isCoroutine := false, more := [] }
def scp_is_order_2 : Scope := { kind := .function, names := [((".0" : Str), .local), (("k" : Str), .local), (("quires" : Str), .free)], isGenerator := false, isCoroutine := false, more := [] }
def scp_is_order_3 : Scope := { kind := .function, names := [((".0" : Str), .local), (("k" : Str), .local), (("is_whole" : Str), .globalImplicit), (("len" : Str), .globalImplicit), (("quires" : Str), .free)], isGenerator := false, isCoroutine := false, more := [] }
def ce_is_order_1 : M td := (mop idxD (.e (mop idxD (.v 0) (.v 3))) (.e (mcst (.int 0))))
def c_is_order_1 : M td := mlc [3] (iseq (mslice sliceD (.v 1) (osome (mcst (.int 1))) onone)) (gset 3) byes ce_is_order_1
def ce_is_order_2 : M td := (mop idxD (.e (mop idxD (.v 0) (.v 3))) (.e (mcst (.int 1))))
def c_is_order_2 : M td := mlc [3] (iseq (mvar 1)) (gset 3) byes ce_is_order_2
def ce_is_order_3 : M td := (mcall 3 f_is_whole (mcons (mvar 3) (mcons (mcst (.int 0)) (mcons (mop subD (.e (mfn len1 [(.v 0)])) (.e (mcst (.int 1)))) mnil))))
def c_is_order_3 : M td := mlc [3] (iseq (mvar 1)) (gset 3) byes ce_is_order_3
def m_is_order : SM td := (scons (sif (bor (bnot (asB (misinst "tuple" (.v 1)))) (bnot (asB (mfn all1 [(.e c_is_order_3)])))) (sret (mcst (.bl false))) snil)
    (scons (sif (asB (mop neD (.e (mfnL sortA1 [(.v 1)])) (.e (mlistR (mfn len1 [(.v 0)]))))) (sret (mcst (.bl false))) snil)
    (scons (sset 2 c_is_order_2)
    (sret (mop eqD (.v 2) (.e (mop addD (.e c_is_order_1) (.e (mlst (mcons (mcst (.str "")) mnil))))))))))
def f_is_order : FnM td := runFn 4 2 m_is_order
theorem ok_is_order {f : Addr} {fd : FuncData} (F : Fun K ("is_order" : Str) ("is_order" : Str) s_is_order f fd) (T : Tx K mg) (g_is_whole : FnAt td P w K mg base 1 ("is_whole" : Str) 3 f_is_whole) : FnOk P w K mg base CX0 2 f fd [("quires" : Str), ("value" : Str)] (spD td 2 f_is_order) :=
  fn_ok F sc_is_order fun cdv A outer s H E hr => by
    have c_is_whole := g_is_whole.fn (A := A.deeper (PyProof.Rows.envOfC ("is_order" : Str) (defScope s_is_order) s.heap.objs.size f cdv)) hr (by decide)
    exact (ib_cons (is_if (IsW.t (iw_or (it_not (it_val (ie_isinst (by rfl) T.z_isinstance (by rfl) T.z_tuple (by decide +kernel) (.v (pv 1)) k_tuple))) (iw_or1 (it_not (it_val (ie_blt (cr_all rfl) cd_all (by rfl) T.z_all PyProof.Rows.boot_all (ia_cons (.e (IsO.toE (io_lc [(("k" : Str), 3)] rfl sc_is_order.nd (ii_seq (ie_var (pv 1))) (blkOk_by (N := N_is_order) (sc := defScope s_is_order) (scope := scp_is_order_3) (own := [(("k" : Str), 3)]) (by decide +kernel)) (fun _ _ _ _ _ => (ig_name (i := 3) sc_is_order.nd rfl (Or.inl rfl))) (fun _ _ _ _ _ => its_nil) (fun _ _ _ _ _ => (ie_call c_is_whole (by rfl) (il_cons (ie_var (pv 3)) (il_cons ie_int (il_cons (ie_op op_sub od_sub (.e (ie_blt call_len cd_len (by rfl) T.z_len PySem.boot_len (ia_cons (.v (pv 0)) .nil))) (.e ie_int)) il_nil)))))))) .nil))))))) (ib_one (is_ret ie_bl)) ib_nil)
    (ib_cons (is_if (it_cmp (op_neA hr) od_ne (.e (IsO.toE (io_blt cr_sortA cn_sortA (by rfl) T.z_sorted PyProof.Rows.boot_sorted (ia_cons (.v (pv 1)) .nil)))) (.e (IsO.toE (io_listR (by rfl) T.z_list (by rfl) T.z_range (ie_blt call_len cd_len (by rfl) T.z_len PySem.boot_len (ia_cons (.v (pv 0)) .nil)) rfl))) (nomark _)) (ib_one (is_ret ie_bl)) ib_nil)
    (ib_cons (is_lc [(("k" : Str), 3)] (i := 2) rfl sc_is_order.nd rfl rfl (sw_true rfl rfl rfl (by decide +kernel)) (ii_seq (ie_var (pv 1))) (blkOk_by (N := N_is_order) (sc := defScope s_is_order) (scope := scp_is_order_2) (own := [(("k" : Str), 3)]) (by decide +kernel)) (fun _ _ _ _ _ => (ig_name (i := 3) sc_is_order.nd rfl (Or.inl rfl))) (fun _ _ _ _ _ => its_nil) (fun _ _ _ _ _ => (ie_ix ix_seq od_idx (.e (ie_ix ix_seq od_idx (.v (pv 0)) (.v (pv 3)))) (.e ie_int))))
    (ib_one (is_ret (ie_cmp (op_eqA hr) od_eq (.v (pv 2)) (.e (ie_op op_addAll od_add (.e (IsO.toE (io_lc [(("k" : Str), 3)] rfl sc_is_order.nd (ii_seq (ie_slice sl_all sd_all (.v (pv 1)) (ip_some ie_int) ip_none)) (blkOk_by (N := N_is_order) (sc := defScope s_is_order) (scope := scp_is_order_1) (own := [(("k" : Str), 3)]) (by decide +kernel)) (fun _ _ _ _ _ => (ig_name (i := 3) sc_is_order.nd rfl (Or.inl rfl))) (fun _ _ _ _ _ => its_nil) (fun _ _ _ _ _ => (ie_ix ix_seq od_idx (.e (ie_ix ix_seq od_idx (.v (pv 0)) (.v (pv 3)))) (.e ie_int)))))) (.e (IsO.toE (io_lst (il_cons ie_str il_nil)))))) (nomark _)))))))
/-! ### is_worn -/
abbrev N_is_worn : List Str := [("value" : Str), ("pair" : Str)]
theorem sc_is_worn : FnScope N_is_worn [("value" : Str)] (defScope s_is_worn) := ⟨rfl, rfl, rfl, by decide +kernel, rfl, by decide +kernel, by decide +kernel⟩
def lb_is_worn_1 : SM td := (scons (sif (bor (bnot (asB (misinst "tuple" (.v 1)))) (bor (asB (mop neD (.e (mfn len1 [(.v 1)])) (.e (mcst (.int 2))))) (bnot (asB (mcall 1 f_is_word (mcons (mop idxD (.v 1) (.e (mcst (.int 0)))) mnil)))))) (sret (mcst (.bl false))) snil)
    (sif (band (asB (mop isntND (.e (mop idxD (.v 1) (.e (mcst (.int 1))))) (.e (mcst .non)))) (band (asB (mop neD (.e (mop idxD (.v 1) (.e (mcst (.int 1))))) (.e (mcst (.str ""))))) (bnot (asB (mcall 1 f_is_word (mcons (mop idxD (.v 1) (.e (mcst (.int 1)))) mnil)))))) (sret (mcst (.bl false))) snil))
def l_is_worn_1 : SM td := sfor (iseq (mvar 0)) (gset 1) lb_is_worn_1
def m_is_worn : SM td := (scons (sif (bor (bnot (asB (misinst "tuple" (.v 0)))) (bnot (asB (mchain leD leD (.e (mcst (.int 1))) (.e (mfn len1 [(.v 0)])) (.e (mcst (.int 40))))))) (sret (mcst (.bl false))) snil)
    (scons l_is_worn_1
    (sret (mcst (.bl true)))))
def f_is_worn : FnM td := runFn 2 1 m_is_worn
theorem ok_is_worn {f : Addr} {fd : FuncData} (F : Fun K ("is_worn" : Str) ("is_worn" : Str) s_is_worn f fd) (T : Tx K mg) (g_is_word : FnAt td P w K mg base 1 ("is_word" : Str) 1 f_is_word) : FnOk P w K mg base CX0 2 f fd [("value" : Str)] (spD td 1 f_is_worn) :=
  fn_ok F sc_is_worn fun cdv A outer s H E hr => by
    have c_is_word := g_is_word.fn (A := A.deeper (PyProof.Rows.envOfC ("is_worn" : Str) (defScope s_is_worn) s.heap.objs.size f cdv)) hr (by decide)
    exact (ib_cons (is_if (IsW.t (iw_or (it_not (it_val (ie_isinst (by rfl) T.z_isinstance (by rfl) T.z_tuple (by decide +kernel) (.v (pv 0)) k_tuple))) (iw_or1 (it_not (it_chain op_leA od_le op_leA od_le (.e ie_int) (.e (ie_blt call_len cd_len (by rfl) T.z_len PySem.boot_len (ia_cons (.v (pv 0)) .nil))) (.e (ie_gint (by rfl) T.z_MOST_QUIRES.choose_spec))))))) (ib_one (is_ret ie_bl)) ib_nil)
    (ib_cons (is_for PassesOwn.never rfl (ii_seq (ie_var (pv 0))) (ig_name (i := 1) sc_is_worn.nd rfl (Or.inl rfl)) (ib_cons (is_if (IsW.t (iw_or (it_not (it_val (ie_isinst (by rfl) T.z_isinstance (by rfl) T.z_tuple (by decide +kernel) (.v (pv 1)) k_tuple))) (iw_or (it_cmp (op_neA hr) od_ne (.e (ie_blt call_len cd_len (by rfl) T.z_len PySem.boot_len (ia_cons (.v (pv 1)) .nil))) (.e ie_int) (nomark _)) (iw_or1 (it_not (it_val (ie_call c_is_word (by rfl) (il_cons (ie_ix ix_seq od_idx (.v (pv 1)) (.e ie_int)) il_nil)))))))) (ib_one (is_ret ie_bl)) ib_nil)
    (ib_one (is_if (IsW.t (iw_and (it_cmp op_notN od_isntN (.e (ie_ix ix_seq od_idx (.v (pv 1)) (.e ie_int))) (.e ie_non) (nomark _)) (iw_and (it_cmp (op_neA hr) od_ne (.e (ie_ix ix_seq od_idx (.v (pv 1)) (.e ie_int))) (.e ie_str) (nomark _)) (iw_and1 (it_not (it_val (ie_call c_is_word (by rfl) (il_cons (ie_ix ix_seq od_idx (.v (pv 1)) (.e ie_int)) il_nil)))))))) (ib_one (is_ret ie_bl)) ib_nil))))
    (ib_one (is_ret ie_bl))))
/-! ### told_words -/
abbrev N_told_words : List Str := [("quires" : Str), ("first" : Str), ("catch" : Str)]
theorem sc_told_words : FnScope N_told_words [("quires" : Str)] (defScope s_told_words) := ⟨rfl, rfl, rfl, by decide +kernel, rfl, by decide +kernel, by decide +kernel⟩
def scp_told_words_1 : Scope := { kind := .function, names := [((".0" : Str), .local), (("first" : Str), .local), (("catch" : Str), .local)], isGenerator := false, isCoroutine := false, more := [] }
def ce_told_words_1 : M td := (mtup (mcons (mvar 1) (mcons (mite (asB (mop isND (.v 2) (.e (mcst .non)))) (mcst (.str "")) (mvar 2)) mnil)))
def c_told_words_1 : M td := mlc [1, 2] (iseq (mvar 0)) (gtup 2 (gcons (gset 1) (gcons (gset 2) gnil))) byes ce_told_words_1
def m_told_words : SM td := (sret (mcall 1 f_words_of (mcons c_told_words_1 mnil)))
def f_told_words : FnM td := runFn 3 1 m_told_words
theorem ok_told_words {f : Addr} {fd : FuncData} (F : Fun K ("told_words" : Str) ("told_words" : Str) s_told_words f fd) (T : Tx K mg) (g_words_of : FnAt td P w K mg base 1 ("words_of" : Str) 1 f_words_of) : FnOk P w K mg base CX0 2 f fd [("quires" : Str)] (spD td 1 f_told_words) :=
  fn_ok F sc_told_words fun cdv A outer s H E hr => by
    have c_words_of := g_words_of.fn (A := A.deeper (PyProof.Rows.envOfC ("told_words" : Str) (defScope s_told_words) s.heap.objs.size f cdv)) hr (by decide)
    exact (ib_one (is_ret (ie_call c_words_of (by rfl) (il_cons (IsO.toE (io_lc [(("first" : Str), 1), (("catch" : Str), 2)] rfl sc_told_words.nd (ii_seq (ie_var (pv 0))) (blkOk_by (N := N_told_words) (sc := defScope s_told_words) (scope := scp_told_words_1) (own := [(("first" : Str), 1), (("catch" : Str), 2)]) (by decide +kernel)) (fun _ _ _ _ _ => (ig_tup rfl (igs_cons (ig_name (i := 1) sc_told_words.nd rfl (Or.inl rfl)) (igs_cons (ig_name (i := 2) sc_told_words.nd rfl (Or.inl rfl)) igs_nil)))) (fun _ _ _ _ _ => its_nil) (fun _ _ _ _ _ => (ie_tup (il_cons (ie_var (pv 1)) (il_cons (ie_ite (it_cmp op_isN od_isN (.v (pv 2)) (.e ie_non) (nomark _)) ie_str (ie_var (pv 2))) il_nil)))))) il_nil))))
/-! ### is_mending -/
abbrev N_is_mending : List Str := [("quires" : Str), ("value" : Str), ("k" : Str), ("pair" : Str)]
theorem sc_is_mending : FnScope N_is_mending [("quires" : Str), ("value" : Str)] (defScope s_is_mending) := ⟨rfl, rfl, rfl, by decide +kernel, rfl, by decide +kernel, by decide +kernel⟩
def lb_is_mending_1 : SM td := (scons (sset 3 (mop idxD (.v 1) (.v 2)))
    (scons (sif (bor (bnot (asB (misinst "tuple" (.v 3)))) (bor (asB (mop neD (.e (mfn len1 [(.v 3)])) (.e (mcst (.int 2))))) (asB (mop neD (.e (mop idxD (.v 3) (.e (mcst (.int 0))))) (.e (mop idxD (.e (mop idxD (.v 0) (.v 2))) (.e (mcst (.int 0))))))))) (sret (mcst (.bl false))) snil)
    (scons (sif (bor (bnot (asB (misinst "str" (.e (mop idxD (.v 3) (.e (mcst (.int 1)))))))) (band (asB (mop neD (.e (mop idxD (.v 3) (.e (mcst (.int 1))))) (.e (mcst (.str ""))))) (bnot (asB (mcall 1 f_is_word (mcons (mop idxD (.v 3) (.e (mcst (.int 1)))) mnil)))))) (sret (mcst (.bl false))) snil)
    (sif (band (asB (mop isntND (.e (mop idxD (.e (mop idxD (.v 0) (.v 2))) (.e (mcst (.int 1))))) (.e (mcst .non)))) (asB (mop neD (.e (mop idxD (.v 3) (.e (mcst (.int 1))))) (.e (mop idxD (.e (mop idxD (.v 0) (.v 2))) (.e (mcst (.int 1)))))))) (sret (mcst (.bl false))) snil))))
def l_is_mending_1 : SM td := sfor (irange1 (mcons (mfn len1 [(.v 0)]) mnil)) (gset 2) lb_is_mending_1
def m_is_mending : SM td := (scons (sif (bor (bnot (asB (misinst "tuple" (.v 1)))) (asB (mop neD (.e (mfn len1 [(.v 1)])) (.e (mfn len1 [(.v 0)]))))) (sret (mcst (.bl false))) snil)
    (scons l_is_mending_1
    (sret (mcst (.bl true)))))
def f_is_mending : FnM td := runFn 4 2 m_is_mending
theorem ok_is_mending {f : Addr} {fd : FuncData} (F : Fun K ("is_mending" : Str) ("is_mending" : Str) s_is_mending f fd) (T : Tx K mg) (g_is_word : FnAt td P w K mg base 1 ("is_word" : Str) 1 f_is_word) : FnOk P w K mg base CX0 2 f fd [("quires" : Str), ("value" : Str)] (spD td 2 f_is_mending) :=
  fn_ok F sc_is_mending fun cdv A outer s H E hr => by
    have c_is_word := g_is_word.fn (A := A.deeper (PyProof.Rows.envOfC ("is_mending" : Str) (defScope s_is_mending) s.heap.objs.size f cdv)) hr (by decide)
    exact (ib_cons (is_if (IsW.t (iw_or (it_not (it_val (ie_isinst (by rfl) T.z_isinstance (by rfl) T.z_tuple (by decide +kernel) (.v (pv 1)) k_tuple))) (iw_or1 (it_cmp (op_neA hr) od_ne (.e (ie_blt call_len cd_len (by rfl) T.z_len PySem.boot_len (ia_cons (.v (pv 1)) .nil))) (.e (ie_blt call_len cd_len (by rfl) T.z_len PySem.boot_len (ia_cons (.v (pv 0)) .nil))) (nomark _))))) (ib_one (is_ret ie_bl)) ib_nil)
    (ib_cons (is_for PassesOwn.never rfl (ii_range1 (by rfl) T.z_range (il_cons (ie_blt call_len cd_len (by rfl) T.z_len PySem.boot_len (ia_cons (.v (pv 0)) .nil)) il_nil)) (ig_name (i := 2) sc_is_mending.nd rfl (Or.inl rfl)) (ib_cons (is_set (i := 3) sc_is_mending.nd rfl (Or.inl rfl) (ie_ix ix_seq od_idx (.v (pv 1)) (.v (pv 2))))
    (ib_cons (is_if (IsW.t (iw_or (it_not (it_val (ie_isinst (by rfl) T.z_isinstance (by rfl) T.z_tuple (by decide +kernel) (.v (pv 3)) k_tuple))) (iw_or (it_cmp (op_neA hr) od_ne (.e (ie_blt call_len cd_len (by rfl) T.z_len PySem.boot_len (ia_cons (.v (pv 3)) .nil))) (.e ie_int) (nomark _)) (iw_or1 (it_cmp (op_neA hr) od_ne (.e (ie_ix ix_seq od_idx (.v (pv 3)) (.e ie_int))) (.e (ie_ix ix_seq od_idx (.e (ie_ix ix_seq od_idx (.v (pv 0)) (.v (pv 2)))) (.e ie_int))) (nomark _)))))) (ib_one (is_ret ie_bl)) ib_nil)
    (ib_cons (is_if (IsW.t (iw_or (it_not (it_val (ie_isinst (by rfl) T.z_isinstance (by rfl) T.z_str (by decide +kernel) (.e (ie_ix ix_seq od_idx (.v (pv 3)) (.e ie_int))) k_str))) (iw_or1 (IsW.t (iw_and (it_cmp (op_neA hr) od_ne (.e (ie_ix ix_seq od_idx (.v (pv 3)) (.e ie_int))) (.e ie_str) (nomark _)) (iw_and1 (it_not (it_val (ie_call c_is_word (by rfl) (il_cons (ie_ix ix_seq od_idx (.v (pv 3)) (.e ie_int)) il_nil)))))))))) (ib_one (is_ret ie_bl)) ib_nil)
    (ib_one (is_if (IsW.t (iw_and (it_cmp op_notN od_isntN (.e (ie_ix ix_seq od_idx (.e (ie_ix ix_seq od_idx (.v (pv 0)) (.v (pv 2)))) (.e ie_int))) (.e ie_non) (nomark _)) (iw_and1 (it_cmp (op_neA hr) od_ne (.e (ie_ix ix_seq od_idx (.v (pv 3)) (.e ie_int))) (.e (ie_ix ix_seq od_idx (.e (ie_ix ix_seq od_idx (.v (pv 0)) (.v (pv 2)))) (.e ie_int))) (nomark _))))) (ib_one (is_ret ie_bl)) ib_nil))))))
    (ib_one (is_ret ie_bl))))
/-! ### _law_pick -/
abbrev N__law_pick : List Str := [("tape" : Str), ("row" : Str)]
theorem sc__law_pick : FnScope N__law_pick [("tape" : Str), ("row" : Str)] (defScope s__law_pick) := ⟨rfl, rfl, rfl, by decide +kernel, rfl, by decide +kernel, by decide +kernel⟩
def m__law_pick : SM td := (sret (mop idxD (.v 1) (.e (mcall 2 f__law_next (mcons (mvar 0) (mcons (mfn len1 [(.v 1)]) mnil))))))
def f__law_pick : FnM td := runFn 2 2 m__law_pick
theorem ok__law_pick {f : Addr} {fd : FuncData} (F : Fun K ("_law_pick" : Str) ("_law_pick" : Str) s__law_pick f fd) (T : Tx K mg) (g__law_next : FnAt td P w K mg base 1 ("_law_next" : Str) 2 f__law_next) : FnOk P w K mg base CX0 2 f fd [("tape" : Str), ("row" : Str)] (spD td 2 f__law_pick) :=
  fn_ok F sc__law_pick fun cdv A outer s H E hr => by
    have c__law_next := g__law_next.fn (A := A.deeper (PyProof.Rows.envOfC ("_law_pick" : Str) (defScope s__law_pick) s.heap.objs.size f cdv)) hr (by decide)
    exact (ib_one (is_ret (ie_ix ix_seq od_idx (.v (pv 1)) (.e (ie_call c__law_next (by rfl) (il_cons (ie_var (pv 0)) (il_cons (ie_blt call_len cd_len (by rfl) T.z_len PySem.boot_len (ia_cons (.v (pv 1)) .nil)) il_nil)))))))
/-! ### _law_is_bar -/
abbrev N__law_is_bar : List Str := [("quires" : Str), ("kind" : Str), ("what" : Str), ("ends" : Str), ("lost" : Str), ("rest" : Str), ("k" : Str), ("pair" : Str), ("word" : Str)]
theorem sc__law_is_bar : FnScope N__law_is_bar [("quires" : Str), ("kind" : Str), ("what" : Str)] (defScope s__law_is_bar) := ⟨rfl, rfl, rfl, by decide +kernel, rfl, by decide +kernel, by decide +kernel⟩
def scp__law_is_bar_1 : Scope := { kind := .function, names := [((".0" : Str), .local), (("k" : Str), .local), (("quires" : Str), .free)], isGenerator := false, isCoroutine := false, more := [] }
def scp__law_is_bar_2 : Scope := { kind := .function, names := [((".0" : Str), .local), (("word" : Str), .local), (("rest" : Str), .free)], isGenerator := false, isCoroutine := false, more := [] }
def scp__law_is_bar_3 : Scope := { kind := .function, names := [((".0" : Str), .local), (("k" : Str), .local), (("quires" : Str), .free), (("what" : Str), .free)], isGenerator := false, isCoroutine := false, more := [] }
def scp__law_is_bar_4 : Scope := { kind := .function, names := [((".0" : Str), .local), (("k" : Str), .local), (("len" : Str), .globalImplicit), (("ends" : Str), .free), (("lost" : Str), .free), (("quires" : Str), .free)], isGenerator := false, isCoroutine := false, more := [] }
def scp__law_is_bar_5 : Scope := { kind := .function, names := [((".0" : Str), .local), (("pair" : Str), .local), (("what" : Str), .free)], isGenerator := false, isCoroutine := false, more := [] }
def scp__law_is_bar_6 : Scope := { kind := .function, names := [((".0" : Str), .local), (("pair" : Str), .local), (("what" : Str), .free)], isGenerator := false, isCoroutine := false, more := [] }
def scp__law_is_bar_7 : Scope := { kind := .function, names := [((".0" : Str), .local), (("k" : Str), .local), (("quires" : Str), .free)], isGenerator := false, isCoroutine := false, more := [] }
def scp__law_is_bar_8 : Scope := { kind := .function, names := [((".0" : Str), .local), (("k" : Str), .local), (("quires" : Str), .free)], isGenerator := false, isCoroutine := false, more := [] }
def ce__law_is_bar_1 : M td := (mop idxD (.v 0) (.v 6))
def c__law_is_bar_1 : M td := mlc [6] (iseq (mvar 2)) (gset 6) byes ce__law_is_bar_1
def ce__law_is_bar_2 : M td := (mop notinD (.v 8) (.v 5))
def c__law_is_bar_2 : M td := mlc [8] (iseq (mcall 1 f__law_told_words (mcons c__law_is_bar_1 mnil))) (gset 8) byes ce__law_is_bar_2
def ce__law_is_bar_3 : M td := (mop idxD (.v 0) (.v 6))
def ct__law_is_bar_1 : MB td := (asB (mop notinD (.v 6) (.v 2)))
def c__law_is_bar_3 : M td := mlc [6] (irange1 (mcons (mfn len1 [(.v 0)]) mnil)) (gset 6) ct__law_is_bar_1 ce__law_is_bar_3
def ce__law_is_bar_4 : M td := (mand (mchain leD ltD (.e (mcst (.int 0))) (.v 6) (.e (mfn len1 [(.v 0)]))) (mand (mop notinD (.v 6) (.v 3)) (mop notinD (.v 6) (.v 4))))
def c__law_is_bar_4 : M td := mlc [6] (iseq (mvar 2)) (gset 6) byes ce__law_is_bar_4
def ce__law_is_bar_5 : M td := (mcst (.int 1))
def ct__law_is_bar_2 : MB td := (asB (mop eqD (.e (mop idxD (.v 7) (.e (mcst (.int 1))))) (.v 2)))
def c__law_is_bar_5 : M td := mlc [7] (iseq (mvar 0)) (gset 7) ct__law_is_bar_2 ce__law_is_bar_5
def ce__law_is_bar_6 : M td := (mcst (.int 1))
def ct__law_is_bar_3 : MB td := (asB (mop eqD (.e (mop idxD (.v 7) (.e (mcst (.int 0))))) (.v 2)))
def c__law_is_bar_6 : M td := mlc [7] (iseq (mvar 0)) (gset 7) ct__law_is_bar_3 ce__law_is_bar_6
def ce__law_is_bar_7 : M td := (mvar 6)
def ct__law_is_bar_4 : MB td := (asB (mop isND (.e (mop idxD (.e (mop idxD (.v 0) (.v 6))) (.e (mcst (.int 1))))) (.e (mcst .non))))
def c__law_is_bar_7 : M td := mlc [6] (irange1 (mcons (mfn len1 [(.v 0)]) mnil)) (gset 6) ct__law_is_bar_4 ce__law_is_bar_7
def ce__law_is_bar_8 : M td := (mvar 6)
def ct__law_is_bar_5 : MB td := (asB (mop eqD (.e (mop idxD (.e (mop idxD (.v 0) (.v 6))) (.e (mcst (.int 1))))) (.e (mcst (.str "")))))
def c__law_is_bar_8 : M td := mlc [6] (irange1 (mcons (mfn len1 [(.v 0)]) mnil)) (gset 6) ct__law_is_bar_5 ce__law_is_bar_8
def m__law_is_bar : SM td := (scons (sset 3 (mfn tuple1 [(.e c__law_is_bar_8)]))
    (scons (sset 4 c__law_is_bar_7)
    (scons (sif (asB (mop eqD (.v 1) (.e (mcst (.str "ends"))))) (sret (mand (mop eqD (.v 2) (.v 3)) (mor (mop gtD (.e (mfn len1 [(.v 3)])) (.e (mcst (.int 1)))) (mand (mop eqD (.v 3) (.e (mtup mnil))) (mop eqD (.v 4) (.e (mlst mnil))))))) snil)
    (scons (sif (asB (mop eqD (.v 1) (.e (mcst (.str "word"))))) (sret (mand (misinst "str" (.v 2)) (mand (mop neD (.v 2) (.e (mcst (.str "")))) (mop gtD (.e (mfn len1 [(.e c__law_is_bar_5)])) (.e (mfn len1 [(.e c__law_is_bar_6)])))))) snil)
    (scons (sif (bor (asB (mop neD (.v 1) (.e (mcst (.str "lot"))))) (bor (bnot (asB (misinst "tuple" (.v 2)))) (bor (asB (mop neD (.e (mfnL list1 [(.v 2)])) (.e (msortT (.v 2))))) (asB (mop inD (.e (mfn len1 [(.v 2)])) (.e (mtup (mcons (mcst (.int 0)) (mcons (mfn len1 [(.v 0)]) mnil))))))))) (sret (mcst (.bl false))) snil)
    (scons (sif (bnot (asB (mfn all1 [(.e c__law_is_bar_4)]))) (sret (mcst (.bl false))) snil)
    (scons (sset 5 (mcall 1 f__law_told_words (mcons c__law_is_bar_3 mnil)))
    (sret (mfn all1 [(.e c__law_is_bar_2)])))))))))
def f__law_is_bar : FnM td := runFn 9 3 m__law_is_bar
theorem ok__law_is_bar {f : Addr} {fd : FuncData} (F : Fun K ("_law_is_bar" : Str) ("_law_is_bar" : Str) s__law_is_bar f fd) (T : Tx K mg) (g__law_told_words : FnAt td P w K mg base 1 ("_law_told_words" : Str) 1 f__law_told_words) : FnOk P w K mg base CX0 2 f fd [("quires" : Str), ("kind" : Str), ("what" : Str)] (spD td 3 f__law_is_bar) :=
  fn_ok F sc__law_is_bar fun cdv A outer s H E hr => by
    have c__law_told_words := g__law_told_words.fn (A := A.deeper (PyProof.Rows.envOfC ("_law_is_bar" : Str) (defScope s__law_is_bar) s.heap.objs.size f cdv)) hr (by decide)
    exact (ib_cons (is_set (i := 3) sc__law_is_bar.nd rfl (Or.inr rfl) (ie_ty call_tuple_F cd_tuple (by rfl) T.z_tuple PyProof.Rows.boot_tuple (ia_cons (.e (IsO.toE (io_lc [(("k" : Str), 6)] rfl sc__law_is_bar.nd (ii_range1 (by rfl) T.z_range (il_cons (ie_blt call_len cd_len (by rfl) T.z_len PySem.boot_len (ia_cons (.v (pv 0)) .nil)) il_nil)) (blkOk_by (N := N__law_is_bar) (sc := defScope s__law_is_bar) (scope := scp__law_is_bar_8) (own := [(("k" : Str), 6)]) (by decide +kernel)) (fun _ _ _ _ _ => (ig_name (i := 6) sc__law_is_bar.nd rfl (Or.inl rfl))) (fun _ _ _ _ _ => (its_one (it_cmp (op_eqA hr) od_eq (.e (ie_ix ix_seq od_idx (.e (ie_ix ix_seq od_idx (.v (pv 0)) (.v (pv 6)))) (.e ie_int))) (.e ie_str) (nomark _)))) (fun _ _ _ _ _ => (ie_var (pv 6)))))) .nil)))
    (ib_cons (is_set (i := 4) sc__law_is_bar.nd rfl (Or.inr rfl) (IsO.toE (io_lc [(("k" : Str), 6)] rfl sc__law_is_bar.nd (ii_range1 (by rfl) T.z_range (il_cons (ie_blt call_len cd_len (by rfl) T.z_len PySem.boot_len (ia_cons (.v (pv 0)) .nil)) il_nil)) (blkOk_by (N := N__law_is_bar) (sc := defScope s__law_is_bar) (scope := scp__law_is_bar_7) (own := [(("k" : Str), 6)]) (by decide +kernel)) (fun _ _ _ _ _ => (ig_name (i := 6) sc__law_is_bar.nd rfl (Or.inl rfl))) (fun _ _ _ _ _ => (its_one (it_cmp op_isN od_isN (.e (ie_ix ix_seq od_idx (.e (ie_ix ix_seq od_idx (.v (pv 0)) (.v (pv 6)))) (.e ie_int))) (.e ie_non) (nomark _)))) (fun _ _ _ _ _ => (ie_var (pv 6))))))
    (ib_cons (is_if (it_cmp (op_eqA hr) od_eq (.v (pv 1)) (.e ie_str) (nomark _)) (ib_one (is_ret (ie_and (ie_cmp (op_eqA hr) od_eq (.v (pv 2)) (.v (pv 3)) (nomark _)) (ie_one (ie_or (ie_cmp op_gtA od_gt (.e (ie_blt call_len cd_len (by rfl) T.z_len PySem.boot_len (ia_cons (.v (pv 3)) .nil))) (.e ie_int) (nomark _)) (ie_one (ie_and (ie_cmp (op_eqA hr) od_eq (.v (pv 3)) (.e (ie_tup il_nil)) (nomark _)) (ie_one (ie_cmp (op_eqA hr) od_eq (.v (pv 4)) (.e (IsO.toE (io_lst il_nil))) (nomark _)))))))))) ib_nil)
    (ib_cons (is_if (it_cmp (op_eqA hr) od_eq (.v (pv 1)) (.e ie_str) (nomark _)) (ib_one (is_ret (ie_and (ie_isinst (by rfl) T.z_isinstance (by rfl) T.z_str (by decide +kernel) (.v (pv 2)) k_str) (ie_and (ie_cmp (op_neA hr) od_ne (.v (pv 2)) (.e ie_str) (nomark _)) (ie_one (ie_cmp op_gtA od_gt (.e (ie_blt call_len cd_len (by rfl) T.z_len PySem.boot_len (ia_cons (.e (IsO.toE (io_lc [(("pair" : Str), 7)] rfl sc__law_is_bar.nd (ii_seq (ie_var (pv 0))) (blkOk_by (N := N__law_is_bar) (sc := defScope s__law_is_bar) (scope := scp__law_is_bar_5) (own := [(("pair" : Str), 7)]) (by decide +kernel)) (fun _ _ _ _ _ => (ig_name (i := 7) sc__law_is_bar.nd rfl (Or.inl rfl))) (fun _ _ _ _ _ => (its_one (it_cmp (op_eqA hr) od_eq (.e (ie_ix ix_seq od_idx (.v (pv 7)) (.e ie_int))) (.v (pv 2)) (nomark _)))) (fun _ _ _ _ _ => ie_int)))) .nil))) (.e (ie_blt call_len cd_len (by rfl) T.z_len PySem.boot_len (ia_cons (.e (IsO.toE (io_lc [(("pair" : Str), 7)] rfl sc__law_is_bar.nd (ii_seq (ie_var (pv 0))) (blkOk_by (N := N__law_is_bar) (sc := defScope s__law_is_bar) (scope := scp__law_is_bar_6) (own := [(("pair" : Str), 7)]) (by decide +kernel)) (fun _ _ _ _ _ => (ig_name (i := 7) sc__law_is_bar.nd rfl (Or.inl rfl))) (fun _ _ _ _ _ => (its_one (it_cmp (op_eqA hr) od_eq (.e (ie_ix ix_seq od_idx (.v (pv 7)) (.e ie_int))) (.v (pv 2)) (nomark _)))) (fun _ _ _ _ _ => ie_int)))) .nil))) (nomark _))))))) ib_nil)
    (ib_cons (is_if (IsW.t (iw_or (it_cmp (op_neA hr) od_ne (.v (pv 1)) (.e ie_str) (nomark _)) (iw_or (it_not (it_val (ie_isinst (by rfl) T.z_isinstance (by rfl) T.z_tuple (by decide +kernel) (.v (pv 2)) k_tuple))) (iw_or (it_cmp (op_neA hr) od_ne (.e (IsO.toE (io_ty call_list_of cn_list (by rfl) T.z_list PyProof.Rows.boot_list (ia_cons (.v (pv 2)) .nil)))) (.e (IsO.toE (io_sortT (by rfl) T.z_sorted (by rfl) T.z_set (.v (pv 2)) rfl))) (nomark _)) (iw_or1 (it_cmp (op_inA hr) od_in (.e (ie_blt call_len cd_len (by rfl) T.z_len PySem.boot_len (ia_cons (.v (pv 2)) .nil))) (.e (ie_tup (il_cons ie_int (il_cons (ie_blt call_len cd_len (by rfl) T.z_len PySem.boot_len (ia_cons (.v (pv 0)) .nil)) il_nil)))) (by with_unfolding_all rfl))))))) (ib_one (is_ret ie_bl)) ib_nil)
    (ib_cons (is_if (it_not (it_val (ie_blt (cr_all rfl) cd_all (by rfl) T.z_all PyProof.Rows.boot_all (ia_cons (.e (IsO.toE (io_lc [(("k" : Str), 6)] rfl sc__law_is_bar.nd (ii_seq (ie_var (pv 2))) (blkOk_by (N := N__law_is_bar) (sc := defScope s__law_is_bar) (scope := scp__law_is_bar_4) (own := [(("k" : Str), 6)]) (by decide +kernel)) (fun _ _ _ _ _ => (ig_name (i := 6) sc__law_is_bar.nd rfl (Or.inl rfl))) (fun _ _ _ _ _ => its_nil) (fun _ _ _ _ _ => (ie_and (ie_chain op_leA od_le op_ltA od_lt (.e ie_int) (.v (pv 6)) (.e (ie_blt call_len cd_len (by rfl) T.z_len PySem.boot_len (ia_cons (.v (pv 0)) .nil)))) (ie_and (ie_cmp (op_notInA hr) od_notin (.v (pv 6)) (.v (pv 3)) (by with_unfolding_all rfl)) (ie_one (ie_cmp (op_notInA hr) od_notin (.v (pv 6)) (.v (pv 4)) (by with_unfolding_all rfl))))))))) .nil)))) (ib_one (is_ret ie_bl)) ib_nil)
    (ib_cons (is_set (i := 5) sc__law_is_bar.nd rfl (Or.inr rfl) (ie_call c__law_told_words (by rfl) (il_cons (IsO.toE (io_lc [(("k" : Str), 6)] rfl sc__law_is_bar.nd (ii_range1 (by rfl) T.z_range (il_cons (ie_blt call_len cd_len (by rfl) T.z_len PySem.boot_len (ia_cons (.v (pv 0)) .nil)) il_nil)) (blkOk_by (N := N__law_is_bar) (sc := defScope s__law_is_bar) (scope := scp__law_is_bar_3) (own := [(("k" : Str), 6)]) (by decide +kernel)) (fun _ _ _ _ _ => (ig_name (i := 6) sc__law_is_bar.nd rfl (Or.inl rfl))) (fun _ _ _ _ _ => (its_one (it_cmp (op_notInA hr) od_notin (.v (pv 6)) (.v (pv 2)) (by with_unfolding_all rfl)))) (fun _ _ _ _ _ => (ie_ix ix_seq od_idx (.v (pv 0)) (.v (pv 6)))))) il_nil)))
    (ib_one (is_ret (ie_blt (cr_all rfl) cd_all (by rfl) T.z_all PyProof.Rows.boot_all (ia_cons (.e (IsO.toE (io_lc [(("word" : Str), 8)] rfl sc__law_is_bar.nd (ii_seq (ie_call c__law_told_words (by rfl) (il_cons (IsO.toE (io_lc [(("k" : Str), 6)] rfl sc__law_is_bar.nd (ii_seq (ie_var (pv 2))) (blkOk_by (N := N__law_is_bar) (sc := defScope s__law_is_bar) (scope := scp__law_is_bar_1) (own := [(("k" : Str), 6)]) (by decide +kernel)) (fun _ _ _ _ _ => (ig_name (i := 6) sc__law_is_bar.nd rfl (Or.inl rfl))) (fun _ _ _ _ _ => its_nil) (fun _ _ _ _ _ => (ie_ix ix_seq od_idx (.v (pv 0)) (.v (pv 6)))))) il_nil))) (blkOk_by (N := N__law_is_bar) (sc := defScope s__law_is_bar) (scope := scp__law_is_bar_2) (own := [(("word" : Str), 8)]) (by decide +kernel)) (fun _ _ _ _ _ => (ig_name (i := 8) sc__law_is_bar.nd rfl (Or.inl rfl))) (fun _ _ _ _ _ => its_nil) (fun _ _ _ _ _ => (ie_cmp (op_notInA hr) od_notin (.v (pv 8)) (.v (pv 5)) (by with_unfolding_all rfl)))))) .nil)))))))))))
/-! ### is_bar -/
abbrev N_is_bar : List Str := [("quires" : Str), ("value" : Str), ("ends" : Str), ("mine" : Str), ("theirs" : Str), ("k" : Str), ("_" : Str), ("catch" : Str), ("word" : Str)]
theorem sc_is_bar : FnScope N_is_bar [("quires" : Str), ("value" : Str)] (defScope s_is_bar) := ⟨rfl, rfl, rfl, by decide +kernel, rfl, by decide +kernel, by decide +kernel⟩
def scp_is_bar_1 : Scope := { kind := .function, names := [((".0" : Str), .local), (("word" : Str), .local), (("theirs" : Str), .free)], isGenerator := false, isCoroutine := false, more := [] }
def scp_is_bar_2 : Scope := { kind := .function, names := [((".0" : Str), .local), (("k" : Str), .local), (("quires" : Str), .free), (("value" : Str), .free)], isGenerator := false, isCoroutine := false, more := [] }
def scp_is_bar_3 : Scope := { kind := .function, names := [((".0" : Str), .local), (("k" : Str), .local), (("quires" : Str), .free)], isGenerator := false, isCoroutine := false, more := [] }
def scp_is_bar_4 : Scope := { kind := .function, names := [((".0" : Str), .local), (("k" : Str), .local), (("quires" : Str), .free)], isGenerator := false, isCoroutine := false, more := [] }
def scp_is_bar_5 : Scope := { kind := .function, names := [((".0" : Str), .local), (("k" : Str), .local), (("is_whole" : Str), .globalImplicit), (("len" : Str), .globalImplicit), (("quires" : Str), .free)], isGenerator := false, isCoroutine := false, more := [] }
def scp_is_bar_6 : Scope := { kind := .function, names := [((".0" : Str), .local), (("_" : Str), .local), (("catch" : Str), .local)], isGenerator := false, isCoroutine := false, more := [] }
def scp_is_bar_7 : Scope := { kind := .function, names := [((".0" : Str), .local), (("k" : Str), .local), (("quires" : Str), .free)], isGenerator := false, isCoroutine := false, more := [] }
def ce_is_bar_1 : M td := (mop notinD (.v 8) (.v 4))
def c_is_bar_1 : M td := mlc [8] (iseq (mvar 3)) (gset 8) byes ce_is_bar_1
def ce_is_bar_2 : M td := (mop idxD (.v 0) (.v 5))
def ct_is_bar_1 : MB td := (asB (mop notinD (.v 5) (.e (mop idxD (.v 1) (.e (mcst (.int 1)))))))
def c_is_bar_2 : M td := mlc [5] (irange1 (mcons (mfn len1 [(.v 0)]) mnil)) (gset 5) ct_is_bar_1 ce_is_bar_2
def ce_is_bar_3 : M td := (mop idxD (.v 0) (.v 5))
def c_is_bar_3 : M td := mlc [5] (iseq (mop idxD (.v 1) (.e (mcst (.int 1))))) (gset 5) byes ce_is_bar_3
def ce_is_bar_4 : M td := (mor (mop isND (.e (mop idxD (.e (mop idxD (.v 0) (.v 5))) (.e (mcst (.int 1))))) (.e (mcst .non))) (mop eqD (.e (mop idxD (.e (mop idxD (.v 0) (.v 5))) (.e (mcst (.int 1))))) (.e (mcst (.str "")))))
def c_is_bar_4 : M td := mlc [5] (iseq (mop idxD (.v 1) (.e (mcst (.int 1))))) (gset 5) byes ce_is_bar_4
def ce_is_bar_5 : M td := (mcall 3 f_is_whole (mcons (mvar 5) (mcons (mcst (.int 0)) (mcons (mop subD (.e (mfn len1 [(.v 0)])) (.e (mcst (.int 1)))) mnil))))
def c_is_bar_5 : M td := mlc [5] (iseq (mop idxD (.v 1) (.e (mcst (.int 1))))) (gset 5) byes ce_is_bar_5
def ce_is_bar_6 : M td := (mop isND (.v 7) (.e (mcst .non)))
def c_is_bar_6 : M td := mlc [6, 7] (iseq (mvar 0)) (gtup 2 (gcons (gset 6) (gcons (gset 7) gnil))) byes ce_is_bar_6
def ce_is_bar_7 : M td := (mvar 5)
def ct_is_bar_2 : MB td := (asB (mop eqD (.e (mop idxD (.e (mop idxD (.v 0) (.v 5))) (.e (mcst (.int 1))))) (.e (mcst (.str "")))))
def c_is_bar_7 : M td := mlc [5] (irange1 (mcons (mfn len1 [(.v 0)]) mnil)) (gset 5) ct_is_bar_2 ce_is_bar_7
def m_is_bar : SM td := (scons (sif (bor (bnot (asB (misinst "tuple" (.v 1)))) (bor (asB (mop neD (.e (mfn len1 [(.v 1)])) (.e (mcst (.int 2))))) (bnot (asB (misinst "str" (.e (mop idxD (.v 1) (.e (mcst (.int 0)))))))))) (sret (mcst (.bl false))) snil)
    (scons (sif (asB (mop eqD (.e (mop idxD (.v 1) (.e (mcst (.int 0))))) (.e (mcst (.str "ends"))))) (scons (sset 2 (mfn tuple1 [(.e c_is_bar_7)]))
    (scons (sif (band (asB (mop eqD (.e (mfn len1 [(.v 2)])) (.e (mcst (.int 0))))) (asB (mfn any1 [(.e c_is_bar_6)]))) (sret (mcst (.bl false))) snil)
    (sret (mand (mcall 3 f_is_ascending (mcons (mop idxD (.v 1) (.e (mcst (.int 1)))) (mcons (mcst (.int 0)) (mcons (mop subD (.e (mfn len1 [(.v 0)])) (.e (mcst (.int 1)))) mnil)))) (mand (mop eqD (.e (mop idxD (.v 1) (.e (mcst (.int 1))))) (.v 2)) (mop neD (.e (mfn len1 [(.v 2)])) (.e (mcst (.int 1))))))))) snil)
    (scons (sif (asB (mop eqD (.e (mop idxD (.v 1) (.e (mcst (.int 0))))) (.e (mcst (.str "word"))))) (sret (mand (mcall 1 f_is_word (mcons (mop idxD (.v 1) (.e (mcst (.int 1)))) mnil)) (mop ltD (.e (mcall 2 f_lack (mcons (mvar 0) (mcons (mop idxD (.v 1) (.e (mcst (.int 1)))) mnil)))) (.e (mcst (.int 0)))))) snil)
    (scons (sif (bor (asB (mop neD (.e (mop idxD (.v 1) (.e (mcst (.int 0))))) (.e (mcst (.str "lot"))))) (bnot (asB (mcall 3 f_is_ascending (mcons (mop idxD (.v 1) (.e (mcst (.int 1)))) (mcons (mcst (.int 0)) (mcons (mop subD (.e (mfn len1 [(.v 0)])) (.e (mcst (.int 1)))) mnil))))))) (sret (mcst (.bl false))) snil)
    (scons (sif (bor (bnot (asB (mchain leD ltD (.e (mcst (.int 1))) (.e (mfn len1 [(.e (mop idxD (.v 1) (.e (mcst (.int 1)))))])) (.e (mfn len1 [(.v 0)]))))) (bnot (asB (mfn all1 [(.e c_is_bar_5)])))) (sret (mcst (.bl false))) snil)
    (scons (sif (asB (mfn any1 [(.e c_is_bar_4)])) (sret (mcst (.bl false))) snil)
    (scons (sset 3 (mcall 1 f_told_words (mcons c_is_bar_3 mnil)))
    (scons (sset 4 (mcall 1 f_told_words (mcons c_is_bar_2 mnil)))
    (sret (mfn all1 [(.e c_is_bar_1)]))))))))))
def f_is_bar : FnM td := runFn 9 2 m_is_bar
theorem ok_is_bar {f : Addr} {fd : FuncData} (F : Fun K ("is_bar" : Str) ("is_bar" : Str) s_is_bar f fd) (T : Tx K mg) (g_told_words : FnAt td P w K mg base 2 ("told_words" : Str) 1 f_told_words) (g_is_whole : FnAt td P w K mg base 1 ("is_whole" : Str) 3 f_is_whole) (g_is_ascending : FnAt td P w K mg base 2 ("is_ascending" : Str) 3 f_is_ascending) (g_lack : FnAt td P w K mg base 1 ("lack" : Str) 2 f_lack) (g_is_word : FnAt td P w K mg base 1 ("is_word" : Str) 1 f_is_word) : FnOk P w K mg base CX0 3 f fd [("quires" : Str), ("value" : Str)] (spD td 2 f_is_bar) :=
  fn_ok F sc_is_bar fun cdv A outer s H E hr => by
    have c_told_words := g_told_words.fn (A := A.deeper (PyProof.Rows.envOfC ("is_bar" : Str) (defScope s_is_bar) s.heap.objs.size f cdv)) hr (by decide)
    have c_is_whole := g_is_whole.fn (A := A.deeper (PyProof.Rows.envOfC ("is_bar" : Str) (defScope s_is_bar) s.heap.objs.size f cdv)) hr (by decide)
    have c_is_ascending := g_is_ascending.fn (A := A.deeper (PyProof.Rows.envOfC ("is_bar" : Str) (defScope s_is_bar) s.heap.objs.size f cdv)) hr (by decide)
    have c_lack := g_lack.fn (A := A.deeper (PyProof.Rows.envOfC ("is_bar" : Str) (defScope s_is_bar) s.heap.objs.size f cdv)) hr (by decide)
    have c_is_word := g_is_word.fn (A := A.deeper (PyProof.Rows.envOfC ("is_bar" : Str) (defScope s_is_bar) s.heap.objs.size f cdv)) hr (by decide)
    exact (ib_cons (is_if (IsW.t (iw_or (it_not (it_val (ie_isinst (by rfl) T.z_isinstance (by rfl) T.z_tuple (by decide +kernel) (.v (pv 1)) k_tuple))) (iw_or (it_cmp (op_neA hr) od_ne (.e (ie_blt call_len cd_len (by rfl) T.z_len PySem.boot_len (ia_cons (.v (pv 1)) .nil))) (.e ie_int) (nomark _)) (iw_or1 (it_not (it_val (ie_isinst (by rfl) T.z_isinstance (by rfl) T.z_str (by decide +kernel) (.e (ie_ix ix_seq od_idx (.v (pv 1)) (.e ie_int))) k_str))))))) (ib_one (is_ret ie_bl)) ib_nil)
    (ib_cons (is_if (it_cmp (op_eqA hr) od_eq (.e (ie_ix ix_seq od_idx (.v (pv 1)) (.e ie_int))) (.e ie_str) (nomark _)) (ib_cons (is_set (i := 2) sc_is_bar.nd rfl (Or.inl rfl) (ie_ty call_tuple_F cd_tuple (by rfl) T.z_tuple PyProof.Rows.boot_tuple (ia_cons (.e (IsO.toE (io_lc [(("k" : Str), 5)] rfl sc_is_bar.nd (ii_range1 (by rfl) T.z_range (il_cons (ie_blt call_len cd_len (by rfl) T.z_len PySem.boot_len (ia_cons (.v (pv 0)) .nil)) il_nil)) (blkOk_by (N := N_is_bar) (sc := defScope s_is_bar) (scope := scp_is_bar_7) (own := [(("k" : Str), 5)]) (by decide +kernel)) (fun _ _ _ _ _ => (ig_name (i := 5) sc_is_bar.nd rfl (Or.inl rfl))) (fun _ _ _ _ _ => (its_one (it_cmp (op_eqA hr) od_eq (.e (ie_ix ix_seq od_idx (.e (ie_ix ix_seq od_idx (.v (pv 0)) (.v (pv 5)))) (.e ie_int))) (.e ie_str) (nomark _)))) (fun _ _ _ _ _ => (ie_var (pv 5)))))) .nil)))
    (ib_cons (is_if (IsW.t (iw_and (it_cmp (op_eqA hr) od_eq (.e (ie_blt call_len cd_len (by rfl) T.z_len PySem.boot_len (ia_cons (.v (pv 2)) .nil))) (.e ie_int) (nomark _)) (iw_and1 (it_val (ie_blt (cr_any rfl) cd_any (by rfl) T.z_any PyProof.Rows.boot_any (ia_cons (.e (IsO.toE (io_lc [(("_" : Str), 6), (("catch" : Str), 7)] rfl sc_is_bar.nd (ii_seq (ie_var (pv 0))) (blkOk_by (N := N_is_bar) (sc := defScope s_is_bar) (scope := scp_is_bar_6) (own := [(("_" : Str), 6), (("catch" : Str), 7)]) (by decide +kernel)) (fun _ _ _ _ _ => (ig_tup rfl (igs_cons (ig_name (i := 6) sc_is_bar.nd rfl (Or.inl rfl)) (igs_cons (ig_name (i := 7) sc_is_bar.nd rfl (Or.inl rfl)) igs_nil)))) (fun _ _ _ _ _ => its_nil) (fun _ _ _ _ _ => (ie_cmp op_isN od_isN (.v (pv 7)) (.e ie_non) (nomark _)))))) .nil)))))) (ib_one (is_ret ie_bl)) ib_nil)
    (ib_one (is_ret (ie_and (ie_call c_is_ascending (by rfl) (il_cons (ie_ix ix_seq od_idx (.v (pv 1)) (.e ie_int)) (il_cons ie_int (il_cons (ie_op op_sub od_sub (.e (ie_blt call_len cd_len (by rfl) T.z_len PySem.boot_len (ia_cons (.v (pv 0)) .nil))) (.e ie_int)) il_nil)))) (ie_and (ie_cmp (op_eqA hr) od_eq (.e (ie_ix ix_seq od_idx (.v (pv 1)) (.e ie_int))) (.v (pv 2)) (nomark _)) (ie_one (ie_cmp (op_neA hr) od_ne (.e (ie_blt call_len cd_len (by rfl) T.z_len PySem.boot_len (ia_cons (.v (pv 2)) .nil))) (.e ie_int) (nomark _))))))))) ib_nil)
    (ib_cons (is_if (it_cmp (op_eqA hr) od_eq (.e (ie_ix ix_seq od_idx (.v (pv 1)) (.e ie_int))) (.e ie_str) (nomark _)) (ib_one (is_ret (ie_and (ie_call c_is_word (by rfl) (il_cons (ie_ix ix_seq od_idx (.v (pv 1)) (.e ie_int)) il_nil)) (ie_one (ie_cmp op_ltA od_lt (.e (ie_call c_lack (by rfl) (il_cons (ie_var (pv 0)) (il_cons (ie_ix ix_seq od_idx (.v (pv 1)) (.e ie_int)) il_nil)))) (.e ie_int) (nomark _)))))) ib_nil)
    (ib_cons (is_if (IsW.t (iw_or (it_cmp (op_neA hr) od_ne (.e (ie_ix ix_seq od_idx (.v (pv 1)) (.e ie_int))) (.e ie_str) (nomark _)) (iw_or1 (it_not (it_val (ie_call c_is_ascending (by rfl) (il_cons (ie_ix ix_seq od_idx (.v (pv 1)) (.e ie_int)) (il_cons ie_int (il_cons (ie_op op_sub od_sub (.e (ie_blt call_len cd_len (by rfl) T.z_len PySem.boot_len (ia_cons (.v (pv 0)) .nil))) (.e ie_int)) il_nil))))))))) (ib_one (is_ret ie_bl)) ib_nil)
    (ib_cons (is_if (IsW.t (iw_or (it_not (it_chain op_leA od_le op_ltA od_lt (.e ie_int) (.e (ie_blt call_len cd_len (by rfl) T.z_len PySem.boot_len (ia_cons (.e (ie_ix ix_seq od_idx (.v (pv 1)) (.e ie_int))) .nil))) (.e (ie_blt call_len cd_len (by rfl) T.z_len PySem.boot_len (ia_cons (.v (pv 0)) .nil))))) (iw_or1 (it_not (it_val (ie_blt (cr_all rfl) cd_all (by rfl) T.z_all PyProof.Rows.boot_all (ia_cons (.e (IsO.toE (io_lc [(("k" : Str), 5)] rfl sc_is_bar.nd (ii_seq (ie_ix ix_seq od_idx (.v (pv 1)) (.e ie_int))) (blkOk_by (N := N_is_bar) (sc := defScope s_is_bar) (scope := scp_is_bar_5) (own := [(("k" : Str), 5)]) (by decide +kernel)) (fun _ _ _ _ _ => (ig_name (i := 5) sc_is_bar.nd rfl (Or.inl rfl))) (fun _ _ _ _ _ => its_nil) (fun _ _ _ _ _ => (ie_call c_is_whole (by rfl) (il_cons (ie_var (pv 5)) (il_cons ie_int (il_cons (ie_op op_sub od_sub (.e (ie_blt call_len cd_len (by rfl) T.z_len PySem.boot_len (ia_cons (.v (pv 0)) .nil))) (.e ie_int)) il_nil)))))))) .nil))))))) (ib_one (is_ret ie_bl)) ib_nil)
    (ib_cons (is_if (it_val (ie_blt (cr_any rfl) cd_any (by rfl) T.z_any PyProof.Rows.boot_any (ia_cons (.e (IsO.toE (io_lc [(("k" : Str), 5)] rfl sc_is_bar.nd (ii_seq (ie_ix ix_seq od_idx (.v (pv 1)) (.e ie_int))) (blkOk_by (N := N_is_bar) (sc := defScope s_is_bar) (scope := scp_is_bar_4) (own := [(("k" : Str), 5)]) (by decide +kernel)) (fun _ _ _ _ _ => (ig_name (i := 5) sc_is_bar.nd rfl (Or.inl rfl))) (fun _ _ _ _ _ => its_nil) (fun _ _ _ _ _ => (ie_or (ie_cmp op_isN od_isN (.e (ie_ix ix_seq od_idx (.e (ie_ix ix_seq od_idx (.v (pv 0)) (.v (pv 5)))) (.e ie_int))) (.e ie_non) (nomark _)) (ie_one (ie_cmp (op_eqA hr) od_eq (.e (ie_ix ix_seq od_idx (.e (ie_ix ix_seq od_idx (.v (pv 0)) (.v (pv 5)))) (.e ie_int))) (.e ie_str) (nomark _)))))))) .nil))) (ib_one (is_ret ie_bl)) ib_nil)
    (ib_cons (is_set (i := 3) sc_is_bar.nd rfl (Or.inl rfl) (ie_call c_told_words (by rfl) (il_cons (IsO.toE (io_lc [(("k" : Str), 5)] rfl sc_is_bar.nd (ii_seq (ie_ix ix_seq od_idx (.v (pv 1)) (.e ie_int))) (blkOk_by (N := N_is_bar) (sc := defScope s_is_bar) (scope := scp_is_bar_3) (own := [(("k" : Str), 5)]) (by decide +kernel)) (fun _ _ _ _ _ => (ig_name (i := 5) sc_is_bar.nd rfl (Or.inl rfl))) (fun _ _ _ _ _ => its_nil) (fun _ _ _ _ _ => (ie_ix ix_seq od_idx (.v (pv 0)) (.v (pv 5)))))) il_nil)))
    (ib_cons (is_set (i := 4) sc_is_bar.nd rfl (Or.inr rfl) (ie_call c_told_words (by rfl) (il_cons (IsO.toE (io_lc [(("k" : Str), 5)] rfl sc_is_bar.nd (ii_range1 (by rfl) T.z_range (il_cons (ie_blt call_len cd_len (by rfl) T.z_len PySem.boot_len (ia_cons (.v (pv 0)) .nil)) il_nil)) (blkOk_by (N := N_is_bar) (sc := defScope s_is_bar) (scope := scp_is_bar_2) (own := [(("k" : Str), 5)]) (by decide +kernel)) (fun _ _ _ _ _ => (ig_name (i := 5) sc_is_bar.nd rfl (Or.inl rfl))) (fun _ _ _ _ _ => (its_one (it_cmp (op_notInA hr) od_notin (.v (pv 5)) (.e (ie_ix ix_seq od_idx (.v (pv 1)) (.e ie_int))) (by with_unfolding_all rfl)))) (fun _ _ _ _ _ => (ie_ix ix_seq od_idx (.v (pv 0)) (.v (pv 5)))))) il_nil)))
    (ib_one (is_ret (ie_blt (cr_all rfl) cd_all (by rfl) T.z_all PyProof.Rows.boot_all (ia_cons (.e (IsO.toE (io_lc [(("word" : Str), 8)] rfl sc_is_bar.nd (ii_seq (ie_var (pv 3))) (blkOk_by (N := N_is_bar) (sc := defScope s_is_bar) (scope := scp_is_bar_1) (own := [(("word" : Str), 8)]) (by decide +kernel)) (fun _ _ _ _ _ => (ig_name (i := 8) sc_is_bar.nd rfl (Or.inl rfl))) (fun _ _ _ _ _ => its_nil) (fun _ _ _ _ _ => (ie_cmp (op_notInA hr) od_notin (.v (pv 8)) (.v (pv 4)) (by with_unfolding_all rfl)))))) .nil))))))))))))
/-! ### _law_made -/
abbrev N__law_made : List Str := [("tape" : Str), ("words" : Str), ("many" : Str), ("row" : Str), ("whole" : Str), ("left" : Str), ("mixed" : Str), ("mending" : Str), ("quires" : Str), ("k" : Str), ("first" : Str), ("catch" : Str)]
theorem sc__law_made : FnScope N__law_made [("tape" : Str), ("words" : Str)] (defScope s__law_made) := ⟨rfl, rfl, rfl, by decide +kernel, rfl, by decide +kernel, by decide +kernel⟩
def scp__law_made_1 : Scope := { kind := .function, names := [((".0" : Str), .local), (("k" : Str), .local), (("mixed" : Str), .free)], isGenerator := false, isCoroutine := false, more := [] }
def scp__law_made_2 : Scope := { kind := .function, names := [((".0" : Str), .local), (("first" : Str), .local), (("catch" : Str), .local), (("_law_next" : Str), .globalImplicit), (("tape" : Str), .free)], isGenerator := false, isCoroutine := false, more := [] }
def scp__law_made_3 : Scope := { kind := .function, names := [((".0" : Str), .local), (("k" : Str), .local), (("whole" : Str), .free)], isGenerator := false, isCoroutine := false, more := [] }
def scp__law_made_4 : Scope := { kind := .function, names := [((".0" : Str), .local), (("k" : Str), .local), (("_law_next" : Str), .globalImplicit), (("len" : Str), .globalImplicit), (("left" : Str), .free), (("tape" : Str), .free)], isGenerator := false, isCoroutine := false, more := [] }
def scp__law_made_5 : Scope := { kind := .function, names := [((".0" : Str), .local), (("k" : Str), .local), (("row" : Str), .free)], isGenerator := false, isCoroutine := false, more := [] }
def scp__law_made_6 : Scope := { kind := .function, names := [((".0" : Str), .local), (("k" : Str), .local), (("_law_pick" : Str), .globalImplicit), (("tape" : Str), .free), (("words" : Str), .free)], isGenerator := false, isCoroutine := false, more := [] }
def ce__law_made_1 : M td := (mmt "list" (fun x ys => match x with | .lst ds => indexG (.lst ds) ys | _ => none) (.v 6) [(.v 9)])
def c__law_made_1 : M td := mlc [9] (irange1 (mcons (mvar 2) mnil)) (gset 9) byes ce__law_made_1
def ce__law_made_2 : M td := (mtup (mcons (mvar 10) (mcons (mite (asB (mop eqD (.e (mcall 2 f__law_next (mcons (mvar 0) (mcons (mcst (.int 3)) mnil)))) (.e (mcst (.int 0))))) (mcst .non) (mvar 11)) mnil)))
def c__law_made_2 : M td := mlc [10, 11] (iseq (mvar 7)) (gtup 2 (gcons (gset 10) (gcons (gset 11) gnil))) byes ce__law_made_2
def ce__law_made_3 : M td := (mop idxD (.v 4) (.v 9))
def c__law_made_3 : M td := mlc [9] (iseq (mvar 6)) (gset 9) byes ce__law_made_3
def ce__law_made_4 : M td := (mmut 5 uPopAt (mcons (mcall 2 f__law_next (mcons (mvar 0) (mcons (mfn len1 [(.v 5)]) mnil))) mnil))
def c__law_made_4 : M td := mlc [9] (irange1 (mcons (mvar 2) mnil)) (gset 9) byes ce__law_made_4
def ce__law_made_5 : M td := (mtup (mcons (mop idxD (.v 3) (.v 9)) (mcons (mop idxD (.v 3) (.e (mop addD (.v 9) (.e (mcst (.int 1)))))) mnil)))
def c__law_made_5 : M td := mlc [9] (irange1 (mcons (mvar 2) mnil)) (gset 9) byes ce__law_made_5
def ce__law_made_6 : M td := (mcall 2 f__law_pick (mcons (mvar 0) (mcons (mvar 1) mnil)))
def c__law_made_6 : M td := mlc [9] (irange1 (mcons (mvar 2) mnil)) (gset 9) byes ce__law_made_6
def m__law_made : SM td := (scons (sset 2 (mop addD (.e (mcst (.int 1))) (.e (mcall 2 f__law_next (mcons (mvar 0) (mcons (mcst (.int 7)) mnil))))))
    (scons (sset 3 (mop addD (.e c__law_made_6) (.e (mlst (mcons (mcst (.str "")) mnil)))))
    (scons (sset 4 c__law_made_5)
    (scons (ssetO 5 1 (mlistR (mvar 2)))
    (scons (sset 6 c__law_made_4)
    (scons (sset 7 (mfn tuple1 [(.e c__law_made_3)]))
    (scons (sset 8 (mfn tuple1 [(.e c__law_made_2)]))
    (sret (mtup (mcons (mvar 8) (mcons (mvar 7) (mcons (mfn tuple1 [(.e c__law_made_1)]) mnil))))))))))))
def f__law_made : FnM td := runFn 12 2 m__law_made
theorem ok__law_made {f : Addr} {fd : FuncData} (F : Fun K ("_law_made" : Str) ("_law_made" : Str) s__law_made f fd) (T : Tx K mg) (g__law_next : FnAt td P w K mg base 1 ("_law_next" : Str) 2 f__law_next) (g__law_pick : FnAt td P w K mg base 2 ("_law_pick" : Str) 2 f__law_pick) : FnOk P w K mg base CX0 3 f fd [("tape" : Str), ("words" : Str)] (spD td 2 f__law_made) :=
  fn_ok F sc__law_made fun cdv A outer s H E hr => by
    have c__law_next := g__law_next.fn (A := A.deeper (PyProof.Rows.envOfC ("_law_made" : Str) (defScope s__law_made) s.heap.objs.size f cdv)) hr (by decide)
    have c__law_pick := g__law_pick.fn (A := A.deeper (PyProof.Rows.envOfC ("_law_made" : Str) (defScope s__law_made) s.heap.objs.size f cdv)) hr (by decide)
    exact (ib_cons (is_set (i := 2) sc__law_made.nd rfl (Or.inl rfl) (ie_op op_addAll od_add (.e ie_int) (.e (ie_call c__law_next (by rfl) (il_cons (ie_var (pv 0)) (il_cons ie_int il_nil))))))
    (ib_cons (is_set (i := 3) sc__law_made.nd rfl (Or.inr rfl) (ie_op op_addAll od_add (.e (IsO.toE (io_lc [(("k" : Str), 9)] rfl sc__law_made.nd (ii_range1 (by rfl) T.z_range (il_cons (ie_var (pv 2)) il_nil)) (blkOk_by (N := N__law_made) (sc := defScope s__law_made) (scope := scp__law_made_6) (own := [(("k" : Str), 9)]) (by decide +kernel)) (fun _ _ _ _ _ => (ig_name (i := 9) sc__law_made.nd rfl (Or.inl rfl))) (fun _ _ _ _ _ => its_nil) (fun _ _ _ _ _ => (ie_call c__law_pick (by rfl) (il_cons (ie_var (pv 0)) (il_cons (ie_var (pv 1)) il_nil))))))) (.e (IsO.toE (io_lst (il_cons ie_str il_nil))))))
    (ib_cons (is_set (i := 4) sc__law_made.nd rfl (Or.inr rfl) (IsO.toE (io_lc [(("k" : Str), 9)] rfl sc__law_made.nd (ii_range1 (by rfl) T.z_range (il_cons (ie_var (pv 2)) il_nil)) (blkOk_by (N := N__law_made) (sc := defScope s__law_made) (scope := scp__law_made_5) (own := [(("k" : Str), 9)]) (by decide +kernel)) (fun _ _ _ _ _ => (ig_name (i := 9) sc__law_made.nd rfl (Or.inl rfl))) (fun _ _ _ _ _ => its_nil) (fun _ _ _ _ _ => (ie_tup (il_cons (ie_ix ix_seq od_idx (.v (pv 3)) (.v (pv 9))) (il_cons (ie_ix ix_seq od_idx (.v (pv 3)) (.e (ie_op op_addAll od_add (.v (pv 9)) (.e ie_int)))) il_nil)))))))
    (ib_cons (is_setO (i := 5) sc__law_made.nd rfl (Or.inr rfl) (io_listR (by rfl) T.z_list (by rfl) T.z_range (ie_var (pv 2)) rfl))
    (ib_cons (is_set (i := 6) sc__law_made.nd rfl (Or.inr rfl) (IsO.toE (io_lc [(("k" : Str), 9)] rfl sc__law_made.nd (ii_range1 (by rfl) T.z_range (il_cons (ie_var (pv 2)) il_nil)) (blkOk_by (N := N__law_made) (sc := defScope s__law_made) (scope := scp__law_made_4) (own := [(("k" : Str), 9)]) (by decide +kernel)) (fun _ _ _ _ _ => (ig_name (i := 9) sc__law_made.nd rfl (Or.inl rfl))) (fun _ _ _ _ _ => its_nil) (fun _ _ _ _ _ => (ie_mut PySem.F.slot_list_pop PySem.F.type_list_pop mt_popAt ud_popAt (pv 5) (il_cons (ie_call c__law_next (by rfl) (il_cons (ie_var (pv 0)) (il_cons (ie_blt call_len cd_len (by rfl) T.z_len PySem.boot_len (ia_cons (.v (pv 5)) .nil)) il_nil))) il_nil))))))
    (ib_cons (is_set (i := 7) sc__law_made.nd rfl (Or.inl rfl) (ie_ty call_tuple_F cd_tuple (by rfl) T.z_tuple PyProof.Rows.boot_tuple (ia_cons (.e (IsO.toE (io_lc [(("k" : Str), 9)] rfl sc__law_made.nd (ii_seq (ie_var (pv 6))) (blkOk_by (N := N__law_made) (sc := defScope s__law_made) (scope := scp__law_made_3) (own := [(("k" : Str), 9)]) (by decide +kernel)) (fun _ _ _ _ _ => (ig_name (i := 9) sc__law_made.nd rfl (Or.inl rfl))) (fun _ _ _ _ _ => its_nil) (fun _ _ _ _ _ => (ie_ix ix_seq od_idx (.v (pv 4)) (.v (pv 9))))))) .nil)))
    (ib_cons (is_set (i := 8) sc__law_made.nd rfl (Or.inl rfl) (ie_ty call_tuple_F cd_tuple (by rfl) T.z_tuple PyProof.Rows.boot_tuple (ia_cons (.e (IsO.toE (io_lc [(("first" : Str), 10), (("catch" : Str), 11)] rfl sc__law_made.nd (ii_seq (ie_var (pv 7))) (blkOk_by (N := N__law_made) (sc := defScope s__law_made) (scope := scp__law_made_2) (own := [(("first" : Str), 10), (("catch" : Str), 11)]) (by decide +kernel)) (fun _ _ _ _ _ => (ig_tup rfl (igs_cons (ig_name (i := 10) sc__law_made.nd rfl (Or.inl rfl)) (igs_cons (ig_name (i := 11) sc__law_made.nd rfl (Or.inl rfl)) igs_nil)))) (fun _ _ _ _ _ => its_nil) (fun _ _ _ _ _ => (ie_tup (il_cons (ie_var (pv 10)) (il_cons (ie_ite (it_cmp (op_eqA hr) od_eq (.e (ie_call c__law_next (by rfl) (il_cons (ie_var (pv 0)) (il_cons ie_int il_nil)))) (.e ie_int) (nomark _)) ie_non (ie_var (pv 11))) il_nil))))))) .nil)))
    (ib_one (is_ret (ie_tup (il_cons (ie_var (pv 8)) (il_cons (ie_var (pv 7)) (il_cons (ie_ty call_tuple_F cd_tuple (by rfl) T.z_tuple PyProof.Rows.boot_tuple (ia_cons (.e (IsO.toE (io_lc [(("k" : Str), 9)] rfl sc__law_made.nd (ii_range1 (by rfl) T.z_range (il_cons (ie_var (pv 2)) il_nil)) (blkOk_by (N := N__law_made) (sc := defScope s__law_made) (scope := scp__law_made_1) (own := [(("k" : Str), 9)]) (by decide +kernel)) (fun _ _ _ _ _ => (ig_name (i := 9) sc__law_made.nd rfl (Or.inl rfl))) (fun _ _ _ _ _ => its_nil) (fun _ _ _ _ _ => (ie_mt (by decide) PySem.F.plainAttrs_list PySem.F.slot_list_index PySem.F.type_list_index (mt_indexLs hr) md_indexL (.v (pv 6)) (ia_cons (.v (pv 9)) .nil)))))) .nil)) il_nil)))))))))))))
/-! ### _law_bent -/
abbrev N__law_bent : List Str := [("tape" : Str), ("words" : Str), ("quires" : Str), ("mending" : Str), ("order" : Str), ("at" : Str), ("way" : Str), ("pair" : Str)]
theorem sc__law_bent : FnScope N__law_bent [("tape" : Str), ("words" : Str), ("quires" : Str), ("mending" : Str), ("order" : Str)] (defScope s__law_bent) := ⟨rfl, rfl, rfl, by decide +kernel, rfl, by decide +kernel, by decide +kernel⟩
def m__law_bent : SM td := (scons (sset 5 (mcall 2 f__law_next (mcons (mvar 0) (mcons (mfn len1 [(.v 2)]) mnil))))
    (scons (sset 6 (mcall 2 f__law_next (mcons (mvar 0) (mcons (mcst (.int 8)) mnil))))
    (scons (sset 7 (mtup (mcons (mop idxD (.e (mop idxD (.v 3) (.v 5))) (.e (mcst (.int 0)))) (mcons (mcall 2 f__law_pick (mcons (mvar 0) (mcons (mop addD (.v 1) (.e (mlst (mcons (mcst (.str "")) (mcons (mcst (.str "zz")) mnil))))) mnil))) mnil))))
    (scons (sif (asB (mop ltD (.v 6) (.e (mcst (.int 3))))) (sset 3 (mop addD (.e (mop addD (.e (mslice sliceD (.v 3) onone (osome (mvar 5)))) (.e (mtup (mcons (mvar 7) mnil))))) (.e (mslice sliceD (.v 3) (osome (mop addD (.v 5) (.e (mcst (.int 1))))) onone)))) snil)
    (scons (sif (asB (mop eqD (.v 6) (.e (mcst (.int 3))))) (sset 3 (mop addD (.e (mop addD (.e (mslice sliceD (.v 3) onone (osome (mvar 5)))) (.e (mtup (mcons (mtup (mcons (mcall 2 f__law_pick (mcons (mvar 0) (mcons (mvar 1) mnil))) (mcons (mop idxD (.e (mop idxD (.v 3) (.v 5))) (.e (mcst (.int 1)))) mnil))) mnil))))) (.e (mslice sliceD (.v 3) (osome (mop addD (.v 5) (.e (mcst (.int 1))))) onone)))) snil)
    (scons (sif (asB (mop eqD (.v 6) (.e (mcst (.int 4))))) (sset 3 (mop addD (.e (mop addD (.e (mslice sliceD (.v 3) onone (osome (mvar 5)))) (.e (mtup (mcons (mop idxD (.v 2) (.v 5)) mnil))))) (.e (mslice sliceD (.v 3) (osome (mop addD (.v 5) (.e (mcst (.int 1))))) onone)))) snil)
    (scons (sif (asB (mop eqD (.v 6) (.e (mcst (.int 5))))) (sset 4 (mop addD (.e (mslice sliceD (.v 4) onone (osome (mvar 5)))) (.e (mslice sliceD (.v 4) (osome (mop addD (.v 5) (.e (mcst (.int 1))))) onone)))) snil)
    (scons (sif (asB (mop eqD (.v 6) (.e (mcst (.int 6))))) (sset 4 (mop addD (.e (mslice sliceD (.v 4) (osome (mvar 5)) onone)) (.e (mslice sliceD (.v 4) onone (osome (mvar 5)))))) snil)
    (scons (sif (asB (mop eqD (.v 6) (.e (mcst (.int 7))))) (sset 3 (mop addD (.v 3) (.e (mslice sliceD (.v 3) onone (osome (mcst (.int 1))))))) snil)
    (sret (mtup (mcons (mvar 3) (mcons (mvar 4) mnil)))))))))))))
def f__law_bent : FnM td := runFn 8 5 m__law_bent
theorem ok__law_bent {f : Addr} {fd : FuncData} (F : Fun K ("_law_bent" : Str) ("_law_bent" : Str) s__law_bent f fd) (T : Tx K mg) (g__law_pick : FnAt td P w K mg base 2 ("_law_pick" : Str) 2 f__law_pick) (g__law_next : FnAt td P w K mg base 1 ("_law_next" : Str) 2 f__law_next) : FnOk P w K mg base CX0 3 f fd [("tape" : Str), ("words" : Str), ("quires" : Str), ("mending" : Str), ("order" : Str)] (spD td 5 f__law_bent) :=
  fn_ok F sc__law_bent fun cdv A outer s H E hr => by
    have c__law_pick := g__law_pick.fn (A := A.deeper (PyProof.Rows.envOfC ("_law_bent" : Str) (defScope s__law_bent) s.heap.objs.size f cdv)) hr (by decide)
    have c__law_next := g__law_next.fn (A := A.deeper (PyProof.Rows.envOfC ("_law_bent" : Str) (defScope s__law_bent) s.heap.objs.size f cdv)) hr (by decide)
    exact (ib_cons (is_set (i := 5) sc__law_bent.nd rfl (Or.inl rfl) (ie_call c__law_next (by rfl) (il_cons (ie_var (pv 0)) (il_cons (ie_blt call_len cd_len (by rfl) T.z_len PySem.boot_len (ia_cons (.v (pv 2)) .nil)) il_nil))))
    (ib_cons (is_set (i := 6) sc__law_bent.nd rfl (Or.inl rfl) (ie_call c__law_next (by rfl) (il_cons (ie_var (pv 0)) (il_cons ie_int il_nil))))
    (ib_cons (is_set (i := 7) sc__law_bent.nd rfl (Or.inl rfl) (ie_tup (il_cons (ie_ix ix_seq od_idx (.e (ie_ix ix_seq od_idx (.v (pv 3)) (.v (pv 5)))) (.e ie_int)) (il_cons (ie_call c__law_pick (by rfl) (il_cons (ie_var (pv 0)) (il_cons (ie_op op_addAll od_add (.v (pv 1)) (.e (IsO.toE (io_lst (il_cons ie_str (il_cons ie_str il_nil)))))) il_nil))) il_nil))))
    (ib_cons (is_if (it_cmp op_ltA od_lt (.v (pv 6)) (.e ie_int) (nomark _)) (ib_one (is_set (i := 3) sc__law_bent.nd rfl (Or.inl rfl) (ie_op op_addAll od_add (.e (ie_op op_addAll od_add (.e (ie_slice sl_all sd_all (.v (pv 3)) ip_none (ip_some (ie_var (pv 5))))) (.e (ie_tup (il_cons (ie_var (pv 7)) il_nil))))) (.e (ie_slice sl_all sd_all (.v (pv 3)) (ip_some (ie_op op_addAll od_add (.v (pv 5)) (.e ie_int))) ip_none))))) ib_nil)
    (ib_cons (is_if (it_cmp (op_eqA hr) od_eq (.v (pv 6)) (.e ie_int) (nomark _)) (ib_one (is_set (i := 3) sc__law_bent.nd rfl (Or.inl rfl) (ie_op op_addAll od_add (.e (ie_op op_addAll od_add (.e (ie_slice sl_all sd_all (.v (pv 3)) ip_none (ip_some (ie_var (pv 5))))) (.e (ie_tup (il_cons (ie_tup (il_cons (ie_call c__law_pick (by rfl) (il_cons (ie_var (pv 0)) (il_cons (ie_var (pv 1)) il_nil))) (il_cons (ie_ix ix_seq od_idx (.e (ie_ix ix_seq od_idx (.v (pv 3)) (.v (pv 5)))) (.e ie_int)) il_nil))) il_nil))))) (.e (ie_slice sl_all sd_all (.v (pv 3)) (ip_some (ie_op op_addAll od_add (.v (pv 5)) (.e ie_int))) ip_none))))) ib_nil)
    (ib_cons (is_if (it_cmp (op_eqA hr) od_eq (.v (pv 6)) (.e ie_int) (nomark _)) (ib_one (is_set (i := 3) sc__law_bent.nd rfl (Or.inl rfl) (ie_op op_addAll od_add (.e (ie_op op_addAll od_add (.e (ie_slice sl_all sd_all (.v (pv 3)) ip_none (ip_some (ie_var (pv 5))))) (.e (ie_tup (il_cons (ie_ix ix_seq od_idx (.v (pv 2)) (.v (pv 5))) il_nil))))) (.e (ie_slice sl_all sd_all (.v (pv 3)) (ip_some (ie_op op_addAll od_add (.v (pv 5)) (.e ie_int))) ip_none))))) ib_nil)
    (ib_cons (is_if (it_cmp (op_eqA hr) od_eq (.v (pv 6)) (.e ie_int) (nomark _)) (ib_one (is_set (i := 4) sc__law_bent.nd rfl (Or.inl rfl) (ie_op op_addAll od_add (.e (ie_slice sl_all sd_all (.v (pv 4)) ip_none (ip_some (ie_var (pv 5))))) (.e (ie_slice sl_all sd_all (.v (pv 4)) (ip_some (ie_op op_addAll od_add (.v (pv 5)) (.e ie_int))) ip_none))))) ib_nil)
    (ib_cons (is_if (it_cmp (op_eqA hr) od_eq (.v (pv 6)) (.e ie_int) (nomark _)) (ib_one (is_set (i := 4) sc__law_bent.nd rfl (Or.inl rfl) (ie_op op_addAll od_add (.e (ie_slice sl_all sd_all (.v (pv 4)) (ip_some (ie_var (pv 5))) ip_none)) (.e (ie_slice sl_all sd_all (.v (pv 4)) ip_none (ip_some (ie_var (pv 5)))))))) ib_nil)
    (ib_cons (is_if (it_cmp (op_eqA hr) od_eq (.v (pv 6)) (.e ie_int) (nomark _)) (ib_one (is_set (i := 3) sc__law_bent.nd rfl (Or.inl rfl) (ie_op op_addAll od_add (.v (pv 3)) (.e (ie_slice sl_all sd_all (.v (pv 3)) ip_none (ip_some ie_int)))))) ib_nil)
    (ib_one (is_ret (ie_tup (il_cons (ie_var (pv 3)) (il_cons (ie_var (pv 4)) il_nil))))))))))))))
/-! ### accepts_ordered -/
abbrev N_accepts_ordered : List Str := [("quires" : Str), ("value" : Str)]
theorem sc_accepts_ordered : FnScope N_accepts_ordered [("quires" : Str), ("value" : Str)] (defScope s_accepts_ordered) := ⟨rfl, rfl, rfl, by decide +kernel, rfl, by decide +kernel, by decide +kernel⟩
def m_accepts_ordered : SM td := (scons (sif (bor (bnot (asB (misinst "tuple" (.v 1)))) (bor (asB (mop ltD (.e (mfn len1 [(.v 1)])) (.e (mcst (.int 2))))) (bnot (asB (misinst "str" (.e (mop idxD (.v 1) (.e (mcst (.int 0)))))))))) (sret (mcst (.bl false))) snil)
    (scons (sif (band (asB (mop eqD (.e (mop idxD (.v 1) (.e (mcst (.int 0))))) (.e (mcst (.str "order"))))) (asB (mop eqD (.e (mfn len1 [(.v 1)])) (.e (mcst (.int 3)))))) (sret (mand (mcall 2 f_is_mending (mcons (mvar 0) (mcons (mop idxD (.v 1) (.e (mcst (.int 2)))) mnil))) (mcall 2 f_is_order (mcons (mop idxD (.v 1) (.e (mcst (.int 2)))) (mcons (mop idxD (.v 1) (.e (mcst (.int 1)))) mnil))))) snil)
    (sret (mand (mop eqD (.e (mop idxD (.v 1) (.e (mcst (.int 0))))) (.e (mcst (.str "bar")))) (mand (mop eqD (.e (mfn len1 [(.v 1)])) (.e (mcst (.int 2)))) (mcall 2 f_is_bar (mcons (mvar 0) (mcons (mop idxD (.v 1) (.e (mcst (.int 1)))) mnil))))))))
def f_accepts_ordered : FnM td := runFn 2 2 m_accepts_ordered
theorem ok_accepts_ordered {f : Addr} {fd : FuncData} (F : Fun K ("accepts_ordered" : Str) ("accepts_ordered" : Str) s_accepts_ordered f fd) (T : Tx K mg) (g_is_bar : FnAt td P w K mg base 3 ("is_bar" : Str) 2 f_is_bar) (g_is_order : FnAt td P w K mg base 2 ("is_order" : Str) 2 f_is_order) (g_is_mending : FnAt td P w K mg base 2 ("is_mending" : Str) 2 f_is_mending) : FnOk P w K mg base CX0 4 f fd [("quires" : Str), ("value" : Str)] (spD td 2 f_accepts_ordered) :=
  fn_ok F sc_accepts_ordered fun cdv A outer s H E hr => by
    have c_is_bar := g_is_bar.fn (A := A.deeper (PyProof.Rows.envOfC ("accepts_ordered" : Str) (defScope s_accepts_ordered) s.heap.objs.size f cdv)) hr (by decide)
    have c_is_order := g_is_order.fn (A := A.deeper (PyProof.Rows.envOfC ("accepts_ordered" : Str) (defScope s_accepts_ordered) s.heap.objs.size f cdv)) hr (by decide)
    have c_is_mending := g_is_mending.fn (A := A.deeper (PyProof.Rows.envOfC ("accepts_ordered" : Str) (defScope s_accepts_ordered) s.heap.objs.size f cdv)) hr (by decide)
    exact (ib_cons (is_if (IsW.t (iw_or (it_not (it_val (ie_isinst (by rfl) T.z_isinstance (by rfl) T.z_tuple (by decide +kernel) (.v (pv 1)) k_tuple))) (iw_or (it_cmp op_ltA od_lt (.e (ie_blt call_len cd_len (by rfl) T.z_len PySem.boot_len (ia_cons (.v (pv 1)) .nil))) (.e ie_int) (nomark _)) (iw_or1 (it_not (it_val (ie_isinst (by rfl) T.z_isinstance (by rfl) T.z_str (by decide +kernel) (.e (ie_ix ix_seq od_idx (.v (pv 1)) (.e ie_int))) k_str))))))) (ib_one (is_ret ie_bl)) ib_nil)
    (ib_cons (is_if (IsW.t (iw_and (it_cmp (op_eqA hr) od_eq (.e (ie_ix ix_seq od_idx (.v (pv 1)) (.e ie_int))) (.e ie_str) (nomark _)) (iw_and1 (it_cmp (op_eqA hr) od_eq (.e (ie_blt call_len cd_len (by rfl) T.z_len PySem.boot_len (ia_cons (.v (pv 1)) .nil))) (.e ie_int) (nomark _))))) (ib_one (is_ret (ie_and (ie_call c_is_mending (by rfl) (il_cons (ie_var (pv 0)) (il_cons (ie_ix ix_seq od_idx (.v (pv 1)) (.e ie_int)) il_nil))) (ie_one (ie_call c_is_order (by rfl) (il_cons (ie_ix ix_seq od_idx (.v (pv 1)) (.e ie_int)) (il_cons (ie_ix ix_seq od_idx (.v (pv 1)) (.e ie_int)) il_nil))))))) ib_nil)
    (ib_one (is_ret (ie_and (ie_cmp (op_eqA hr) od_eq (.e (ie_ix ix_seq od_idx (.v (pv 1)) (.e ie_int))) (.e ie_str) (nomark _)) (ie_and (ie_cmp (op_eqA hr) od_eq (.e (ie_blt call_len cd_len (by rfl) T.z_len PySem.boot_len (ia_cons (.v (pv 1)) .nil))) (.e ie_int) (nomark _)) (ie_one (ie_call c_is_bar (by rfl) (il_cons (ie_var (pv 0)) (il_cons (ie_ix ix_seq od_idx (.v (pv 1)) (.e ie_int)) il_nil))))))))))
/-! ### _law_odd -/
abbrev N__law_odd : List Str := [("quires" : Str), ("mending" : Str), ("order" : Str), ("odd" : Str), ("right" : Str), ("wrong" : Str), ("value" : Str)]
theorem sc__law_odd : FnScope N__law_odd [("quires" : Str), ("mending" : Str), ("order" : Str)] (defScope s__law_odd) := ⟨rfl, rfl, rfl, by decide +kernel, rfl, by decide +kernel, by decide +kernel⟩
def scp__law_odd_1 : Scope := { kind := .function, names := [((".0" : Str), .local), (("value" : Str), .local), (("is_worn" : Str), .globalImplicit)], isGenerator := false, isCoroutine := false, more := [] }
def scp__law_odd_2 : Scope := { kind := .function, names := [((".0" : Str), .local), (("value" : Str), .local), (("is_worn" : Str), .globalImplicit)], isGenerator := false, isCoroutine := false, more := [] }
def ce__law_odd_1 : M td := (mop isBD (.e (mcall 1 f_is_worn (mcons (mvar 6) mnil))) (.e (mcst (.bl false))))
def c__law_odd_1 : M td := mlc [6] (iseq (mvar 5)) (gset 6) byes ce__law_odd_1
def ce__law_odd_2 : M td := (mop isBD (.e (mcall 1 f_is_worn (mcons (mvar 6) mnil))) (.e (mcst (.bl true))))
def c__law_odd_2 : M td := mlc [6] (iseq (mvar 4)) (gset 6) byes ce__law_odd_2
def lb__law_odd_1 : SM td := (sif (asB (mop isntBD (.e (mcall 2 f_is_mending (mcons (mvar 0) (mcons (mvar 3) mnil)))) (.e (mcst (.bl false))))) (sret (mcst (.bl false))) snil)
def l__law_odd_1 : SM td := sfor (iseq (mtup (mcons (mcst .non) (mcons (mcst (.int 4)) (mcons (mfnL list1 [(.v 1)]) (mcons (mslice sliceD (.v 1) onone (osome (mneg (mcst (.int 1))))) (mcons (mop addD (.e (mslice sliceD (.v 1) onone (osome (mneg (mcst (.int 1)))))) (.e (mtup (mcons (mcst .non) mnil)))) (mcons (mop addD (.e (mslice sliceD (.v 1) onone (osome (mneg (mcst (.int 1)))))) (.e (mtup (mcons (mtup (mcons (mop idxD (.e (mop idxD (.v 1) (.e (mneg (mcst (.int 1)))))) (.e (mcst (.int 0)))) mnil)) mnil)))) (mcons (mop addD (.e (mslice sliceD (.v 1) onone (osome (mneg (mcst (.int 1)))))) (.e (mtup (mcons (mlst (mcons (mop idxD (.e (mop idxD (.v 1) (.e (mneg (mcst (.int 1)))))) (.e (mcst (.int 0)))) (mcons (mcst (.str "")) mnil))) mnil)))) (mcons (mop addD (.e (mslice sliceD (.v 1) onone (osome (mneg (mcst (.int 1)))))) (.e (mtup (mcons (mtup (mcons (mop idxD (.e (mop idxD (.v 1) (.e (mneg (mcst (.int 1)))))) (.e (mcst (.int 0)))) (mcons (mcst (.str "A")) mnil))) mnil)))) mnil)))))))))) (gset 3) lb__law_odd_1
def lb__law_odd_2 : SM td := (sif (bor (asB (mop isntBD (.e (mcall 2 f_is_bar (mcons (mvar 0) (mcons (mvar 3) mnil)))) (.e (mcst (.bl false))))) (asB (mop isntBD (.e (mcall 2 f_accepts_ordered (mcons (mvar 0) (mcons (mtup (mcons (mcst (.str "bar")) (mcons (mvar 3) mnil))) mnil)))) (.e (mcst (.bl false)))))) (sret (mcst (.bl false))) snil)
def l__law_odd_2 : SM td := sfor (iseq (mtup (mcons (mcst .non) (mcons (mtup mnil) (mcons (mtup (mcons (mcst (.str "lot")) mnil)) (mcons (mtup (mcons (mcst (.str "word")) (mcons (mcst (.str "")) mnil))) (mcons (mtup (mcons (mcst (.str "word")) (mcons (mcst .non) mnil))) (mcons (mtup (mcons (mcst (.str "lot")) (mcons (mlst (mcons (mcst (.int 0)) mnil)) mnil))) (mcons (mtup (mcons (mcst (.str "lot")) (mcons (mcst .non) mnil))) (mcons (mtup (mcons (mcst (.str "ends")) (mcons (mcst .non) mnil))) (mcons (mlst (mcons (mcst (.str "lot")) (mcons (mtup (mcons (mcst (.int 0)) mnil)) mnil))) (mcons (mtup (mcons (mcst (.str "lots")) (mcons (mtup (mcons (mcst (.int 0)) mnil)) mnil))) (mcons (mtup (mcons (mcst (.str "lot")) (mcons (mtup (mcons (mcst (.int 0)) (mcons (mcst (.int 0)) mnil))) mnil))) (mcons (mtup (mcons (mcst (.str "lot")) (mcons (mtup (mcons (mcst (.bl true)) mnil)) mnil))) (mcons (mtup (mcons (mcst (.str "word")) (mcons (mcst (.str "zzz")) mnil))) mnil))))))))))))))) (gset 3) lb__law_odd_2
def lb__law_odd_3 : SM td := (sif (asB (mop isntBD (.e (mcall 2 f_accepts_ordered (mcons (mvar 0) (mcons (mvar 3) mnil)))) (.e (mcst (.bl false))))) (sret (mcst (.bl false))) snil)
def l__law_odd_3 : SM td := sfor (iseq (mtup (mcons (mcst .non) (mcons (mcst (.int 4)) (mcons (mtup mnil) (mcons (mtup (mcons (mcst (.str "order")) mnil)) (mcons (mlst (mcons (mcst (.str "order")) (mcons (mvar 2) (mcons (mvar 1) mnil)))) (mcons (mtup (mcons (mcst (.str "order")) (mcons (mvar 2) mnil))) (mcons (mtup (mcons (mcst (.str "order")) (mcons (mfnL list1 [(.v 2)]) (mcons (mvar 1) mnil)))) (mcons (mtup (mcons (mcst (.str "order")) (mcons (mvar 2) (mcons (mfnL list1 [(.v 1)]) mnil)))) (mcons (mtup (mcons (mcst (.str "bar")) (mcons (mvar 2) (mcons (mvar 1) mnil)))) (mcons (mtup (mcons (mcst (.str "bar")) mnil)) mnil)))))))))))) (gset 3) lb__law_odd_3
def m__law_odd : SM td := (scons l__law_odd_3
    (scons l__law_odd_2
    (scons l__law_odd_1
    (scons (sset 4 (mlst (mcons (mtup (mcons (mtup (mcons (mcst (.str "a")) (mcons (mcst .non) mnil))) mnil)) (mcons (mop mulD (.e (mtup (mcons (mtup (mcons (mcst (.str "a")) (mcons (mcst (.str "")) mnil))) mnil))) (.e (mcst (.int 40)))) (mcons (mtup (mcons (mtup (mcons (mcst (.str "a")) (mcons (mcst (.str "b")) mnil))) (mcons (mtup (mcons (mcst (.str "abcdefghijklmnop")) (mcons (mcst .non) mnil))) mnil))) mnil)))))
    (scons (sset 5 (mlst (mcons (mcst .non) (mcons (mtup mnil) (mcons (mlst (mcons (mtup (mcons (mcst (.str "a")) (mcons (mcst (.str "b")) mnil))) mnil)) (mcons (mtup (mcons (mtup (mcons (mcst (.str "a")) mnil)) mnil)) (mcons (mtup (mcons (mtup (mcons (mcst (.str "")) (mcons (mcst (.str "b")) mnil))) mnil)) (mcons (mtup (mcons (mtup (mcons (mcst .non) (mcons (mcst (.str "b")) mnil))) mnil)) (mcons (mtup (mcons (mtup (mcons (mcst (.str "a")) (mcons (mcst (.str "B")) mnil))) mnil)) (mcons (mtup (mcons (mtup (mcons (mcst (.str "a")) (mcons (mcst (.int 0)) mnil))) mnil)) (mcons (mtup (mcons (mlst (mcons (mcst (.str "a")) (mcons (mcst (.str "b")) mnil))) mnil)) (mcons (mop mulD (.e (mtup (mcons (mtup (mcons (mcst (.str "a")) (mcons (mcst .non) mnil))) mnil))) (.e (mcst (.int 41)))) (mcons (mtup (mcons (mcst (.str "ab")) mnil)) (mcons (mcst (.dic [] [])) mnil))))))))))))))
    (sret (mand (mfn all1 [(.e c__law_odd_2)]) (mfn all1 [(.e c__law_odd_1)]))))))))
def f__law_odd : FnM td := runFn 7 3 m__law_odd
theorem ok__law_odd {f : Addr} {fd : FuncData} (F : Fun K ("_law_odd" : Str) ("_law_odd" : Str) s__law_odd f fd) (T : Tx K mg) (g_is_worn : FnAt td P w K mg base 2 ("is_worn" : Str) 1 f_is_worn) (g_is_mending : FnAt td P w K mg base 2 ("is_mending" : Str) 2 f_is_mending) (g_accepts_ordered : FnAt td P w K mg base 4 ("accepts_ordered" : Str) 2 f_accepts_ordered) (g_is_bar : FnAt td P w K mg base 3 ("is_bar" : Str) 2 f_is_bar) : FnOk P w K mg base CX0 5 f fd [("quires" : Str), ("mending" : Str), ("order" : Str)] (spD td 3 f__law_odd) :=
  fn_ok F sc__law_odd fun cdv A outer s H E hr => by
    have c_is_worn := g_is_worn.fn (A := A.deeper (PyProof.Rows.envOfC ("_law_odd" : Str) (defScope s__law_odd) s.heap.objs.size f cdv)) hr (by decide)
    have c_is_mending := g_is_mending.fn (A := A.deeper (PyProof.Rows.envOfC ("_law_odd" : Str) (defScope s__law_odd) s.heap.objs.size f cdv)) hr (by decide)
    have c_accepts_ordered := g_accepts_ordered.fn (A := A.deeper (PyProof.Rows.envOfC ("_law_odd" : Str) (defScope s__law_odd) s.heap.objs.size f cdv)) hr (by decide)
    have c_is_bar := g_is_bar.fn (A := A.deeper (PyProof.Rows.envOfC ("_law_odd" : Str) (defScope s__law_odd) s.heap.objs.size f cdv)) hr (by decide)
    exact (ib_cons (is_for PassesOwn.never rfl (ii_seq (ie_tup (il_cons ie_non (il_cons ie_int (il_cons (ie_tup il_nil) (il_cons (ie_tup (il_cons ie_str il_nil)) (il_cons (IsO.toE (io_lst (il_cons ie_str (il_cons (ie_var (pv 2)) (il_cons (ie_var (pv 1)) il_nil))))) (il_cons (ie_tup (il_cons ie_str (il_cons (ie_var (pv 2)) il_nil))) (il_cons (ie_tup (il_cons ie_str (il_cons (IsO.toE (io_ty call_list_of cn_list (by rfl) T.z_list PyProof.Rows.boot_list (ia_cons (.v (pv 2)) .nil))) (il_cons (ie_var (pv 1)) il_nil)))) (il_cons (ie_tup (il_cons ie_str (il_cons (ie_var (pv 2)) (il_cons (IsO.toE (io_ty call_list_of cn_list (by rfl) T.z_list PyProof.Rows.boot_list (ia_cons (.v (pv 1)) .nil))) il_nil)))) (il_cons (ie_tup (il_cons ie_str (il_cons (ie_var (pv 2)) (il_cons (ie_var (pv 1)) il_nil)))) (il_cons (ie_tup (il_cons ie_str il_nil)) il_nil)))))))))))) (ig_name (i := 3) sc__law_odd.nd rfl (Or.inl rfl)) (ib_one (is_if (it_cmp op_notBl od_isntB (.e (ie_call c_accepts_ordered (by rfl) (il_cons (ie_var (pv 0)) (il_cons (ie_var (pv 3)) il_nil)))) (.e ie_bl) (nomark _)) (ib_one (is_ret ie_bl)) ib_nil)))
    (ib_cons (is_for PassesOwn.never rfl (ii_seq (ie_tup (il_cons ie_non (il_cons (ie_tup il_nil) (il_cons (ie_tup (il_cons ie_str il_nil)) (il_cons (ie_tup (il_cons ie_str (il_cons ie_str il_nil))) (il_cons (ie_tup (il_cons ie_str (il_cons ie_non il_nil))) (il_cons (ie_tup (il_cons ie_str (il_cons (IsO.toE (io_lst (il_cons ie_int il_nil))) il_nil))) (il_cons (ie_tup (il_cons ie_str (il_cons ie_non il_nil))) (il_cons (ie_tup (il_cons ie_str (il_cons ie_non il_nil))) (il_cons (IsO.toE (io_lst (il_cons ie_str (il_cons (ie_tup (il_cons ie_int il_nil)) il_nil)))) (il_cons (ie_tup (il_cons ie_str (il_cons (ie_tup (il_cons ie_int il_nil)) il_nil))) (il_cons (ie_tup (il_cons ie_str (il_cons (ie_tup (il_cons ie_int (il_cons ie_int il_nil))) il_nil))) (il_cons (ie_tup (il_cons ie_str (il_cons (ie_tup (il_cons ie_bl il_nil)) il_nil))) (il_cons (ie_tup (il_cons ie_str (il_cons ie_str il_nil))) il_nil))))))))))))))) (ig_name (i := 3) sc__law_odd.nd rfl (Or.inl rfl)) (ib_one (is_if (IsW.t (iw_or (it_cmp op_notBl od_isntB (.e (ie_call c_is_bar (by rfl) (il_cons (ie_var (pv 0)) (il_cons (ie_var (pv 3)) il_nil)))) (.e ie_bl) (nomark _)) (iw_or1 (it_cmp op_notBl od_isntB (.e (ie_call c_accepts_ordered (by rfl) (il_cons (ie_var (pv 0)) (il_cons (ie_tup (il_cons ie_str (il_cons (ie_var (pv 3)) il_nil))) il_nil)))) (.e ie_bl) (nomark _))))) (ib_one (is_ret ie_bl)) ib_nil)))
    (ib_cons (is_for PassesOwn.never rfl (ii_seq (ie_tup (il_cons ie_non (il_cons ie_int (il_cons (IsO.toE (io_ty call_list_of cn_list (by rfl) T.z_list PyProof.Rows.boot_list (ia_cons (.v (pv 1)) .nil))) (il_cons (ie_slice sl_all sd_all (.v (pv 1)) ip_none (ip_some (ie_neg ie_int))) (il_cons (ie_op op_addAll od_add (.e (ie_slice sl_all sd_all (.v (pv 1)) ip_none (ip_some (ie_neg ie_int)))) (.e (ie_tup (il_cons ie_non il_nil)))) (il_cons (ie_op op_addAll od_add (.e (ie_slice sl_all sd_all (.v (pv 1)) ip_none (ip_some (ie_neg ie_int)))) (.e (ie_tup (il_cons (ie_tup (il_cons (ie_ix ix_seq od_idx (.e (ie_ix ix_seq od_idx (.v (pv 1)) (.e (ie_neg ie_int)))) (.e ie_int)) il_nil)) il_nil)))) (il_cons (ie_op op_addAll od_add (.e (ie_slice sl_all sd_all (.v (pv 1)) ip_none (ip_some (ie_neg ie_int)))) (.e (ie_tup (il_cons (IsO.toE (io_lst (il_cons (ie_ix ix_seq od_idx (.e (ie_ix ix_seq od_idx (.v (pv 1)) (.e (ie_neg ie_int)))) (.e ie_int)) (il_cons ie_str il_nil)))) il_nil)))) (il_cons (ie_op op_addAll od_add (.e (ie_slice sl_all sd_all (.v (pv 1)) ip_none (ip_some (ie_neg ie_int)))) (.e (ie_tup (il_cons (ie_tup (il_cons (ie_ix ix_seq od_idx (.e (ie_ix ix_seq od_idx (.v (pv 1)) (.e (ie_neg ie_int)))) (.e ie_int)) (il_cons ie_str il_nil))) il_nil)))) il_nil)))))))))) (ig_name (i := 3) sc__law_odd.nd rfl (Or.inl rfl)) (ib_one (is_if (it_cmp op_notBl od_isntB (.e (ie_call c_is_mending (by rfl) (il_cons (ie_var (pv 0)) (il_cons (ie_var (pv 3)) il_nil)))) (.e ie_bl) (nomark _)) (ib_one (is_ret ie_bl)) ib_nil)))
    (ib_cons (is_set (i := 4) sc__law_odd.nd rfl (Or.inl rfl) (IsO.toE (io_lst (il_cons (ie_tup (il_cons (ie_tup (il_cons ie_str (il_cons ie_non il_nil))) il_nil)) (il_cons (ie_op op_mulA od_mul (.e (ie_tup (il_cons (ie_tup (il_cons ie_str (il_cons ie_str il_nil))) il_nil))) (.e ie_int)) (il_cons (ie_tup (il_cons (ie_tup (il_cons ie_str (il_cons ie_str il_nil))) (il_cons (ie_tup (il_cons ie_str (il_cons ie_non il_nil))) il_nil))) il_nil))))))
    (ib_cons (is_set (i := 5) sc__law_odd.nd rfl (Or.inl rfl) (IsO.toE (io_lst (il_cons ie_non (il_cons (ie_tup il_nil) (il_cons (IsO.toE (io_lst (il_cons (ie_tup (il_cons ie_str (il_cons ie_str il_nil))) il_nil))) (il_cons (ie_tup (il_cons (ie_tup (il_cons ie_str il_nil)) il_nil)) (il_cons (ie_tup (il_cons (ie_tup (il_cons ie_str (il_cons ie_str il_nil))) il_nil)) (il_cons (ie_tup (il_cons (ie_tup (il_cons ie_non (il_cons ie_str il_nil))) il_nil)) (il_cons (ie_tup (il_cons (ie_tup (il_cons ie_str (il_cons ie_str il_nil))) il_nil)) (il_cons (ie_tup (il_cons (ie_tup (il_cons ie_str (il_cons ie_int il_nil))) il_nil)) (il_cons (ie_tup (il_cons (IsO.toE (io_lst (il_cons ie_str (il_cons ie_str il_nil)))) il_nil)) (il_cons (ie_op op_mulA od_mul (.e (ie_tup (il_cons (ie_tup (il_cons ie_str (il_cons ie_non il_nil))) il_nil))) (.e ie_int)) (il_cons (ie_tup (il_cons ie_str il_nil)) (il_cons ie_dict0 il_nil)))))))))))))))
    (ib_one (is_ret (ie_and (ie_blt (cr_all rfl) cd_all (by rfl) T.z_all PyProof.Rows.boot_all (ia_cons (.e (IsO.toE (io_lc [(("value" : Str), 6)] rfl sc__law_odd.nd (ii_seq (ie_var (pv 4))) (blkOk_by (N := N__law_odd) (sc := defScope s__law_odd) (scope := scp__law_odd_2) (own := [(("value" : Str), 6)]) (by decide +kernel)) (fun _ _ _ _ _ => (ig_name (i := 6) sc__law_odd.nd rfl (Or.inl rfl))) (fun _ _ _ _ _ => its_nil) (fun _ _ _ _ _ => (ie_cmp op_isBl od_isB (.e (ie_call c_is_worn (by rfl) (il_cons (ie_var (pv 6)) il_nil))) (.e ie_bl) (nomark _)))))) .nil)) (ie_one (ie_blt (cr_all rfl) cd_all (by rfl) T.z_all PyProof.Rows.boot_all (ia_cons (.e (IsO.toE (io_lc [(("value" : Str), 6)] rfl sc__law_odd.nd (ii_seq (ie_var (pv 5))) (blkOk_by (N := N__law_odd) (sc := defScope s__law_odd) (scope := scp__law_odd_1) (own := [(("value" : Str), 6)]) (by decide +kernel)) (fun _ _ _ _ _ => (ig_name (i := 6) sc__law_odd.nd rfl (Or.inl rfl))) (fun _ _ _ _ _ => its_nil) (fun _ _ _ _ _ => (ie_cmp op_isBl od_isB (.e (ie_call c_is_worn (by rfl) (il_cons (ie_var (pv 6)) il_nil))) (.e ie_bl) (nomark _)))))) .nil)))))))))))
/-! ### law -/
abbrev N_law : List Str := [("script" : Str), ("tape" : Str), ("turn" : Str), ("words" : Str), ("quires" : Str), ("mending" : Str), ("order" : Str), ("more" : Str), ("bent" : Str), ("row" : Str), ("mends" : Str), ("other" : Str), ("ends" : Str), ("lot" : Str), ("alone" : Str), ("kind" : Str), ("what" : Str), ("pair" : Str), ("k" : Str)]
theorem sc_law : FnScope N_law [("script" : Str)] (defScope s_law) := ⟨rfl, rfl, rfl, by decide +kernel, rfl, by decide +kernel, by decide +kernel⟩
def scp_law_1 : Scope := { kind := .function, names := [((".0" : Str), .local), (("k" : Str), .local), (("other" : Str), .free)], isGenerator := false, isCoroutine := false, more := [] }
def scp_law_2 : Scope := { kind := .function, names := [((".0" : Str), .local), (("k" : Str), .local), (("_law_next" : Str), .globalImplicit), (("tape" : Str), .free)], isGenerator := false, isCoroutine := false, more := [] }
def scp_law_3 : Scope := { kind := .function, names := [((".0" : Str), .local), (("k" : Str), .local), (("other" : Str), .free)], isGenerator := false, isCoroutine := false, more := [] }
def scp_law_4 : Scope := { kind := .function, names := [((".0" : Str), .local), (("pair" : Str), .local), (("_law_pick" : Str), .globalImplicit), (("tape" : Str), .free), (("words" : Str), .free)], isGenerator := false, isCoroutine := false, more := [] }
def ce_law_1 : M td := (mvar 18)
def ct_law_1 : MB td := (asB (mop eqD (.e (mop idxD (.v 11) (.v 18))) (.e (mtup (mcons (mcst (.str "y")) (mcons (mcst (.str "y")) mnil))))))
def c_law_1 : M td := mlc [18] (irange1 (mcons (mfn len1 [(.v 11)]) mnil)) (gset 18) ct_law_1 ce_law_1
def ce_law_2 : M td := (mvar 18)
def ct_law_2 : MB td := (asB (mop eqD (.e (mcall 2 f__law_next (mcons (mvar 1) (mcons (mcst (.int 2)) mnil)))) (.e (mcst (.int 0)))))
def c_law_2 : M td := mlc [18] (irange1 (mcons (mfn len1 [(.v 11)]) mnil)) (gset 18) ct_law_2 ce_law_2
def lb_law_1 : SM td := (scons (sset 13 (mfn tuple1 [(.e c_law_2)]))
    (scons (sset 14 (mfn tuple1 [(.e c_law_1)]))
    (scons (sasg (gtup 2 (gcons (gset 15) (gcons (gset 16) gnil))) (mcall 2 f__law_pick (mcons (mvar 1) (mcons (mlst (mcons (mtup (mcons (mcst (.str "ends")) (mcons (mvar 12) mnil))) (mcons (mtup (mcons (mcst (.str "ends")) (mcons (mvar 13) mnil))) (mcons (mtup (mcons (mcst (.str "word")) (mcons (mcall 2 f__law_pick (mcons (mvar 1) (mcons (mop addD (.v 3) (.e (mlst (mcons (mcst (.str "y")) mnil)))) mnil))) mnil))) (mcons (mtup (mcons (mcst (.str "lot")) (mcons (mvar 13) mnil))) (mcons (mtup (mcons (mcst (.str "lot")) (mcons (mvar 14) mnil))) (mcons (mtup (mcons (mcst (.str "lot")) (mcons (mrev (mvar 14)) mnil))) mnil))))))) mnil))))
    (scons (sif (bnot (asB (mcall 2 f__law_told (mcons (mcall 2 f_is_bar (mcons (mvar 11) (mcons (mtup (mcons (mvar 15) (mcons (mvar 16) mnil))) mnil))) (mcons (mcall 3 f__law_is_bar (mcons (mvar 11) (mcons (mvar 15) (mcons (mvar 16) mnil)))) mnil))))) (sret (mcst (.bl false))) snil)
    (sif (bnot (asB (mcall 2 f__law_told (mcons (mcall 2 f_accepts_ordered (mcons (mvar 11) (mcons (mtup (mcons (mcst (.str "bar")) (mcons (mtup (mcons (mvar 15) (mcons (mvar 16) mnil))) mnil))) mnil))) (mcons (mcall 3 f__law_is_bar (mcons (mvar 11) (mcons (mvar 15) (mcons (mvar 16) mnil)))) mnil))))) (sret (mcst (.bl false))) snil)))))
def l_law_1 : SM td := sfor (irange1 (mcons (mcst (.int 8)) mnil)) (gset 7) lb_law_1
def ce_law_3 : M td := (mvar 18)
def ct_law_3 : MB td := (asB (mop eqD (.e (mop idxD (.e (mop idxD (.v 11) (.v 18))) (.e (mcst (.int 1))))) (.e (mcst (.str "")))))
def c_law_3 : M td := mlc [18] (irange1 (mcons (mfn len1 [(.v 11)]) mnil)) (gset 18) ct_law_3 ce_law_3
def ce_law_4 : M td := (mcall 2 f__law_pick (mcons (mvar 1) (mcons (mlst (mcons (mvar 17) (mcons (mvar 17) (mcons (mtup (mcons (mop idxD (.v 17) (.e (mcst (.int 0)))) (mcons (mcall 2 f__law_pick (mcons (mvar 1) (mcons (mop addD (.v 3) (.e (mlst (mcons (mcst (.str "")) (mcons (mcst .non) (mcons (mcst (.str "y")) mnil)))))) mnil))) mnil))) (mcons (mtup (mcons (mcst (.str "y")) (mcons (mcst (.str "y")) mnil))) mnil))))) mnil)))
def c_law_4 : M td := mlc [17] (iseq (mvar 4)) (gset 17) byes ce_law_4
def lb_law_2 : SM td := (scons (sasg (gtup 2 (gcons (gset 8) (gcons (gset 9) gnil))) (mcall 5 f__law_bent (mcons (mvar 1) (mcons (mvar 3) (mcons (mvar 4) (mcons (mvar 5) (mcons (mvar 6) mnil)))))))
    (scons (sset 10 (mcall 2 f__law_is_mending (mcons (mvar 4) (mcons (mvar 8) mnil))))
    (scons (sif (bnot (asB (mcall 2 f__law_told (mcons (mcall 2 f_is_mending (mcons (mvar 4) (mcons (mvar 8) mnil))) (mcons (mvar 10) mnil))))) (sret (mcst (.bl false))) snil)
    (sif (bnot (asB (mcall 2 f__law_told (mcons (mcall 2 f_accepts_ordered (mcons (mvar 4) (mcons (mtup (mcons (mcst (.str "order")) (mcons (mvar 9) (mcons (mvar 8) mnil)))) mnil))) (mcons (mand (mvar 10) (mcall 2 f__law_is_order (mcons (mvar 8) (mcons (mvar 9) mnil)))) mnil))))) (sret (mcst (.bl false))) snil))))
def l_law_2 : SM td := sfor (irange1 (mcons (mcst (.int 6)) mnil)) (gset 7) lb_law_2
def lb_law_3 : SM td := (scons (sset 3 (mslice sliceD (.e (mlst (mcons (mcst (.str "a")) (mcons (mcst (.str "b")) (mcons (mcst (.str "c")) (mcons (mcst (.str "d")) mnil)))))) onone (osome (mop addD (.e (mcst (.int 1))) (.e (mcall 2 f__law_next (mcons (mvar 1) (mcons (mcst (.int 4)) mnil))))))))
    (scons (sasg (gtup 3 (gcons (gset 4) (gcons (gset 5) (gcons (gset 6) gnil)))) (mcall 2 f__law_made (mcons (mvar 1) (mcons (mvar 3) mnil))))
    (scons (sif (bor (asB (mop isntBD (.e (mcall 2 f_accepts_ordered (mcons (mvar 4) (mcons (mtup (mcons (mcst (.str "order")) (mcons (mvar 6) (mcons (mvar 5) mnil)))) mnil)))) (.e (mcst (.bl true))))) (bnot (asB (mcall 3 f__law_odd (mcons (mvar 4) (mcons (mvar 5) (mcons (mvar 6) mnil))))))) (sret (mcst (.bl false))) snil)
    (scons l_law_2
    (scons (sset 11 (mfn tuple1 [(.e c_law_4)]))
    (scons (sset 12 (mfn tuple1 [(.e c_law_3)]))
    l_law_1))))))
def l_law_3 : SM td := sfor (irange1 (mcons (mcst (.int 4)) mnil)) (gset 2) lb_law_3
def m_law : SM td := (scons l_law_3
    (sret (mcst (.bl true))))
theorem ib_law {f : Addr} (T : Tx K mg) (g__law_is_bar : FnAt td P w K mg base 2 ("_law_is_bar" : Str) 3 f__law_is_bar) (g_accepts_ordered : FnAt td P w K mg base 4 ("accepts_ordered" : Str) 2 f_accepts_ordered) (g__law_told : FnAt td P w K mg base 1 ("_law_told" : Str) 2 f__law_told) (g_is_bar : FnAt td P w K mg base 3 ("is_bar" : Str) 2 f_is_bar) (g__law_pick : FnAt td P w K mg base 2 ("_law_pick" : Str) 2 f__law_pick) (g__law_next : FnAt td P w K mg base 1 ("_law_next" : Str) 2 f__law_next) (g__law_is_order : FnAt td P w K mg base 1 ("_law_is_order" : Str) 2 f__law_is_order) (g_is_mending : FnAt td P w K mg base 2 ("is_mending" : Str) 2 f_is_mending) (g__law_is_mending : FnAt td P w K mg base 1 ("_law_is_mending" : Str) 2 f__law_is_mending) (g__law_bent : FnAt td P w K mg base 3 ("_law_bent" : Str) 5 f__law_bent) (g__law_odd : FnAt td P w K mg base 5 ("_law_odd" : Str) 3 f__law_odd) (g__law_made : FnAt td P w K mg base 3 ("_law_made" : Str) 2 f__law_made) (cdv : Value) (A : Around) (outer : List Env) (s : Shared) (H : Hp) (E : XK) (hr : Room 5 (A.deeper (PyProof.Rows.envOfC "law" (defScope s_law) s.heap.objs.size f cdv))) :
    IsB td (cxOf CX0 P w K mg base N_law "law" (defScope s_law) f cdv A outer s H E).nox ((defBody s_law).drop 1) m_law := by
    have c__law_is_bar := g__law_is_bar.fn (A := A.deeper (PyProof.Rows.envOfC ("law" : Str) (defScope s_law) s.heap.objs.size f cdv)) hr (by decide)
    have c_accepts_ordered := g_accepts_ordered.fn (A := A.deeper (PyProof.Rows.envOfC ("law" : Str) (defScope s_law) s.heap.objs.size f cdv)) hr (by decide)
    have c__law_told := g__law_told.fn (A := A.deeper (PyProof.Rows.envOfC ("law" : Str) (defScope s_law) s.heap.objs.size f cdv)) hr (by decide)
    have c_is_bar := g_is_bar.fn (A := A.deeper (PyProof.Rows.envOfC ("law" : Str) (defScope s_law) s.heap.objs.size f cdv)) hr (by decide)
    have c__law_pick := g__law_pick.fn (A := A.deeper (PyProof.Rows.envOfC ("law" : Str) (defScope s_law) s.heap.objs.size f cdv)) hr (by decide)
    have c__law_next := g__law_next.fn (A := A.deeper (PyProof.Rows.envOfC ("law" : Str) (defScope s_law) s.heap.objs.size f cdv)) hr (by decide)
    have c__law_is_order := g__law_is_order.fn (A := A.deeper (PyProof.Rows.envOfC ("law" : Str) (defScope s_law) s.heap.objs.size f cdv)) hr (by decide)
    have c_is_mending := g_is_mending.fn (A := A.deeper (PyProof.Rows.envOfC ("law" : Str) (defScope s_law) s.heap.objs.size f cdv)) hr (by decide)
    have c__law_is_mending := g__law_is_mending.fn (A := A.deeper (PyProof.Rows.envOfC ("law" : Str) (defScope s_law) s.heap.objs.size f cdv)) hr (by decide)
    have c__law_bent := g__law_bent.fn (A := A.deeper (PyProof.Rows.envOfC ("law" : Str) (defScope s_law) s.heap.objs.size f cdv)) hr (by decide)
    have c__law_odd := g__law_odd.fn (A := A.deeper (PyProof.Rows.envOfC ("law" : Str) (defScope s_law) s.heap.objs.size f cdv)) hr (by decide)
    have c__law_made := g__law_made.fn (A := A.deeper (PyProof.Rows.envOfC ("law" : Str) (defScope s_law) s.heap.objs.size f cdv)) hr (by decide)
    exact (ib_cons (is_for PassesOwn.never rfl (ii_range1 (by rfl) T.z_range (il_cons ie_int il_nil)) (ig_name (i := 2) sc_law.nd rfl (Or.inl rfl)) (ib_cons (is_set (i := 3) sc_law.nd rfl (Or.inr rfl) (ie_slice sl_all sd_all (.e (IsO.toE (io_lst (il_cons ie_str (il_cons ie_str (il_cons ie_str (il_cons ie_str il_nil))))))) ip_none (ip_some (ie_op op_addAll od_add (.e ie_int) (.e (ie_call c__law_next (by rfl) (il_cons (ie_var (pv 1)) (il_cons ie_int il_nil))))))))
    (ib_cons (is_asg (ie_call c__law_made (by rfl) (il_cons (ie_var (pv 1)) (il_cons (ie_var (pv 3)) il_nil))) (ig_tup rfl (igs_cons (ig_name (i := 4) sc_law.nd rfl (Or.inl rfl)) (igs_cons (ig_name (i := 5) sc_law.nd rfl (Or.inl rfl)) (igs_cons (ig_name (i := 6) sc_law.nd rfl (Or.inl rfl)) igs_nil)))))
    (ib_cons (is_if (IsW.t (iw_or (it_cmp op_notBl od_isntB (.e (ie_call c_accepts_ordered (by rfl) (il_cons (ie_var (pv 4)) (il_cons (ie_tup (il_cons ie_str (il_cons (ie_var (pv 6)) (il_cons (ie_var (pv 5)) il_nil)))) il_nil)))) (.e ie_bl) (nomark _)) (iw_or1 (it_not (it_val (ie_call c__law_odd (by rfl) (il_cons (ie_var (pv 4)) (il_cons (ie_var (pv 5)) (il_cons (ie_var (pv 6)) il_nil))))))))) (ib_one (is_ret ie_bl)) ib_nil)
    (ib_cons (is_for PassesOwn.never rfl (ii_range1 (by rfl) T.z_range (il_cons ie_int il_nil)) (ig_name (i := 7) sc_law.nd rfl (Or.inl rfl)) (ib_cons (is_asg (ie_call c__law_bent (by rfl) (il_cons (ie_var (pv 1)) (il_cons (ie_var (pv 3)) (il_cons (ie_var (pv 4)) (il_cons (ie_var (pv 5)) (il_cons (ie_var (pv 6)) il_nil)))))) (ig_tup rfl (igs_cons (ig_name (i := 8) sc_law.nd rfl (Or.inl rfl)) (igs_cons (ig_name (i := 9) sc_law.nd rfl (Or.inl rfl)) igs_nil))))
    (ib_cons (is_set (i := 10) sc_law.nd rfl (Or.inl rfl) (ie_call c__law_is_mending (by rfl) (il_cons (ie_var (pv 4)) (il_cons (ie_var (pv 8)) il_nil))))
    (ib_cons (is_if (it_not (it_val (ie_call c__law_told (by rfl) (il_cons (ie_call c_is_mending (by rfl) (il_cons (ie_var (pv 4)) (il_cons (ie_var (pv 8)) il_nil))) (il_cons (ie_var (pv 10)) il_nil))))) (ib_one (is_ret ie_bl)) ib_nil)
    (ib_one (is_if (it_not (it_val (ie_call c__law_told (by rfl) (il_cons (ie_call c_accepts_ordered (by rfl) (il_cons (ie_var (pv 4)) (il_cons (ie_tup (il_cons ie_str (il_cons (ie_var (pv 9)) (il_cons (ie_var (pv 8)) il_nil)))) il_nil))) (il_cons (ie_and (ie_var (pv 10)) (ie_one (ie_call c__law_is_order (by rfl) (il_cons (ie_var (pv 8)) (il_cons (ie_var (pv 9)) il_nil))))) il_nil))))) (ib_one (is_ret ie_bl)) ib_nil))))))
    (ib_cons (is_set (i := 11) sc_law.nd rfl (Or.inr rfl) (ie_ty call_tuple_F cd_tuple (by rfl) T.z_tuple PyProof.Rows.boot_tuple (ia_cons (.e (IsO.toE (io_lc [(("pair" : Str), 17)] rfl sc_law.nd (ii_seq (ie_var (pv 4))) (blkOk_by (N := N_law) (sc := defScope s_law) (scope := scp_law_4) (own := [(("pair" : Str), 17)]) (by decide +kernel)) (fun _ _ _ _ _ => (ig_name (i := 17) sc_law.nd rfl (Or.inl rfl))) (fun _ _ _ _ _ => its_nil) (fun _ _ _ _ _ => (ie_call c__law_pick (by rfl) (il_cons (ie_var (pv 1)) (il_cons (IsO.toE (io_lst (il_cons (ie_var (pv 17)) (il_cons (ie_var (pv 17)) (il_cons (ie_tup (il_cons (ie_ix ix_seq od_idx (.v (pv 17)) (.e ie_int)) (il_cons (ie_call c__law_pick (by rfl) (il_cons (ie_var (pv 1)) (il_cons (ie_op op_addAll od_add (.v (pv 3)) (.e (IsO.toE (io_lst (il_cons ie_str (il_cons ie_non (il_cons ie_str il_nil))))))) il_nil))) il_nil))) (il_cons (ie_tup (il_cons ie_str (il_cons ie_str il_nil))) il_nil)))))) il_nil))))))) .nil)))
    (ib_cons (is_set (i := 12) sc_law.nd rfl (Or.inl rfl) (ie_ty call_tuple_F cd_tuple (by rfl) T.z_tuple PyProof.Rows.boot_tuple (ia_cons (.e (IsO.toE (io_lc [(("k" : Str), 18)] rfl sc_law.nd (ii_range1 (by rfl) T.z_range (il_cons (ie_blt call_len cd_len (by rfl) T.z_len PySem.boot_len (ia_cons (.v (pv 11)) .nil)) il_nil)) (blkOk_by (N := N_law) (sc := defScope s_law) (scope := scp_law_3) (own := [(("k" : Str), 18)]) (by decide +kernel)) (fun _ _ _ _ _ => (ig_name (i := 18) sc_law.nd rfl (Or.inl rfl))) (fun _ _ _ _ _ => (its_one (it_cmp (op_eqA hr) od_eq (.e (ie_ix ix_seq od_idx (.e (ie_ix ix_seq od_idx (.v (pv 11)) (.v (pv 18)))) (.e ie_int))) (.e ie_str) (nomark _)))) (fun _ _ _ _ _ => (ie_var (pv 18)))))) .nil)))
    (ib_one (is_for PassesOwn.never rfl (ii_range1 (by rfl) T.z_range (il_cons ie_int il_nil)) (ig_name (i := 7) sc_law.nd rfl (Or.inl rfl)) (ib_cons (is_set (i := 13) sc_law.nd rfl (Or.inl rfl) (ie_ty call_tuple_F cd_tuple (by rfl) T.z_tuple PyProof.Rows.boot_tuple (ia_cons (.e (IsO.toE (io_lc [(("k" : Str), 18)] rfl sc_law.nd (ii_range1 (by rfl) T.z_range (il_cons (ie_blt call_len cd_len (by rfl) T.z_len PySem.boot_len (ia_cons (.v (pv 11)) .nil)) il_nil)) (blkOk_by (N := N_law) (sc := defScope s_law) (scope := scp_law_2) (own := [(("k" : Str), 18)]) (by decide +kernel)) (fun _ _ _ _ _ => (ig_name (i := 18) sc_law.nd rfl (Or.inl rfl))) (fun _ _ _ _ _ => (its_one (it_cmp (op_eqA hr) od_eq (.e (ie_call c__law_next (by rfl) (il_cons (ie_var (pv 1)) (il_cons ie_int il_nil)))) (.e ie_int) (nomark _)))) (fun _ _ _ _ _ => (ie_var (pv 18)))))) .nil)))
    (ib_cons (is_set (i := 14) sc_law.nd rfl (Or.inl rfl) (ie_ty call_tuple_F cd_tuple (by rfl) T.z_tuple PyProof.Rows.boot_tuple (ia_cons (.e (IsO.toE (io_lc [(("k" : Str), 18)] rfl sc_law.nd (ii_range1 (by rfl) T.z_range (il_cons (ie_blt call_len cd_len (by rfl) T.z_len PySem.boot_len (ia_cons (.v (pv 11)) .nil)) il_nil)) (blkOk_by (N := N_law) (sc := defScope s_law) (scope := scp_law_1) (own := [(("k" : Str), 18)]) (by decide +kernel)) (fun _ _ _ _ _ => (ig_name (i := 18) sc_law.nd rfl (Or.inl rfl))) (fun _ _ _ _ _ => (its_one (it_cmp (op_eqA hr) od_eq (.e (ie_ix ix_seq od_idx (.v (pv 11)) (.v (pv 18)))) (.e (ie_tup (il_cons ie_str (il_cons ie_str il_nil)))) (nomark _)))) (fun _ _ _ _ _ => (ie_var (pv 18)))))) .nil)))
    (ib_cons (is_asg (ie_call c__law_pick (by rfl) (il_cons (ie_var (pv 1)) (il_cons (IsO.toE (io_lst (il_cons (ie_tup (il_cons ie_str (il_cons (ie_var (pv 12)) il_nil))) (il_cons (ie_tup (il_cons ie_str (il_cons (ie_var (pv 13)) il_nil))) (il_cons (ie_tup (il_cons ie_str (il_cons (ie_call c__law_pick (by rfl) (il_cons (ie_var (pv 1)) (il_cons (ie_op op_addAll od_add (.v (pv 3)) (.e (IsO.toE (io_lst (il_cons ie_str il_nil))))) il_nil))) il_nil))) (il_cons (ie_tup (il_cons ie_str (il_cons (ie_var (pv 13)) il_nil))) (il_cons (ie_tup (il_cons ie_str (il_cons (ie_var (pv 14)) il_nil))) (il_cons (ie_tup (il_cons ie_str (il_cons (ie_rev (ie_var (pv 14))) il_nil))) il_nil)))))))) il_nil))) (ig_tup rfl (igs_cons (ig_name (i := 15) sc_law.nd rfl (Or.inl rfl)) (igs_cons (ig_name (i := 16) sc_law.nd rfl (Or.inl rfl)) igs_nil))))
    (ib_cons (is_if (it_not (it_val (ie_call c__law_told (by rfl) (il_cons (ie_call c_is_bar (by rfl) (il_cons (ie_var (pv 11)) (il_cons (ie_tup (il_cons (ie_var (pv 15)) (il_cons (ie_var (pv 16)) il_nil))) il_nil))) (il_cons (ie_call c__law_is_bar (by rfl) (il_cons (ie_var (pv 11)) (il_cons (ie_var (pv 15)) (il_cons (ie_var (pv 16)) il_nil)))) il_nil))))) (ib_one (is_ret ie_bl)) ib_nil)
    (ib_one (is_if (it_not (it_val (ie_call c__law_told (by rfl) (il_cons (ie_call c_accepts_ordered (by rfl) (il_cons (ie_var (pv 11)) (il_cons (ie_tup (il_cons ie_str (il_cons (ie_tup (il_cons (ie_var (pv 15)) (il_cons (ie_var (pv 16)) il_nil))) il_nil))) il_nil))) (il_cons (ie_call c__law_is_bar (by rfl) (il_cons (ie_var (pv 11)) (il_cons (ie_var (pv 15)) (il_cons (ie_var (pv 16)) il_nil)))) il_nil))))) (ib_one (is_ret ie_bl)) ib_nil)))))))))))))))
    (ib_one (is_ret ie_bl)))
theorem ok_law {f fS : Addr} {fd fdS : FuncData} (F : Fun K "law" "law" s_law f fd) (T : Tx K mg) (gS : FnOk P w K mg base CX0 1 fS fdS ["script"] (spTape K 91)) (mS : mg "_law_tape" = some (.ref fS)) (kS : PySem.W.keepIn K (.ref fS) = true) (bS : Binds K fdS ["script"] []) (g__law_is_bar : FnAt td P w K mg base 2 ("_law_is_bar" : Str) 3 f__law_is_bar) (g_accepts_ordered : FnAt td P w K mg base 4 ("accepts_ordered" : Str) 2 f_accepts_ordered) (g__law_told : FnAt td P w K mg base 1 ("_law_told" : Str) 2 f__law_told) (g_is_bar : FnAt td P w K mg base 3 ("is_bar" : Str) 2 f_is_bar) (g__law_pick : FnAt td P w K mg base 2 ("_law_pick" : Str) 2 f__law_pick) (g__law_next : FnAt td P w K mg base 1 ("_law_next" : Str) 2 f__law_next) (g__law_is_order : FnAt td P w K mg base 1 ("_law_is_order" : Str) 2 f__law_is_order) (g_is_mending : FnAt td P w K mg base 2 ("is_mending" : Str) 2 f_is_mending) (g__law_is_mending : FnAt td P w K mg base 1 ("_law_is_mending" : Str) 2 f__law_is_mending) (g__law_bent : FnAt td P w K mg base 3 ("_law_bent" : Str) 5 f__law_bent) (g__law_odd : FnAt td P w K mg base 5 ("_law_odd" : Str) 3 f__law_odd) (g__law_made : FnAt td P w K mg base 3 ("_law_made" : Str) 2 f__law_made)
    (plain : ∀ ns : List Int, ns.length ≤ 63 → ∃ T' e', m_law (.no :: .sh .tape :: List.replicate 17 .no) (startD 91 ns) = some (.rt (.bl true), e', T')) : FnOk P w K mg base CX0 6 f fd ["script"] (spLaw K) := by
  refine F.ok sc_law (fun vs H Q E h => ?_) (fun cdv A outer s H vs Q E hr h => ?_)
  · obtain ⟨a, ns, rfl, _⟩ := h
    rfl
  · obtain ⟨a, ns, rfl, hS, hl, kk⟩ := h
    refine ⟨_, pss_cons (ps_set (i := 1) sc_law.nd rfl (Or.inr rfl) (pe_call gS (hr.mono (by decide)) (by rfl) mS kS bS .nil pass0 (pa_cons (pv 0) pa_nil))) (ib_law T g__law_is_bar g_accepts_ordered g__law_told g_is_bar g__law_pick g__law_next g__law_is_order g_is_mending g__law_is_mending g__law_bent g__law_odd g__law_made cdv A outer s H E hr).ps, ?_⟩
    exact ⟨_, rfl, a, ns, rfl, hS, hl, law_coreD ns (plain ns hl) kk⟩
end
open PySem.Spec PyProof.Rows
def d_is_whole : He.DefD := ⟨(("is_whole" : Str), none), ("is_whole" : Str), ("is_whole" : Str), defArgs s_is_whole, defBody s_is_whole, defScope s_is_whole, [], []⟩
def d_is_word : He.DefD := ⟨(("is_word" : Str), none), ("is_word" : Str), ("is_word" : Str), defArgs s_is_word, defBody s_is_word, defScope s_is_word, [], []⟩
def d_is_ascending : He.DefD := ⟨(("is_ascending" : Str), none), ("is_ascending" : Str), ("is_ascending" : Str), defArgs s_is_ascending, defBody s_is_ascending, defScope s_is_ascending, [], []⟩
def d_words_of : He.DefD := ⟨(("words_of" : Str), none), ("words_of" : Str), ("words_of" : Str), defArgs s_words_of, defBody s_words_of, defScope s_words_of, [], []⟩
def d_is_order : He.DefD := ⟨(("is_order" : Str), none), ("is_order" : Str), ("is_order" : Str), defArgs s_is_order, defBody s_is_order, defScope s_is_order, [], []⟩
def d_is_worn : He.DefD := ⟨(("is_worn" : Str), none), ("is_worn" : Str), ("is_worn" : Str), defArgs s_is_worn, defBody s_is_worn, defScope s_is_worn, [], []⟩
def d_told_words : He.DefD := ⟨(("told_words" : Str), none), ("told_words" : Str), ("told_words" : Str), defArgs s_told_words, defBody s_told_words, defScope s_told_words, [], []⟩
def d_lack : He.DefD := ⟨(("lack" : Str), none), ("lack" : Str), ("lack" : Str), defArgs s_lack, defBody s_lack, defScope s_lack, [], []⟩
def d_is_mending : He.DefD := ⟨(("is_mending" : Str), none), ("is_mending" : Str), ("is_mending" : Str), defArgs s_is_mending, defBody s_is_mending, defScope s_is_mending, [], []⟩
def d_is_bar : He.DefD := ⟨(("is_bar" : Str), none), ("is_bar" : Str), ("is_bar" : Str), defArgs s_is_bar, defBody s_is_bar, defScope s_is_bar, [], []⟩
def d_accepts_ordered : He.DefD := ⟨(("accepts_ordered" : Str), none), ("accepts_ordered" : Str), ("accepts_ordered" : Str), defArgs s_accepts_ordered, defBody s_accepts_ordered, defScope s_accepts_ordered, [], []⟩
def d__law_tape : He.DefD := ⟨(("_law_tape" : Str), none), ("_law_tape" : Str), ("_law_tape" : Str), defArgs s__law_tape, defBody s__law_tape, defScope s__law_tape, [], []⟩
def d__law_next : He.DefD := ⟨(("_law_next" : Str), none), ("_law_next" : Str), ("_law_next" : Str), defArgs s__law_next, defBody s__law_next, defScope s__law_next, [], []⟩
def d__law_pick : He.DefD := ⟨(("_law_pick" : Str), none), ("_law_pick" : Str), ("_law_pick" : Str), defArgs s__law_pick, defBody s__law_pick, defScope s__law_pick, [], []⟩
def d__law_told_words : He.DefD := ⟨(("_law_told_words" : Str), none), ("_law_told_words" : Str), ("_law_told_words" : Str), defArgs s__law_told_words, defBody s__law_told_words, defScope s__law_told_words, [], []⟩
def d__law_is_bar : He.DefD := ⟨(("_law_is_bar" : Str), none), ("_law_is_bar" : Str), ("_law_is_bar" : Str), defArgs s__law_is_bar, defBody s__law_is_bar, defScope s__law_is_bar, [], []⟩
def d__law_is_mending : He.DefD := ⟨(("_law_is_mending" : Str), none), ("_law_is_mending" : Str), ("_law_is_mending" : Str), defArgs s__law_is_mending, defBody s__law_is_mending, defScope s__law_is_mending, [], []⟩
def d__law_is_order : He.DefD := ⟨(("_law_is_order" : Str), none), ("_law_is_order" : Str), ("_law_is_order" : Str), defArgs s__law_is_order, defBody s__law_is_order, defScope s__law_is_order, [], []⟩
def d__law_told : He.DefD := ⟨(("_law_told" : Str), none), ("_law_told" : Str), ("_law_told" : Str), defArgs s__law_told, defBody s__law_told, defScope s__law_told, [], []⟩
def d__law_made : He.DefD := ⟨(("_law_made" : Str), none), ("_law_made" : Str), ("_law_made" : Str), defArgs s__law_made, defBody s__law_made, defScope s__law_made, [], []⟩
def d__law_bent : He.DefD := ⟨(("_law_bent" : Str), none), ("_law_bent" : Str), ("_law_bent" : Str), defArgs s__law_bent, defBody s__law_bent, defScope s__law_bent, [], []⟩
def d__law_odd : He.DefD := ⟨(("_law_odd" : Str), none), ("_law_odd" : Str), ("_law_odd" : Str), defArgs s__law_odd, defBody s__law_odd, defScope s__law_odd, [], []⟩
def d_law : He.DefD := ⟨(("law" : Str), none), ("law" : Str), ("law" : Str), defArgs s_law, defBody s_law, defScope s_law, [], []⟩
def fn : List He.DefD := [d_is_whole, d_is_word, d_is_ascending, d_words_of, d_is_order, d_is_worn, d_told_words, d_lack, d_is_mending, d_is_bar, d_accepts_ordered, d__law_tape, d__law_next, d__law_pick, d__law_told_words, d__law_is_bar, d__law_is_mending, d__law_is_order, d__law_told, d__law_made, d__law_bent, d__law_odd, d_law]
def fa : List He.Fa := [.glo ("is_whole" : Str), .glo ("is_word" : Str), .glo ("is_ascending" : Str), .glo ("words_of" : Str), .glo ("is_order" : Str), .glo ("is_worn" : Str), .glo ("told_words" : Str), .glo ("lack" : Str), .glo ("is_mending" : Str), .glo ("is_bar" : Str), .glo ("accepts_ordered" : Str), .glo ("_law_tape" : Str), .glo ("_law_next" : Str), .glo ("_law_pick" : Str), .glo ("_law_told_words" : Str), .glo ("_law_is_bar" : Str), .glo ("_law_is_mending" : Str), .glo ("_law_is_order" : Str), .glo ("_law_told" : Str), .glo ("_law_made" : Str), .glo ("_law_bent" : Str), .glo ("_law_odd" : Str), .glo ("law" : Str), .free ("abs" : Str), .free ("all" : Str), .free ("any" : Str), .free ("bool" : Str), .free ("int" : Str), .free ("isinstance" : Str), .free ("len" : Str), .free ("list" : Str), .free ("range" : Str), .free ("set" : Str), .free ("sorted" : Str), .free ("str" : Str), .free ("sum" : Str), .free ("tuple" : Str), .int ("MOST_LETTERS" : Str) 16, .int ("MOST_QUIRES" : Str) 40]
def names : List PySem.Str := [("is_whole" : Str), ("is_word" : Str), ("is_ascending" : Str), ("words_of" : Str), ("is_order" : Str), ("is_worn" : Str), ("told_words" : Str), ("lack" : Str), ("is_mending" : Str), ("is_bar" : Str), ("accepts_ordered" : Str), ("_law_tape" : Str), ("_law_next" : Str), ("_law_pick" : Str), ("_law_told_words" : Str), ("_law_is_bar" : Str), ("_law_is_mending" : Str), ("_law_is_order" : Str), ("_law_told" : Str), ("_law_made" : Str), ("_law_bent" : Str), ("_law_odd" : Str), ("MOST_LETTERS" : Str), ("MOST_QUIRES" : Str)]
abbrev R : PySem.W.OpenRow := PySem.W.OpenLaw.row PySem.Challenge.rw_elderfolios_k91_worn_quires_judged
abbrev hk : PySem.W.Hook := He.hookD 4 fa fn
def ob (s : PySem.W.SharedT) : He.AlD := He.obsDG 4 fa fn (HandSHeadRun.getT s)
theorem ob_eq (s : PySem.W.SharedT) : ob s = hk.obs s.abs := He.obsDG_eq (HandSHeadRun.getT_eq s)
theorem run (w : World) : HandSHeadRun.RunEq R (PySem.W.view R.prog [28]) hk ob 2000 names w := by
  intro os
  kernel_rfl
theorem facts (plain : ∀ ns : List Int, ns.length ≤ 63 → ∃ T' e', m_law (.no :: .sh .tape :: List.replicate 17 .no) (startD 91 ns) = some (.rt (.bl true), e', T')) {P : Program} {w : World} {K : PySem.W.Frag} {h : Heap} {mg : Str → Option Value} {f : Addr} (X : K.In h) (G : h.Ns mainGlobals mg) (hfa : mg ("law" : Str) = some (.ref f)) (c : He.SaysD fa fn K) :
    ∃ fd : FuncData, (∀ (s : Shared) (v : Value), BindsTo s fd ⟨[v], []⟩ [("script", v)]) ∧ ∀ base : Heap, K.In base → base.Ns mainGlobals mg → FnOk P w K mg base CX0 6 f fd ["script"] (spLaw K) := by
  obtain ⟨fd_is_whole, D_is_whole⟩ := c.def_ 0 (d := d_is_whole) rfl
  have F_is_whole : Fun K ("is_whole" : Str) ("is_whole" : Str) s_is_whole _ fd_is_whole := Fun.ofD D_is_whole
  have b_is_whole := F_is_whole.binds (ps := [("value" : Str), ("low" : Str), ("high" : Str)]) fun _ _ _ _ _ _ us hl => match us, hl with | [_, _, _], _ => rfl
  have m_is_whole' := He.glo_ok X G (c.fact 0 (f := .glo ("is_whole" : Str)) rfl)
  obtain ⟨fd_is_word, D_is_word⟩ := c.def_ 1 (d := d_is_word) rfl
  have F_is_word : Fun K ("is_word" : Str) ("is_word" : Str) s_is_word _ fd_is_word := Fun.ofD D_is_word
  have b_is_word := F_is_word.binds (ps := [("value" : Str)]) fun _ _ _ _ _ _ us hl => match us, hl with | [_], _ => rfl
  have m_is_word' := He.glo_ok X G (c.fact 1 (f := .glo ("is_word" : Str)) rfl)
  obtain ⟨fd_is_ascending, D_is_ascending⟩ := c.def_ 2 (d := d_is_ascending) rfl
  have F_is_ascending : Fun K ("is_ascending" : Str) ("is_ascending" : Str) s_is_ascending _ fd_is_ascending := Fun.ofD D_is_ascending
  have b_is_ascending := F_is_ascending.binds (ps := [("value" : Str), ("low" : Str), ("high" : Str)]) fun _ _ _ _ _ _ us hl => match us, hl with | [_, _, _], _ => rfl
  have m_is_ascending' := He.glo_ok X G (c.fact 2 (f := .glo ("is_ascending" : Str)) rfl)
  obtain ⟨fd_words_of, D_words_of⟩ := c.def_ 3 (d := d_words_of) rfl
  have F_words_of : Fun K ("words_of" : Str) ("words_of" : Str) s_words_of _ fd_words_of := Fun.ofD D_words_of
  have b_words_of := F_words_of.binds (ps := [("quires" : Str)]) fun _ _ _ _ _ _ us hl => match us, hl with | [_], _ => rfl
  have m_words_of' := He.glo_ok X G (c.fact 3 (f := .glo ("words_of" : Str)) rfl)
  obtain ⟨fd_is_order, D_is_order⟩ := c.def_ 4 (d := d_is_order) rfl
  have F_is_order : Fun K ("is_order" : Str) ("is_order" : Str) s_is_order _ fd_is_order := Fun.ofD D_is_order
  have b_is_order := F_is_order.binds (ps := [("quires" : Str), ("value" : Str)]) fun _ _ _ _ _ _ us hl => match us, hl with | [_, _], _ => rfl
  have m_is_order' := He.glo_ok X G (c.fact 4 (f := .glo ("is_order" : Str)) rfl)
  obtain ⟨fd_is_worn, D_is_worn⟩ := c.def_ 5 (d := d_is_worn) rfl
  have F_is_worn : Fun K ("is_worn" : Str) ("is_worn" : Str) s_is_worn _ fd_is_worn := Fun.ofD D_is_worn
  have b_is_worn := F_is_worn.binds (ps := [("value" : Str)]) fun _ _ _ _ _ _ us hl => match us, hl with | [_], _ => rfl
  have m_is_worn' := He.glo_ok X G (c.fact 5 (f := .glo ("is_worn" : Str)) rfl)
  obtain ⟨fd_told_words, D_told_words⟩ := c.def_ 6 (d := d_told_words) rfl
  have F_told_words : Fun K ("told_words" : Str) ("told_words" : Str) s_told_words _ fd_told_words := Fun.ofD D_told_words
  have b_told_words := F_told_words.binds (ps := [("quires" : Str)]) fun _ _ _ _ _ _ us hl => match us, hl with | [_], _ => rfl
  have m_told_words' := He.glo_ok X G (c.fact 6 (f := .glo ("told_words" : Str)) rfl)
  obtain ⟨fd_lack, D_lack⟩ := c.def_ 7 (d := d_lack) rfl
  have F_lack : Fun K ("lack" : Str) ("lack" : Str) s_lack _ fd_lack := Fun.ofD D_lack
  have b_lack := F_lack.binds (ps := [("quires" : Str), ("word" : Str)]) fun _ _ _ _ _ _ us hl => match us, hl with | [_, _], _ => rfl
  have m_lack' := He.glo_ok X G (c.fact 7 (f := .glo ("lack" : Str)) rfl)
  obtain ⟨fd_is_mending, D_is_mending⟩ := c.def_ 8 (d := d_is_mending) rfl
  have F_is_mending : Fun K ("is_mending" : Str) ("is_mending" : Str) s_is_mending _ fd_is_mending := Fun.ofD D_is_mending
  have b_is_mending := F_is_mending.binds (ps := [("quires" : Str), ("value" : Str)]) fun _ _ _ _ _ _ us hl => match us, hl with | [_, _], _ => rfl
  have m_is_mending' := He.glo_ok X G (c.fact 8 (f := .glo ("is_mending" : Str)) rfl)
  obtain ⟨fd_is_bar, D_is_bar⟩ := c.def_ 9 (d := d_is_bar) rfl
  have F_is_bar : Fun K ("is_bar" : Str) ("is_bar" : Str) s_is_bar _ fd_is_bar := Fun.ofD D_is_bar
  have b_is_bar := F_is_bar.binds (ps := [("quires" : Str), ("value" : Str)]) fun _ _ _ _ _ _ us hl => match us, hl with | [_, _], _ => rfl
  have m_is_bar' := He.glo_ok X G (c.fact 9 (f := .glo ("is_bar" : Str)) rfl)
  obtain ⟨fd_accepts_ordered, D_accepts_ordered⟩ := c.def_ 10 (d := d_accepts_ordered) rfl
  have F_accepts_ordered : Fun K ("accepts_ordered" : Str) ("accepts_ordered" : Str) s_accepts_ordered _ fd_accepts_ordered := Fun.ofD D_accepts_ordered
  have b_accepts_ordered := F_accepts_ordered.binds (ps := [("quires" : Str), ("value" : Str)]) fun _ _ _ _ _ _ us hl => match us, hl with | [_, _], _ => rfl
  have m_accepts_ordered' := He.glo_ok X G (c.fact 10 (f := .glo ("accepts_ordered" : Str)) rfl)
  obtain ⟨fd__law_tape, D__law_tape⟩ := c.def_ 11 (d := d__law_tape) rfl
  have F__law_tape : Fun K ("_law_tape" : Str) ("_law_tape" : Str) s__law_tape _ fd__law_tape := Fun.ofD D__law_tape
  have b__law_tape := F__law_tape.binds (ps := [("script" : Str)]) fun _ _ _ _ _ _ us hl => match us, hl with | [_], _ => rfl
  have m__law_tape' := He.glo_ok X G (c.fact 11 (f := .glo ("_law_tape" : Str)) rfl)
  obtain ⟨fd__law_next, D__law_next⟩ := c.def_ 12 (d := d__law_next) rfl
  have F__law_next : Fun K ("_law_next" : Str) ("_law_next" : Str) s__law_next _ fd__law_next := Fun.ofD D__law_next
  have b__law_next := F__law_next.binds (ps := [("tape" : Str), ("many" : Str)]) fun _ _ _ _ _ _ us hl => match us, hl with | [_, _], _ => rfl
  have m__law_next' := He.glo_ok X G (c.fact 12 (f := .glo ("_law_next" : Str)) rfl)
  obtain ⟨fd__law_pick, D__law_pick⟩ := c.def_ 13 (d := d__law_pick) rfl
  have F__law_pick : Fun K ("_law_pick" : Str) ("_law_pick" : Str) s__law_pick _ fd__law_pick := Fun.ofD D__law_pick
  have b__law_pick := F__law_pick.binds (ps := [("tape" : Str), ("row" : Str)]) fun _ _ _ _ _ _ us hl => match us, hl with | [_, _], _ => rfl
  have m__law_pick' := He.glo_ok X G (c.fact 13 (f := .glo ("_law_pick" : Str)) rfl)
  obtain ⟨fd__law_told_words, D__law_told_words⟩ := c.def_ 14 (d := d__law_told_words) rfl
  have F__law_told_words : Fun K ("_law_told_words" : Str) ("_law_told_words" : Str) s__law_told_words _ fd__law_told_words := Fun.ofD D__law_told_words
  have b__law_told_words := F__law_told_words.binds (ps := [("quires" : Str)]) fun _ _ _ _ _ _ us hl => match us, hl with | [_], _ => rfl
  have m__law_told_words' := He.glo_ok X G (c.fact 14 (f := .glo ("_law_told_words" : Str)) rfl)
  obtain ⟨fd__law_is_bar, D__law_is_bar⟩ := c.def_ 15 (d := d__law_is_bar) rfl
  have F__law_is_bar : Fun K ("_law_is_bar" : Str) ("_law_is_bar" : Str) s__law_is_bar _ fd__law_is_bar := Fun.ofD D__law_is_bar
  have b__law_is_bar := F__law_is_bar.binds (ps := [("quires" : Str), ("kind" : Str), ("what" : Str)]) fun _ _ _ _ _ _ us hl => match us, hl with | [_, _, _], _ => rfl
  have m__law_is_bar' := He.glo_ok X G (c.fact 15 (f := .glo ("_law_is_bar" : Str)) rfl)
  obtain ⟨fd__law_is_mending, D__law_is_mending⟩ := c.def_ 16 (d := d__law_is_mending) rfl
  have F__law_is_mending : Fun K ("_law_is_mending" : Str) ("_law_is_mending" : Str) s__law_is_mending _ fd__law_is_mending := Fun.ofD D__law_is_mending
  have b__law_is_mending := F__law_is_mending.binds (ps := [("quires" : Str), ("value" : Str)]) fun _ _ _ _ _ _ us hl => match us, hl with | [_, _], _ => rfl
  have m__law_is_mending' := He.glo_ok X G (c.fact 16 (f := .glo ("_law_is_mending" : Str)) rfl)
  obtain ⟨fd__law_is_order, D__law_is_order⟩ := c.def_ 17 (d := d__law_is_order) rfl
  have F__law_is_order : Fun K ("_law_is_order" : Str) ("_law_is_order" : Str) s__law_is_order _ fd__law_is_order := Fun.ofD D__law_is_order
  have b__law_is_order := F__law_is_order.binds (ps := [("value" : Str), ("order" : Str)]) fun _ _ _ _ _ _ us hl => match us, hl with | [_, _], _ => rfl
  have m__law_is_order' := He.glo_ok X G (c.fact 17 (f := .glo ("_law_is_order" : Str)) rfl)
  obtain ⟨fd__law_told, D__law_told⟩ := c.def_ 18 (d := d__law_told) rfl
  have F__law_told : Fun K ("_law_told" : Str) ("_law_told" : Str) s__law_told _ fd__law_told := Fun.ofD D__law_told
  have b__law_told := F__law_told.binds (ps := [("told" : Str), ("due" : Str)]) fun _ _ _ _ _ _ us hl => match us, hl with | [_, _], _ => rfl
  have m__law_told' := He.glo_ok X G (c.fact 18 (f := .glo ("_law_told" : Str)) rfl)
  obtain ⟨fd__law_made, D__law_made⟩ := c.def_ 19 (d := d__law_made) rfl
  have F__law_made : Fun K ("_law_made" : Str) ("_law_made" : Str) s__law_made _ fd__law_made := Fun.ofD D__law_made
  have b__law_made := F__law_made.binds (ps := [("tape" : Str), ("words" : Str)]) fun _ _ _ _ _ _ us hl => match us, hl with | [_, _], _ => rfl
  have m__law_made' := He.glo_ok X G (c.fact 19 (f := .glo ("_law_made" : Str)) rfl)
  obtain ⟨fd__law_bent, D__law_bent⟩ := c.def_ 20 (d := d__law_bent) rfl
  have F__law_bent : Fun K ("_law_bent" : Str) ("_law_bent" : Str) s__law_bent _ fd__law_bent := Fun.ofD D__law_bent
  have b__law_bent := F__law_bent.binds (ps := [("tape" : Str), ("words" : Str), ("quires" : Str), ("mending" : Str), ("order" : Str)]) fun _ _ _ _ _ _ us hl => match us, hl with | [_, _, _, _, _], _ => rfl
  have m__law_bent' := He.glo_ok X G (c.fact 20 (f := .glo ("_law_bent" : Str)) rfl)
  obtain ⟨fd__law_odd, D__law_odd⟩ := c.def_ 21 (d := d__law_odd) rfl
  have F__law_odd : Fun K ("_law_odd" : Str) ("_law_odd" : Str) s__law_odd _ fd__law_odd := Fun.ofD D__law_odd
  have b__law_odd := F__law_odd.binds (ps := [("quires" : Str), ("mending" : Str), ("order" : Str)]) fun _ _ _ _ _ _ us hl => match us, hl with | [_, _, _], _ => rfl
  have m__law_odd' := He.glo_ok X G (c.fact 21 (f := .glo ("_law_odd" : Str)) rfl)
  obtain ⟨fd_law, D_law⟩ := c.def_ 22 (d := d_law) rfl
  have F_law : Fun K ("law" : Str) ("law" : Str) s_law _ fd_law := Fun.ofD D_law
  have b_law := F_law.binds (ps := [("script" : Str)]) fun _ _ _ _ _ _ us hl => match us, hl with | [_], _ => rfl
  have m_law' := He.glo_ok X G (c.fact 22 (f := .glo ("law" : Str)) rfl)
  have e := hfa.symm.trans m_law'
  cases e
  have T : Tx K mg := ⟨He.free_ok X G (c.fact 23 (f := .free ("abs" : Str)) rfl), He.free_ok X G (c.fact 24 (f := .free ("all" : Str)) rfl), He.free_ok X G (c.fact 25 (f := .free ("any" : Str)) rfl), He.free_ok X G (c.fact 26 (f := .free ("bool" : Str)) rfl), He.free_ok X G (c.fact 27 (f := .free ("int" : Str)) rfl), He.free_ok X G (c.fact 28 (f := .free ("isinstance" : Str)) rfl), He.free_ok X G (c.fact 29 (f := .free ("len" : Str)) rfl), He.free_ok X G (c.fact 30 (f := .free ("list" : Str)) rfl), He.free_ok X G (c.fact 31 (f := .free ("range" : Str)) rfl), He.free_ok X G (c.fact 32 (f := .free ("set" : Str)) rfl), He.free_ok X G (c.fact 33 (f := .free ("sorted" : Str)) rfl), He.free_ok X G (c.fact 34 (f := .free ("str" : Str)) rfl), He.free_ok X G (c.fact 35 (f := .free ("sum" : Str)) rfl), He.free_ok X G (c.fact 36 (f := .free ("tuple" : Str)) rfl), He.int_ok X G (c.fact 37 (f := .int ("MOST_LETTERS" : Str) 16) rfl), He.int_ok X G (c.fact 38 (f := .int ("MOST_QUIRES" : Str) 40) rfl)⟩
  have b := FunD.bindsA (ps := ["script"]) D_law fun _ _ _ _ _ _ us hl => match us, hl with | [_], _ => rfl
  refine ⟨fd_law, fun s v => b s [v] rfl, fun base _ _ => ?_⟩
  have g__law_next : FnAt td P w K mg base 1 ("_law_next" : Str) 2 f__law_next := FnAt.of (ok__law_next F__law_next T ) rfl m__law_next' F__law_next.kp b__law_next
  have g_is_whole : FnAt td P w K mg base 1 ("is_whole" : Str) 3 f_is_whole := FnAt.of (ok_is_whole F_is_whole T ) rfl m_is_whole' F_is_whole.kp b_is_whole
  have g_is_word : FnAt td P w K mg base 1 ("is_word" : Str) 1 f_is_word := FnAt.of (ok_is_word F_is_word T ) rfl m_is_word' F_is_word.kp b_is_word
  have g_words_of : FnAt td P w K mg base 1 ("words_of" : Str) 1 f_words_of := FnAt.of (ok_words_of F_words_of T ) rfl m_words_of' F_words_of.kp b_words_of
  have g_lack : FnAt td P w K mg base 1 ("lack" : Str) 2 f_lack := FnAt.of (ok_lack F_lack T ) rfl m_lack' F_lack.kp b_lack
  have g__law_told_words : FnAt td P w K mg base 1 ("_law_told_words" : Str) 1 f__law_told_words := FnAt.of (ok__law_told_words F__law_told_words T ) rfl m__law_told_words' F__law_told_words.kp b__law_told_words
  have g__law_is_mending : FnAt td P w K mg base 1 ("_law_is_mending" : Str) 2 f__law_is_mending := FnAt.of (ok__law_is_mending F__law_is_mending T ) rfl m__law_is_mending' F__law_is_mending.kp b__law_is_mending
  have g__law_is_order : FnAt td P w K mg base 1 ("_law_is_order" : Str) 2 f__law_is_order := FnAt.of (ok__law_is_order F__law_is_order T ) rfl m__law_is_order' F__law_is_order.kp b__law_is_order
  have g__law_told : FnAt td P w K mg base 1 ("_law_told" : Str) 2 f__law_told := FnAt.of (ok__law_told F__law_told T ) rfl m__law_told' F__law_told.kp b__law_told
  have g_is_ascending : FnAt td P w K mg base 2 ("is_ascending" : Str) 3 f_is_ascending := FnAt.of (ok_is_ascending F_is_ascending T g_is_whole) rfl m_is_ascending' F_is_ascending.kp b_is_ascending
  have g_is_order : FnAt td P w K mg base 2 ("is_order" : Str) 2 f_is_order := FnAt.of (ok_is_order F_is_order T g_is_whole) rfl m_is_order' F_is_order.kp b_is_order
  have g_is_worn : FnAt td P w K mg base 2 ("is_worn" : Str) 1 f_is_worn := FnAt.of (ok_is_worn F_is_worn T g_is_word) rfl m_is_worn' F_is_worn.kp b_is_worn
  have g_told_words : FnAt td P w K mg base 2 ("told_words" : Str) 1 f_told_words := FnAt.of (ok_told_words F_told_words T g_words_of) rfl m_told_words' F_told_words.kp b_told_words
  have g_is_mending : FnAt td P w K mg base 2 ("is_mending" : Str) 2 f_is_mending := FnAt.of (ok_is_mending F_is_mending T g_is_word) rfl m_is_mending' F_is_mending.kp b_is_mending
  have g__law_pick : FnAt td P w K mg base 2 ("_law_pick" : Str) 2 f__law_pick := FnAt.of (ok__law_pick F__law_pick T g__law_next) rfl m__law_pick' F__law_pick.kp b__law_pick
  have g__law_is_bar : FnAt td P w K mg base 2 ("_law_is_bar" : Str) 3 f__law_is_bar := FnAt.of (ok__law_is_bar F__law_is_bar T g__law_told_words) rfl m__law_is_bar' F__law_is_bar.kp b__law_is_bar
  have g_is_bar : FnAt td P w K mg base 3 ("is_bar" : Str) 2 f_is_bar := FnAt.of (ok_is_bar F_is_bar T g_told_words g_is_whole g_is_ascending g_lack g_is_word) rfl m_is_bar' F_is_bar.kp b_is_bar
  have g__law_made : FnAt td P w K mg base 3 ("_law_made" : Str) 2 f__law_made := FnAt.of (ok__law_made F__law_made T g__law_next g__law_pick) rfl m__law_made' F__law_made.kp b__law_made
  have g__law_bent : FnAt td P w K mg base 3 ("_law_bent" : Str) 5 f__law_bent := FnAt.of (ok__law_bent F__law_bent T g__law_pick g__law_next) rfl m__law_bent' F__law_bent.kp b__law_bent
  have g_accepts_ordered : FnAt td P w K mg base 4 ("accepts_ordered" : Str) 2 f_accepts_ordered := FnAt.of (ok_accepts_ordered F_accepts_ordered T g_is_bar g_is_order g_is_mending) rfl m_accepts_ordered' F_accepts_ordered.kp b_accepts_ordered
  have g__law_odd : FnAt td P w K mg base 5 ("_law_odd" : Str) 3 f__law_odd := FnAt.of (ok__law_odd F__law_odd T g_is_worn g_is_mending g_accepts_ordered g_is_bar) rfl m__law_odd' F__law_odd.kp b__law_odd
  exact ok_law F_law T (ok__law_tape F__law_tape T) m__law_tape' F__law_tape.kp b__law_tape g__law_is_bar g_accepts_ordered g__law_told g_is_bar g__law_pick g__law_next g__law_is_order g_is_mending g__law_is_mending g__law_bent g__law_odd g__law_made plain
end K91

namespace K91
open PySem L2 DL

abbrev Td := td.T
abbrev nD (i : Nat) : D := .int (i : Int)
abbrev Qu := Str × Option Str
def oS : Option Str → D
  | none => .non
  | some x => .str x
def pD (q : Qu) : D := .tup [.str q.1, oS q.2]
def qsD (Q : List Qu) : D := .tup (Q.map pD)
def isD (o : List Nat) : D := .tup (o.map nD)
def words6 : List Str := ["a", "b", "c", "d", "y", "zz"]
theorem w6_word (t : Td) : ∀ x ∈ words6, f_is_word [.str x] t = some (.bl true, t) := by
  intro x hx
  simp only [words6, List.mem_cons, List.not_mem_nil, or_false] at hx
  rcases hx with rfl | rfl | rfl | rfl | rfl | rfl <;> rfl
theorem w0_word (t : Td) : f_is_word [.str ""] t = some (.bl false, t) := rfl
theorem w6_ok : ∀ x ∈ words6, PyData.strOk x = true ∧ x ≠ "" := by decide +kernel
theorem ok_emp : PyData.strOk ("" : Str) = true := by decide +kernel
structure Okp (q : Qu) : Prop where
  f : q.1 ∈ words6
  c : ∀ x, q.2 = some x → x = "" ∨ x ∈ words6
def Oks (Q : List Qu) : Prop := ∀ q ∈ Q, Okp q
theorem ix0 (a : D) (r : List D) : idxD (.tup (a :: r)) (.int 0) = some a := idx_tup _ 0
theorem ix1 (a b : D) (r : List D) : idxD (.tup (a :: b :: r)) (.int 1) = some b := idx_tup _ 1
theorem ix2 (a b c : D) (r : List D) : idxD (.tup (a :: b :: c :: r)) (.int 2) = some c := idx_tup _ 2
theorem p0 (q : Qu) : idxD (pD q) (.int 0) = some (.str q.1) := ix0 _ _
theorem p1 (q : Qu) : idxD (pD q) (.int 1) = some (oS q.2) := ix1 _ _ _
def qk (Q : List Qu) (k : Nat) : Qu := Q.getD k ("", none)
theorem qk_eq {Q : List Qu} {k : Nat} (h : k < Q.length) : qk Q k = Q[k] := by simp [qk, List.getD_eq_getElem?_getD, h]
theorem qk_mem {Q : List Qu} {k : Nat} (h : k < Q.length) : qk Q k ∈ Q := by rw [qk_eq h]; exact List.getElem_mem _
theorem q_ix {Q : List Qu} {k : Nat} (h : k < Q.length) : idxD (qsD Q) (nD k) = some (pD (qk Q k)) := by
  unfold qsD
  rw [idx_tup, List.getElem?_map, List.getElem?_eq_getElem h, qk_eq h]; rfl
theorem q_len (Q : List Qu) : len1 [qsD Q] = some (nD Q.length) := by simp [qsD, len1]
theorem eq_nat (a b : Nat) : eqD (nD a) (.int (b : Int)) = some (.bl (decide (a = b))) := by
  simp only [eqD, scalD, Bool.true_or, if_true, eqvD]
  congr 2
  by_cases z : a = b
  · simp [z]
  · have : ¬ ((a : Int) = (b : Int)) := by omega
    simp [z, this]
theorem ne_nat (a b : Nat) : neD (nD a) (.int (b : Int)) = some (.bl (!decide (a = b))) := by
  simp only [neD, scalD, Bool.true_or, if_true, eqvD]
  congr 3
  by_cases z : a = b
  · simp [z]
  · have : ¬ ((a : Int) = (b : Int)) := by omega
    simp [z, this]
theorem eqv_str (x y : Str) : eqvD (.str x) (.str y) = decide (x = y) := by
  simp only [eqvD]
  by_cases h : x = y
  · subst h; simp
  · simp [h]
theorem eq_str (x y : Str) : eqD (.str x) (.str y) = some (.bl (decide (x = y))) := by
  simp only [eqD, scalD, Bool.true_or, if_true, eqv_str]
theorem ne_str (x y : Str) : neD (.str x) (.str y) = some (.bl (!decide (x = y))) := by
  simp only [neD, scalD, Bool.true_or, if_true, eqv_str]
theorem eqv_oS (a b : Option Str) : eqvD (oS a) (oS b) = decide (a = b) := by
  cases a <;> cases b <;> simp [oS, eqvD]
  rename_i x y
  by_cases h : x = y
  · subst h; simp
  · simp [h]
theorem scal_oS (a b : Option Str) : scalD (oS a) (oS b) = true := by cases a <;> cases b <;> rfl
theorem eq_oS (a b : Option Str) : eqD (oS a) (oS b) = some (.bl (decide (a = b))) := by
  simp only [eqD, scal_oS, Bool.true_or, if_true, eqv_oS]
theorem ne_oS (a b : Option Str) : neD (oS a) (oS b) = some (.bl (!decide (a = b))) := by
  simp only [neD, scal_oS, Bool.true_or, if_true, eqv_oS]
theorem isN_oS (a : Option Str) : isND (oS a) .non = some (.bl (decide (a = none))) := by cases a <;> rfl
theorem isntN_oS (a : Option Str) : isntND (oS a) .non = some (.bl (!decide (a = none))) := by cases a <;> rfl
theorem range0 (n : Nat) : rangeD 0 n = (List.range n).map nD := by
  unfold rangeD
  apply List.map_congr_left
  intro i _
  show D.int _ = D.int _
  congr 1
  omega
theorem range_get {n i : Nat} {d : D} (h : ((List.range n).map nD)[i]? = some d) : i < n ∧ d = nD i := by
  have hk : i < n := by
    have := (List.getElem?_eq_some_iff.mp h).1
    simpa using this
  rw [List.getElem?_map, List.getElem?_range hk] at h
  exact ⟨hk, by simpa using h.symm⟩
theorem sfor_of {src : ML td} {g : G} {b : SM td} {e e1 : List Sl} {t t1 : Td} {ds : List D} {fl : Fl} {e2 : List Sl} {t2 : Td} (h : src e t = some (ds, e1, t1)) (k : forL g b ds e1 t1 = some (fl, e2, t2)) : sfor src g b e t = some (fl, e2, t2) := by simp only [sfor, h, k]
theorem isT_no {d : D} (h : noTape d = true) (h2 : ∀ ds, d ≠ .tup ds) : isinstD "tuple" d = some false := by
  unfold isinstD
  rw [if_pos h]
  cases d <;> first | rfl | exact absurd rfl (h2 _)
theorem all1_bls (bs : List Bool) : all1 [.lst (bs.map .bl)] = some (.bl (bs.all id)) := by simp only [all1, blsD_map, Option.map_some]
theorem any1_bls (bs : List Bool) : any1 [.lst (bs.map .bl)] = some (.bl (bs.any id)) := by simp only [any1, blsD_map, Option.map_some]
theorem told_run (a b : Bool) (t : Td) : f__law_told [.bl a, .bl b] t = some (.bl (a == b), t) := by
  cases a <;> cases b <;> rfl
/-! ### mending -/
def mB (q b : Qu) : Bool := decide (b.1 = q.1) && (!decide (b.2 = none) && (decide (q.2 = none) || decide (b.2 = q.2)))
def mendB (Q B : List Qu) : Bool := decide (B.length = Q.length) && (List.range Q.length).all fun k => mB (qk Q k) (qk B k)
theorem law_mend_run (Q B : List Qu) (hQ : Q.length ≤ 100) (t : Td) : f__law_is_mending [qsD Q, qsD B] t = some (.bl (mendB Q B), t) := by
  have lQ := q_len Q
  have lB := q_len B
  have ne := ne_nat B.length Q.length
  by_cases hl : B.length = Q.length
  · rw [decide_eq_true hl] at ne
    obtain ⟨fl, e', t', l1, hh⟩ := forL_any (Z := td) (g := gset 2) (b := lb__law_is_mending_1) (ds := (List.range Q.length).map nD) (e := [.sh (qsD Q), .sh (qsD B), .no]) (t := t)
      (fun i e t1 => t1 = t ∧ (∃ s2, e = [.sh (qsD Q), .sh (qsD B), s2]) ∧ ∀ k, k < i → mB (qk Q k) (qk B k) = true)
      (fun r t1 => r = .bl false ∧ t1 = t ∧ ∃ k, k < Q.length ∧ mB (qk Q k) (qk B k) = false) ⟨rfl, ⟨.no, rfl⟩, fun k hk => absurd hk (by omega)⟩ fun i d e t1 hd hi => by
        obtain ⟨rfl, ⟨s2, rfl⟩, ha⟩ := hi
        obtain ⟨hk, rfl⟩ := range_get hd
        refine ⟨[.sh (qsD Q), .sh (qsD B), .sh (nD i)], rfl, if mB (qk Q i) (qk B i) then Fl.nx else Fl.rt (.bl false), [.sh (qsD Q), .sh (qsD B), .sh (nD i)], t1, ?_, ?_⟩
        · have a1 := q_ix hk
          have a2 := q_ix (Q := B) (k := i) (by omega)
          have b1 := p0 (qk Q i)
          have b2 := p1 (qk Q i)
          have c1 := p0 (qk B i)
          have c2 := p1 (qk B i)
          have n1 := ne_str (qk B i).1 (qk Q i).1
          have n2 := isN_oS (qk B i).2
          have n3 := isntN_oS (qk Q i).2
          have n4 := ne_oS (qk B i).2 (qk Q i).2
          unfold mB
          generalize qk Q i = q at *
          generalize qk B i = b at *
          generalize decide (b.1 = q.1) = x1 at n1 ⊢
          generalize decide (b.2 = none) = x2 at n2 ⊢
          generalize decide (q.2 = none) = x3 at n3 ⊢
          generalize decide (b.2 = q.2) = x4 at n4 ⊢
          generalize pD q = PQ at a1 b1 b2
          generalize pD b = PB at a2 c1 c2
          generalize D.str q.1 = Q1 at b1 n1
          generalize D.str b.1 = B1 at c1 n1
          generalize oS q.2 = Q2 at b2 n3 n4
          generalize oS b.2 = B2 at c2 n2 n4
          generalize nD i = ii at a1 a2 ⊢
          generalize qsD Q = QQ at a1 ⊢
          generalize qsD B = BB at a2 ⊢
          unfold lb__law_is_mending_1
          cases x1 <;> cases x2 <;> cases x3 <;> cases x4 <;> simp [mop, ev2, ev1, evA, getA, look, slotOk, mcst, mvar, asB, mlst, mtup, mcons, mnil, mfn, mfnL, evN, evAs, getAs, mite, band, bor, bnot, mand, mor, mnot, mcall, iseq, irange1, irange2, sset, ssetO, sret, sdrop, snil, sif, gset, mmut, isL1, ssub, spar, evOs, setSls, slOf, sasg, gtup, gcons, gnil, mslice, osome, onone, mopL, mlensetA, misinst, mmt, kindD, saug, byes, a1, a2, b1, b2, c1, c2, n1, n2, n3, n4]
        · by_cases q : mB (qk Q i) (qk B i) = true
          · rw [if_pos q]
            refine .inl ⟨.inl rfl, rfl, ⟨_, rfl⟩, fun k hk' => ?_⟩
            by_cases z : k = i
            · rw [z]; exact q
            · exact ha k (by omega)
          · rw [if_neg q]
            exact .inr ⟨_, rfl, rfl, rfl, i, hk, by simpa using q⟩
    have src : l__law_is_mending_1 [.sh (qsD Q), .sh (qsD B), .no] t = some (fl, e', t') := by
      unfold l__law_is_mending_1
      refine sfor_of (e1 := [.sh (qsD Q), .sh (qsD B), .no]) (t1 := t) (ds := (List.range Q.length).map nD) ?_ l1
      have b1 : ((Q.length : Nat) : Int) < 4611686018427387904 := by omega
      have rr := range0 Q.length
      generalize Q.length = n at lQ b1 rr ⊢
      generalize qsD Q = QQ at lQ ⊢
      generalize qsD B = BB
      simp [mop, ev2, ev1, evA, getA, look, slotOk, mcst, mvar, asB, mlst, mtup, mcons, mnil, mfn, mfnL, evN, evAs, getAs, mite, band, bor, bnot, mand, mor, mnot, mcall, iseq, irange1, irange2, sset, ssetO, sret, sdrop, snil, sif, gset, mmut, isL1, ssub, spar, evOs, setSls, slOf, sasg, gtup, gcons, gnil, mslice, osome, onone, mopL, mlensetA, misinst, mmt, kindD, saug, byes, lQ, b1, rr]
    have s0 : sif (Z := td) (asB (mop neD (.e (mfn len1 [(.v 1)])) (.e (mfn len1 [(.v 0)])))) (sret (mcst (.bl false))) snil [.sh (qsD Q), .sh (qsD B), .no] t = some (.nx, [.sh (qsD Q), .sh (qsD B), .no], t) := by
      have ne' : neD (nD B.length) (nD Q.length) = some (.bl (!true)) := ne
      generalize nD Q.length = z1 at lQ ne'
      generalize nD B.length = z2 at lB ne'
      generalize qsD Q = QQ at lQ ⊢
      generalize qsD B = BB at lB ⊢
      simp [mop, ev2, ev1, evA, getA, look, slotOk, mcst, mvar, asB, mlst, mtup, mcons, mnil, mfn, mfnL, evN, evAs, getAs, mite, band, bor, bnot, mand, mor, mnot, mcall, iseq, irange1, irange2, sset, ssetO, sret, sdrop, snil, sif, gset, mmut, isL1, ssub, spar, evOs, setSls, slOf, sasg, gtup, gcons, gnil, mslice, osome, onone, mopL, mlensetA, misinst, mmt, kindD, saug, byes, lQ, lB, ne']
    rcases hh with ⟨rfl, rfl, ⟨s2, rfl⟩, ha⟩ | ⟨r, rfl, rfl, rfl, k, hk, hb⟩
    · have m : mendB Q B = true := by
        simp only [mendB, hl, decide_true, Bool.true_and, List.all_eq_true]
        exact fun k hk => ha k (by simpa using hk)
      rw [m]
      exact runFn_at (Z := td) (e1 := [.sh (qsD Q), .sh (qsD B), s2]) [.sh (qsD Q), .sh (qsD B), .no] rfl (scons_nx (Z := td) s0 (scons_nx (Z := td) src rfl))
    · have m : mendB Q B = false := by
        simp only [mendB, hl, decide_true, Bool.true_and, List.all_eq_false]
        exact ⟨k, by simpa using hk, by simp [hb]⟩
      rw [m]
      exact runFn_at (Z := td) (e1 := e') [.sh (qsD Q), .sh (qsD B), .no] rfl (scons_nx (Z := td) s0 (scons_rt (Z := td) src))
  · rw [decide_eq_false hl] at ne
    have m : mendB Q B = false := by simp [mendB, hl]
    rw [m]
    have ne' : neD (nD B.length) (nD Q.length) = some (.bl (!false)) := ne
    generalize nD Q.length = z1 at lQ ne'
    generalize nD B.length = z2 at lB ne'
    generalize qsD Q = QQ at lQ ⊢
    generalize qsD B = BB at lB ⊢
    refine runFn_at (Z := td) (e1 := [.sh QQ, .sh BB, .no]) [.sh QQ, .sh BB, .no] rfl (scons_rt (Z := td) ?_)
    simp [mop, ev2, ev1, evA, getA, look, slotOk, mcst, mvar, asB, mlst, mtup, mcons, mnil, mfn, mfnL, evN, evAs, getAs, mite, band, bor, bnot, mand, mor, mnot, mcall, iseq, irange1, irange2, sset, ssetO, sret, sdrop, snil, sif, gset, mmut, isL1, ssub, spar, evOs, setSls, slOf, sasg, gtup, gcons, gnil, mslice, osome, onone, mopL, mlensetA, misinst, mmt, kindD, saug, byes, lQ, lB, ne']
end K91

namespace K91
open PySem L2 DL

/-- what the k-th step of is_mending says -/
def Step (Q : List Qu) (ds : List D) (k : Nat) (v : Bool) : Prop := ∀ (s3 : Sl) (t : Td), ∃ r3, lb_is_mending_1 [.sh (qsD Q), .sh (.tup ds), .sh (nD k), s3] t = some ((if v then Fl.nx else Fl.rt (.bl false)), [.sh (qsD Q), .sh (.tup ds), .sh (nD k), r3], t)
theorem mend_gen {Q : List Qu} {ds : List D} (hl : ds.length = Q.length) (hQ : Q.length ≤ 100) (v : Nat → Bool) (hb : ∀ k, k < Q.length → Step Q ds k (v k)) (t : Td) : f_is_mending [qsD Q, .tup ds] t = some (.bl ((List.range Q.length).all v), t) := by
  have lQ := q_len Q
  have lB : len1 [.tup ds] = some (nD Q.length) := by simp [len1, hl]
  have i : isinstD "tuple" (.tup ds) = some true := rfl
  obtain ⟨fl, e', t', l1, hh⟩ := forL_any (Z := td) (g := gset 2) (b := lb_is_mending_1) (ds := (List.range Q.length).map nD) (e := [.sh (qsD Q), .sh (.tup ds), .no, .no]) (t := t)
    (fun i e t1 => t1 = t ∧ (∃ s2 s3, e = [.sh (qsD Q), .sh (.tup ds), s2, s3]) ∧ ∀ k, k < i → v k = true)
    (fun r t1 => r = .bl false ∧ t1 = t ∧ ∃ k, k < Q.length ∧ v k = false) ⟨rfl, ⟨.no, .no, rfl⟩, fun k hk => absurd hk (by omega)⟩ fun i d e t1 hd hi => by
      obtain ⟨rfl, ⟨s2, s3, rfl⟩, ha⟩ := hi
      obtain ⟨hk, rfl⟩ := range_get hd
      obtain ⟨r3, st⟩ := hb i hk s3 t1
      refine ⟨[.sh (qsD Q), .sh (.tup ds), .sh (nD i), s3], rfl, _, _, _, st, ?_⟩
      by_cases q : v i = true
      · rw [if_pos q]
        refine .inl ⟨.inl rfl, rfl, ⟨_, _, rfl⟩, fun k hk' => ?_⟩
        by_cases z : k = i
        · rw [z]; exact q
        · exact ha k (by omega)
      · rw [if_neg q]
        exact .inr ⟨_, rfl, rfl, rfl, i, hk, by simpa using q⟩
  have src : l_is_mending_1 [.sh (qsD Q), .sh (.tup ds), .no, .no] t = some (fl, e', t') := by
    unfold l_is_mending_1
    refine sfor_of (e1 := [.sh (qsD Q), .sh (.tup ds), .no, .no]) (t1 := t) (ds := (List.range Q.length).map nD) ?_ l1
    have b1 : ((Q.length : Nat) : Int) < 4611686018427387904 := by omega
    have rr := range0 Q.length
    generalize Q.length = n at lQ b1 rr ⊢
    generalize qsD Q = QQ at lQ ⊢
    generalize D.tup ds = BB
    simp [mop, ev2, ev1, evA, getA, look, slotOk, mcst, mvar, asB, mlst, mtup, mcons, mnil, mfn, mfnL, evN, evAs, getAs, mite, band, bor, bnot, mand, mor, mnot, mcall, iseq, irange1, irange2, sset, ssetO, sret, sdrop, snil, sif, gset, mmut, isL1, ssub, spar, evOs, setSls, slOf, sasg, gtup, gcons, gnil, mslice, osome, onone, mopL, mlensetA, misinst, mmt, kindD, saug, byes, lQ, b1, rr]
  have s0 : sif (Z := td) (bor (bnot (asB (misinst "tuple" (.v 1)))) (asB (mop neD (.e (mfn len1 [(.v 1)])) (.e (mfn len1 [(.v 0)]))))) (sret (mcst (.bl false))) snil [.sh (qsD Q), .sh (.tup ds), .no, .no] t = some (.nx, [.sh (qsD Q), .sh (.tup ds), .no, .no], t) := by
    have ne : neD (nD Q.length) (nD Q.length) = some (.bl false) := by
      have := ne_nat Q.length Q.length
      rw [decide_eq_true rfl] at this
      exact this
    generalize nD Q.length = z1 at lQ lB ne
    generalize qsD Q = QQ at lQ ⊢
    generalize D.tup ds = BB at lB i ⊢
    simp [mop, ev2, ev1, evA, getA, look, slotOk, mcst, mvar, asB, mlst, mtup, mcons, mnil, mfn, mfnL, evN, evAs, getAs, mite, band, bor, bnot, mand, mor, mnot, mcall, iseq, irange1, irange2, sset, ssetO, sret, sdrop, snil, sif, gset, mmut, isL1, ssub, spar, evOs, setSls, slOf, sasg, gtup, gcons, gnil, mslice, osome, onone, mopL, mlensetA, misinst, mmt, kindD, saug, byes, i, lQ, lB, ne]
  rcases hh with ⟨rfl, rfl, ⟨s2, s3, rfl⟩, ha⟩ | ⟨r, rfl, rfl, rfl, k, hk, hb⟩
  · have m : (List.range Q.length).all v = true := by
      simp only [List.all_eq_true]
      exact fun k hk => ha k (by simpa using hk)
    rw [m]
    exact runFn_at (Z := td) (e1 := [.sh (qsD Q), .sh (.tup ds), s2, s3]) [.sh (qsD Q), .sh (.tup ds), .no, .no] rfl (scons_nx (Z := td) s0 (scons_nx (Z := td) src rfl))
  · have m : (List.range Q.length).all v = false := by
      simp only [List.all_eq_false]
      exact ⟨k, by simpa using hk, by simp [hb]⟩
    rw [m]
    exact runFn_at (Z := td) (e1 := e') [.sh (qsD Q), .sh (.tup ds), .no, .no] rfl (scons_nx (Z := td) s0 (scons_rt (Z := td) src))
theorem mend_no {Q : List Qu} {v : D} (h : noTape v = true) (h2 : ∀ ds, v ≠ .tup ds) (t : Td) : f_is_mending [qsD Q, v] t = some (.bl false, t) := by
  have i := isT_no h h2
  generalize qsD Q = QQ
  refine runFn_at (Z := td) (e1 := [.sh QQ, .sh v, .no, .no]) [.sh QQ, .sh v, .no, .no] rfl (scons_rt (Z := td) ?_)
  simp [mop, ev2, ev1, evA, getA, look, slotOk, mcst, mvar, asB, mlst, mtup, mcons, mnil, mfn, mfnL, evN, evAs, getAs, mite, band, bor, bnot, mand, mor, mnot, mcall, iseq, irange1, irange2, sset, ssetO, sret, sdrop, snil, sif, gset, mmut, isL1, ssub, spar, evOs, setSls, slOf, sasg, gtup, gcons, gnil, mslice, osome, onone, mopL, mlensetA, misinst, mmt, kindD, saug, byes, i]
theorem mend_len {Q : List Qu} {ds : List D} (h : ds.length ≠ Q.length) (t : Td) : f_is_mending [qsD Q, .tup ds] t = some (.bl false, t) := by
  have lQ := q_len Q
  have lB : len1 [.tup ds] = some (nD ds.length) := by simp [len1]
  have i : isinstD "tuple" (.tup ds) = some true := rfl
  have ne : neD (nD ds.length) (nD Q.length) = some (.bl true) := by
    have := ne_nat ds.length Q.length
    rw [decide_eq_false h] at this
    exact this
  generalize nD Q.length = z1 at lQ ne
  generalize nD ds.length = z2 at lB ne
  generalize qsD Q = QQ at lQ ⊢
  generalize D.tup ds = BB at lB i ⊢
  refine runFn_at (Z := td) (e1 := [.sh QQ, .sh BB, .no, .no]) [.sh QQ, .sh BB, .no, .no] rfl (scons_rt (Z := td) ?_)
  simp [mop, ev2, ev1, evA, getA, look, slotOk, mcst, mvar, asB, mlst, mtup, mcons, mnil, mfn, mfnL, evN, evAs, getAs, mite, band, bor, bnot, mand, mor, mnot, mcall, iseq, irange1, irange2, sset, ssetO, sret, sdrop, snil, sif, gset, mmut, isL1, ssub, spar, evOs, setSls, slOf, sasg, gtup, gcons, gnil, mslice, osome, onone, mopL, mlensetA, misinst, mmt, kindD, saug, byes, i, lQ, lB, ne]
/-! ### the steps -/
theorem step_pair {Q : List Qu} {ds : List D} {k : Nat} (hk : k < Q.length) {b : Qu} (hd : ds[k]? = some (pD b)) (ob : Okp b) : Step Q ds k (mB (qk Q k) b) := by
  intro s3 t
  have a1 := q_ix hk
  have a2 : idxD (.tup ds) (nD k) = some (pD b) := by rw [idx_tup, hd]
  have b1 := p0 (qk Q k)
  have b2 := p1 (qk Q k)
  have c1 := p0 b
  have c2 := p1 b
  have n1 := ne_str b.1 (qk Q k).1
  have n3 := isntN_oS (qk Q k).2
  have n4 := ne_oS b.2 (qk Q k).2
  have i : isinstD "tuple" (pD b) = some true := rfl
  have l2 : len1 [pD b] = some (nD 2) := rfl
  have e2 : neD (nD 2) (.int 2) = some (.bl false) := rfl
  refine ⟨.sh (pD b), ?_⟩
  unfold mB
  generalize qk Q k = q at *
  cases z : b.2 with
  | none =>
    rw [z] at c2 n4
    have i2 : isinstD "str" (oS none) = some false := rfl
    simp only [decide_true, Bool.not_true, Bool.false_and, Bool.and_false, Bool.false_eq_true, if_false]
    generalize decide (b.1 = q.1) = x1 at n1
    generalize nD 2 = two at l2 e2
    generalize pD q = PQ at a1 b1 b2
    generalize pD b = PB at a2 c1 c2 i l2 ⊢
    generalize D.str q.1 = Q1 at b1 n1
    generalize D.str b.1 = B1 at c1 n1
    generalize oS q.2 = Q2 at b2 n3 n4
    generalize oS none = B2 at c2 n4 i2
    generalize nD k = ii at a1 a2 ⊢
    generalize qsD Q = QQ at a1 ⊢
    generalize D.tup ds = BB at a2 ⊢
    unfold lb_is_mending_1
    cases x1 <;> simp [mop, ev2, ev1, evA, getA, look, slotOk, mcst, mvar, asB, mlst, mtup, mcons, mnil, mfn, mfnL, evN, evAs, getAs, mite, band, bor, bnot, mand, mor, mnot, mcall, iseq, irange1, irange2, sset, ssetO, sret, sdrop, snil, sif, gset, mmut, isL1, ssub, spar, evOs, setSls, slOf, sasg, gtup, gcons, gnil, mslice, osome, onone, mopL, mlensetA, misinst, mmt, kindD, saug, byes, scons, a1, a2, b1, b2, c1, c2, n1, n3, n4, i, i2, l2, e2]
  | some c =>
    rw [z] at c2 n4
    have i2 : isinstD "str" (oS (some c)) = some true := rfl
    obtain ⟨wv, hw⟩ : ∃ wv, f_is_word [oS (some c)] t = some (.bl wv, t) ∧ neD (oS (some c)) (.str "") = some (.bl wv) := by
      rcases ob.c c z with rfl | h
      · exact ⟨false, rfl, rfl⟩
      · refine ⟨true, w6_word t c h, ?_⟩
        have := ne_str c ""
        rw [decide_eq_false (w6_ok c h).2] at this
        exact this
    obtain ⟨h1, h2⟩ := hw
    have e0 : decide ((some c : Option Str) = none) = false := by simp
    rw [e0]
    simp only [Bool.not_false, Bool.true_and]
    generalize decide (b.1 = q.1) = x1 at n1 ⊢
    generalize decide (q.2 = none) = x3 at n3 ⊢
    generalize decide (some c = q.2) = x4 at n4 ⊢
    generalize nD 2 = two at l2 e2
    generalize pD q = PQ at a1 b1 b2
    generalize pD b = PB at a2 c1 c2 i l2 ⊢
    generalize D.str q.1 = Q1 at b1 n1
    generalize D.str b.1 = B1 at c1 n1
    generalize oS q.2 = Q2 at b2 n3 n4
    generalize oS (some c) = B2 at c2 n4 i2 h1 h2
    generalize nD k = ii at a1 a2 ⊢
    generalize qsD Q = QQ at a1 ⊢
    generalize D.tup ds = BB at a2 ⊢
    unfold lb_is_mending_1
    obtain ⟨F, hF⟩ : ∃ z, z = f_is_word := ⟨_, rfl⟩
    rw [← hF] at h1 ⊢
    clear hF
    cases wv <;> cases x1 <;> cases x3 <;> cases x4 <;> simp [mop, ev2, ev1, evA, getA, look, slotOk, mcst, mvar, asB, mlst, mtup, mcons, mnil, mfn, mfnL, evN, evAs, getAs, mite, band, bor, bnot, mand, mor, mnot, mcall, iseq, irange1, irange2, sset, ssetO, sret, sdrop, snil, sif, gset, mmut, isL1, ssub, spar, evOs, setSls, slOf, sasg, gtup, gcons, gnil, mslice, osome, onone, mopL, mlensetA, misinst, mmt, kindD, saug, byes, scons, a1, a2, b1, b2, c1, c2, n1, n3, n4, i, i2, l2, e2, h1, h2]
theorem mend_run {Q B : List Qu} (hQ : Q.length ≤ 100) (hB : Oks B) (t : Td) : f_is_mending [qsD Q, qsD B] t = some (.bl (mendB Q B), t) := by
  by_cases hl : B.length = Q.length
  · have := mend_gen (Q := Q) (ds := B.map pD) (by rw [List.length_map]; exact hl) hQ (fun k => mB (qk Q k) (qk B k)) (fun k hk => step_pair hk (by rw [List.getElem?_map, List.getElem?_eq_getElem (by omega), qk_eq (by omega)]; rfl) (hB _ (qk_mem (by omega)))) t
    rw [show qsD B = .tup (B.map pD) from rfl, this]
    simp [mendB, hl]
  · have m : mendB Q B = false := by simp [mendB, hl]
    rw [m]
    exact mend_len (by rw [List.length_map]; exact hl) t
/-- a last thing that is no pair of the kind -/
theorem step_bad {Q : List Qu} {ds : List D} {k : Nat} (hk : k < Q.length) {x : D} (hd : ds[k]? = some x) (hx : x = .non ∨ (∃ a, x = .tup [a]) ∨ (∃ a b, x = .lst [a, b]) ∨ (x = .tup [.str (qk Q k).1, .str "A"])) : Step Q ds k false := by
  intro s3 t
  have a1 := q_ix hk
  have a2 : idxD (.tup ds) (nD k) = some x := by rw [idx_tup, hd]
  have b1 := p0 (qk Q k)
  refine ⟨.sh x, ?_⟩
  generalize qk Q k = q at *
  generalize D.tup ds = BB at a2 ⊢
  have one : neD (nD 1) (.int 2) = some (.bl true) := rfl
  rcases hx with rfl | ⟨a, rfl⟩ | ⟨a, b, rfl⟩ | rfl
  · have i : isinstD "tuple" .non = some false := rfl
    generalize nD k = ii at a1 a2 ⊢
    generalize pD q = PQ at a1 b1
    generalize qsD Q = QQ at a1 ⊢
    unfold lb_is_mending_1
    simp [mop, ev2, ev1, evA, getA, look, slotOk, mcst, mvar, asB, mlst, mtup, mcons, mnil, mfn, mfnL, evN, evAs, getAs, mite, band, bor, bnot, mand, mor, mnot, mcall, iseq, irange1, irange2, sset, ssetO, sret, sdrop, snil, sif, gset, mmut, isL1, ssub, spar, evOs, setSls, slOf, sasg, gtup, gcons, gnil, mslice, osome, onone, mopL, mlensetA, misinst, mmt, kindD, saug, byes, scons, a1, a2, b1, i]
  · have i : isinstD "tuple" (.tup [a]) = some true := rfl
    have l : len1 [.tup [a]] = some (nD 1) := rfl
    generalize nD 1 = z1 at l one
    generalize D.tup [a] = X at a2 i l ⊢
    generalize nD k = ii at a1 a2 ⊢
    generalize pD q = PQ at a1 b1
    generalize qsD Q = QQ at a1 ⊢
    unfold lb_is_mending_1
    simp [mop, ev2, ev1, evA, getA, look, slotOk, mcst, mvar, asB, mlst, mtup, mcons, mnil, mfn, mfnL, evN, evAs, getAs, mite, band, bor, bnot, mand, mor, mnot, mcall, iseq, irange1, irange2, sset, ssetO, sret, sdrop, snil, sif, gset, mmut, isL1, ssub, spar, evOs, setSls, slOf, sasg, gtup, gcons, gnil, mslice, osome, onone, mopL, mlensetA, misinst, mmt, kindD, saug, byes, scons, a1, a2, b1, i, l, one]
  · have i : isinstD "tuple" (.lst [a, b]) = some false := rfl
    generalize D.lst [a, b] = X at a2 i ⊢
    generalize nD k = ii at a1 a2 ⊢
    generalize pD q = PQ at a1 b1
    generalize qsD Q = QQ at a1 ⊢
    unfold lb_is_mending_1
    simp [mop, ev2, ev1, evA, getA, look, slotOk, mcst, mvar, asB, mlst, mtup, mcons, mnil, mfn, mfnL, evN, evAs, getAs, mite, band, bor, bnot, mand, mor, mnot, mcall, iseq, irange1, irange2, sset, ssetO, sret, sdrop, snil, sif, gset, mmut, isL1, ssub, spar, evOs, setSls, slOf, sasg, gtup, gcons, gnil, mslice, osome, onone, mopL, mlensetA, misinst, mmt, kindD, saug, byes, scons, a1, a2, b1, i]
  · have i : isinstD "tuple" (.tup [.str q.1, .str "A"]) = some true := rfl
    have l : len1 [.tup [.str q.1, .str "A"]] = some (nD 2) := rfl
    have e2 : neD (nD 2) (.int 2) = some (.bl false) := rfl
    have c1 : idxD (.tup [.str q.1, .str "A"]) (.int 0) = some (.str q.1) := ix0 _ _
    have c2 : idxD (.tup [.str q.1, .str "A"]) (.int 1) = some (.str "A") := ix1 _ _ _
    have n1 := ne_str q.1 q.1
    rw [decide_eq_true rfl] at n1
    have i2 : isinstD "str" (.str "A") = some true := rfl
    have wA : f_is_word [.str "A"] t = some (.bl false, t) := rfl
    have nA : neD (.str "A") (.str "") = some (.bl true) := rfl
    generalize nD 2 = z1 at l e2
    generalize D.tup [.str q.1, .str "A"] = X at a2 i l c1 c2 ⊢
    generalize D.str q.1 = Q1 at b1 c1 n1
    generalize nD k = ii at a1 a2 ⊢
    generalize pD q = PQ at a1 b1
    generalize qsD Q = QQ at a1 ⊢
    unfold lb_is_mending_1
    obtain ⟨F, hF⟩ : ∃ z, z = f_is_word := ⟨_, rfl⟩
    rw [← hF] at wA ⊢
    clear hF
    simp [mop, ev2, ev1, evA, getA, look, slotOk, mcst, mvar, asB, mlst, mtup, mcons, mnil, mfn, mfnL, evN, evAs, getAs, mite, band, bor, bnot, mand, mor, mnot, mcall, iseq, irange1, irange2, sset, ssetO, sret, sdrop, snil, sif, gset, mmut, isL1, ssub, spar, evOs, setSls, slOf, sasg, gtup, gcons, gnil, mslice, osome, onone, mopL, mlensetA, misinst, mmt, kindD, saug, byes, scons, a1, a2, b1, i, l, e2, c1, c2, n1, i2, wA, nA]
end K91

namespace K91
open PySem L2 DL

theorem whole_run (k : Nat) (lo hi : Int) (t : Td) : f_is_whole [nD k, .int lo, .int hi] t = some (.bl (decide (lo ≤ (k : Int)) && decide ((k : Int) ≤ hi)), t) := by
  have i1 : isinstD "int" (nD k) = some true := rfl
  have i2 : isinstD "bool" (nD k) = some false := rfl
  have l1 : leD (.int lo) (nD k) = some (.bl (decide (lo ≤ (k : Int)))) := rfl
  have l2 : leD (nD k) (.int hi) = some (.bl (decide ((k : Int) ≤ hi))) := rfl
  generalize decide (lo ≤ (k : Int)) = x1 at l1 ⊢
  generalize decide ((k : Int) ≤ hi) = x2 at l2 ⊢
  generalize nD k = K at *
  refine runFn_at (Z := td) (e1 := [.sh K, .sh (.int lo), .sh (.int hi)]) [.sh K, .sh (.int lo), .sh (.int hi)] rfl (sret_ev (Z := td) ?_)
  cases x1 <;> simp [mop, ev2, ev1, evA, getA, look, slotOk, mcst, mvar, asB, mlst, mtup, mcons, mnil, mfn, mfnL, evN, evAs, getAs, mite, band, bor, bnot, mand, mor, mnot, mcall, iseq, irange1, irange2, sset, ssetO, sret, sdrop, snil, sif, gset, mmut, isL1, ssub, spar, evOs, setSls, slOf, sasg, gtup, gcons, gnil, mslice, osome, onone, mopL, mlensetA, misinst, mmt, kindD, saug, byes, i1, i2, l1, l2, mchain]
def ascB (o : List Nat) : Bool := (List.range (o.length - 1)).all fun k => decide (o.getD k 0 < o.getD (k + 1) 0)
theorem o_ix {o : List Nat} {k : Nat} (h : k < o.length) : idxD (isD o) (nD k) = some (nD (o.getD k 0)) := by
  unfold isD
  rw [idx_tup, List.getElem?_map, List.getElem?_eq_getElem h]
  simp [List.getD_eq_getElem?_getD, h]
theorem o_len (o : List Nat) : len1 [isD o] = some (nD o.length) := by simp [isD, len1]
theorem asc_run {o : List Nat} {n : Nat} (ho : ∀ k ∈ o, k < n) (hl : o.length ≤ 100) (t : Td) : f_is_ascending [isD o, .int 0, .int ((n : Int) - 1)] t = some (.bl (ascB o), t) := by
  have i : isinstD "tuple" (isD o) = some true := rfl
  have c2 : c_is_ascending_2 [.sh (isD o), .sh (.int 0), .sh (.int ((n : Int) - 1)), .no, .no] t = some (.lst ((o.map fun _ => true).map .bl), [.sh (isD o), .sh (.int 0), .sh (.int ((n : Int) - 1)), .no, .no], t) := by
    unfold c_is_ascending_2
    rw [List.map_map]
    refine mlc_all (Z := td) (e1 := [.sh (isD o), .sh (.int 0), .sh (.int ((n : Int) - 1)), .no, .no]) (t1 := t) nD (fun _ => D.bl true) o ?_ rfl (by omega) fun k hk => ⟨[.sh (isD o), .sh (.int 0), .sh (.int ((n : Int) - 1)), .sh (nD k), .no], rfl, rfl, [.sh (isD o), .sh (.int 0), .sh (.int ((n : Int) - 1)), .sh (nD k), .no], ?_, rfl⟩
    · generalize (n : Int) - 1 = h
      unfold isD
      simp [mop, ev2, ev1, evA, getA, look, slotOk, mcst, mvar, asB, mlst, mtup, mcons, mnil, mfn, mfnL, evN, evAs, getAs, mite, band, bor, bnot, mand, mor, mnot, mcall, iseq, irange1, irange2, sset, ssetO, sret, sdrop, snil, sif, gset, mmut, isL1, ssub, spar, evOs, setSls, slOf, sasg, gtup, gcons, gnil, mslice, osome, onone, mopL, mlensetA, misinst, mmt, kindD, saug, byes]
    · have w := whole_run k 0 ((n : Int) - 1) t
      have b := ho k hk
      rw [decide_eq_true (by omega : (0 : Int) ≤ (k : Int)), decide_eq_true (by omega : (k : Int) ≤ (n : Int) - 1)] at w
      generalize (n : Int) - 1 = h at w ⊢
      generalize nD k = K at w ⊢
      generalize isD o = O
      unfold ce_is_ascending_2
      obtain ⟨F, hF⟩ : ∃ z, z = f_is_whole := ⟨_, rfl⟩
      rw [← hF] at w ⊢
      clear hF
      simp [mop, ev2, ev1, evA, getA, look, slotOk, mcst, mvar, asB, mlst, mtup, mcons, mnil, mfn, mfnL, evN, evAs, getAs, mite, band, bor, bnot, mand, mor, mnot, mcall, iseq, irange1, irange2, sset, ssetO, sret, sdrop, snil, sif, gset, mmut, isL1, ssub, spar, evOs, setSls, slOf, sasg, gtup, gcons, gnil, mslice, osome, onone, mopL, mlensetA, misinst, mmt, kindD, saug, byes, w]
  have a2 : all1 [.lst ((o.map fun _ => true).map .bl)] = some (.bl true) := by
    rw [all1_bls]
    congr 2
    simp
  have c1 : c_is_ascending_1 [.sh (isD o), .sh (.int 0), .sh (.int ((n : Int) - 1)), .no, .no] t = some (.lst (((List.range (o.length - 1)).map fun k => decide (o.getD k 0 < o.getD (k + 1) 0)).map .bl), [.sh (isD o), .sh (.int 0), .sh (.int ((n : Int) - 1)), .no, .no], t) := by
    unfold c_is_ascending_1
    rw [List.map_map]
    refine mlc_all (Z := td) (e1 := [.sh (isD o), .sh (.int 0), .sh (.int ((n : Int) - 1)), .no, .no]) (t1 := t) nD (D.bl ∘ fun k => decide (o.getD k 0 < o.getD (k + 1) 0)) (List.range (o.length - 1)) ?_ rfl (by rw [List.length_range]; omega) fun k hk => ⟨[.sh (isD o), .sh (.int 0), .sh (.int ((n : Int) - 1)), .no, .sh (nD k)], rfl, rfl, [.sh (isD o), .sh (.int 0), .sh (.int ((n : Int) - 1)), .no, .sh (nD k)], ?_, rfl⟩
    · have l := o_len o
      have sb : subD (nD o.length) (.int 1) = some (.int ((o.length : Int) - 1)) := rfl
      have b1 : ((o.length : Int) - 1) < 4611686018427387904 := by omega
      have b2 : (-4611686018427387904 : Int) ≤ ((o.length : Int) - 1) := by omega
      have e : ((o.length : Int) - 1).toNat = o.length - 1 := by omega
      have rr := range0 (o.length - 1)
      generalize o.length - 1 = m at e rr ⊢
      generalize ((o.length : Int) - 1) = z at sb b1 b2 e
      generalize nD o.length = L at l sb
      generalize (n : Int) - 1 = h
      generalize isD o = O at l ⊢
      simp [mop, ev2, ev1, evA, getA, look, slotOk, mcst, mvar, asB, mlst, mtup, mcons, mnil, mfn, mfnL, evN, evAs, getAs, mite, band, bor, bnot, mand, mor, mnot, mcall, iseq, irange1, irange2, sset, ssetO, sret, sdrop, snil, sif, gset, mmut, isL1, ssub, spar, evOs, setSls, slOf, sasg, gtup, gcons, gnil, mslice, osome, onone, mopL, mlensetA, misinst, mmt, kindD, saug, byes, l, sb, b1, b2, e, rr]
    · have hk := List.mem_range.mp hk
      have a1 := o_ix (o := o) (k := k) (by omega)
      have a2 := o_ix (o := o) (k := k + 1) (by omega)
      have ad : addD (nD k) (.int 1) = some (nD (k + 1)) := by simp [addD]
      have lt : ltD (nD (o.getD k 0)) (nD (o.getD (k + 1) 0)) = some (.bl (decide (o.getD k 0 < o.getD (k + 1) 0))) := by simp [ltD, cmpD]
      show ce_is_ascending_1 _ t = some (.bl (decide (o.getD k 0 < o.getD (k + 1) 0)), _, t)
      generalize decide (o.getD k 0 < o.getD (k + 1) 0) = B at lt ⊢
      generalize nD (o.getD k 0) = x1 at a1 lt
      generalize nD (o.getD (k + 1) 0) = x2 at a2 lt
      generalize nD (k + 1) = k1 at a2 ad
      generalize nD k = k0 at a1 ad ⊢
      generalize (n : Int) - 1 = h
      generalize isD o = O at a1 a2 ⊢
      unfold ce_is_ascending_1
      simp [mop, ev2, ev1, evA, getA, look, slotOk, mcst, mvar, asB, mlst, mtup, mcons, mnil, mfn, mfnL, evN, evAs, getAs, mite, band, bor, bnot, mand, mor, mnot, mcall, iseq, irange1, irange2, sset, ssetO, sret, sdrop, snil, sif, gset, mmut, isL1, ssub, spar, evOs, setSls, slOf, sasg, gtup, gcons, gnil, mslice, osome, onone, mopL, mlensetA, misinst, mmt, kindD, saug, byes, a1, a2, ad, lt]
  have a1 : all1 [.lst (((List.range (o.length - 1)).map fun k => decide (o.getD k 0 < o.getD (k + 1) 0)).map .bl)] = some (.bl (ascB o)) := by
    rw [all1_bls, List.all_map]; rfl
  generalize ascB o = B at a1 ⊢
  generalize D.lst (((List.range (o.length - 1)).map fun k => decide (o.getD k 0 < o.getD (k + 1) 0)).map .bl) = W1 at c1 a1
  generalize D.lst ((o.map fun _ => true).map .bl) = W2 at c2 a2
  generalize (n : Int) - 1 = h at c1 c2 ⊢
  generalize isD o = O at i c1 c2 ⊢
  refine runFn_at (Z := td) (e1 := [.sh O, .sh (.int 0), .sh (.int h), .no, .no]) [.sh O, .sh (.int 0), .sh (.int h), .no, .no] rfl (scons_nx (Z := td) (e1 := [.sh O, .sh (.int 0), .sh (.int h), .no, .no]) (t1 := t) ?_ (sret_ev (Z := td) ?_))
  · obtain ⟨C, hC⟩ : ∃ z, z = c_is_ascending_2 := ⟨_, rfl⟩
    rw [← hC] at c2 ⊢
    clear hC
    simp [mop, ev2, ev1, evA, getA, look, slotOk, mcst, mvar, asB, mlst, mtup, mcons, mnil, mfn, mfnL, evN, evAs, getAs, mite, band, bor, bnot, mand, mor, mnot, mcall, iseq, irange1, irange2, sset, ssetO, sret, sdrop, snil, sif, gset, mmut, isL1, ssub, spar, evOs, setSls, slOf, sasg, gtup, gcons, gnil, mslice, osome, onone, mopL, mlensetA, misinst, mmt, kindD, saug, byes, i, c2, a2]
  · obtain ⟨C, hC⟩ : ∃ z, z = c_is_ascending_1 := ⟨_, rfl⟩
    rw [← hC] at c1 ⊢
    clear hC
    simp [mop, ev2, ev1, evA, getA, look, slotOk, mcst, mvar, asB, mlst, mtup, mcons, mnil, mfn, mfnL, evN, evAs, getAs, mite, band, bor, bnot, mand, mor, mnot, mcall, iseq, irange1, irange2, sset, ssetO, sret, sdrop, snil, sif, gset, mmut, isL1, ssub, spar, evOs, setSls, slOf, sasg, gtup, gcons, gnil, mslice, osome, onone, mopL, mlensetA, misinst, mmt, kindD, saug, byes, c1, a1]
theorem asc_no {v lo hi : D} (h : noTape v = true) (h2 : ∀ ds, v ≠ .tup ds) (t : Td) : f_is_ascending [v, lo, hi] t = some (.bl false, t) := by
  have i := isT_no h h2
  refine runFn_at (Z := td) (e1 := [.sh v, .sh lo, .sh hi, .no, .no]) [.sh v, .sh lo, .sh hi, .no, .no] rfl (scons_rt (Z := td) ?_)
  simp [mop, ev2, ev1, evA, getA, look, slotOk, mcst, mvar, asB, mlst, mtup, mcons, mnil, mfn, mfnL, evN, evAs, getAs, mite, band, bor, bnot, mand, mor, mnot, mcall, iseq, irange1, irange2, sset, ssetO, sret, sdrop, snil, sif, gset, mmut, isL1, ssub, spar, evOs, setSls, slOf, sasg, gtup, gcons, gnil, mslice, osome, onone, mopL, mlensetA, misinst, mmt, kindD, saug, byes, i]
theorem asc_bool {hi : Int} (t : Td) : f_is_ascending [.tup [.bl true], .int 0, .int hi] t = some (.bl false, t) := rfl
/-! ### orders -/
theorem eqvL_ints : ∀ xs ys : List Int, eqvL (xs.map .int) (ys.map .int) = decide (xs = ys)
  | [], [] => by simp [eqvL]
  | [], _ :: _ => by simp [eqvL]
  | _ :: _, [] => by simp [eqvL]
  | x :: xs, y :: ys => by
    simp only [List.map_cons, eqvL, eqvD, eqvL_ints xs ys]
    by_cases h : x = y
    · subst h; simp
    · simp [h]
theorem eqvL_oS : ∀ xs ys : List (Option Str), eqvL (xs.map oS) (ys.map oS) = decide (xs = ys)
  | [], [] => by simp [eqvL]
  | [], _ :: _ => by simp [eqvL]
  | _ :: _, [] => by simp [eqvL]
  | x :: xs, y :: ys => by
    simp only [List.map_cons, eqvL, eqv_oS, eqvL_oS xs ys]
    by_cases h : x = y
    · subst h; simp
    · simp [h]
theorem ok_ints (xs : List Int) : okD 30 (.lst (xs.map .int)) = true ∧ okD 30 (.tup (xs.map .int)) = true := by
  simp [okD, List.all_eq_true]
theorem ok_oS {xs : List (Option Str)} (h : ∀ o ∈ xs, ∀ x, o = some x → PyData.strOk x = true) : okD 30 (.lst (xs.map oS)) = true := by
  simp only [okD, List.all_eq_true]
  intro d hd
  obtain ⟨o, ho, rfl⟩ := List.mem_map.mp hd
  cases o with
  | none => rfl
  | some x => exact h _ ho x rfl
def natI (o : List Nat) : List Int := o.map fun (k : Nat) => (k : Int)
theorem isD_natI (o : List Nat) : isD o = .tup ((natI o).map .int) := by unfold isD natI; rw [List.map_map]; rfl
def sortedB (n : Nat) (o : List Nat) : Bool := decide (sortI (natI o) = natI (List.range n))
def caught (B : List Qu) (o : List Nat) : List (Option Str) := o.map fun k => (qk B k).2
def firsts (B : List Qu) (o : List Nat) : List (Option Str) := (o.drop 1).map (fun k => some (qk B k).1) ++ [some ("" : Str)]
def ordB (B : List Qu) (o : List Nat) : Bool := sortedB B.length o && decide (caught B o = firsts B o)
theorem okp_str {q : Qu} (h : Okp q) : ∀ x, q.2 = some x → PyData.strOk x = true := fun x e => by
  rcases h.c x e with rfl | h
  · exact ok_emp
  · exact (w6_ok x h).1
theorem sort_o {o : List Nat} (hl : o.length < 64) : sortA1 [isD o] = some ((sortI (natI o)).map .int) := by
  have : (natI o).length < 64 := by unfold natI; rw [List.length_map]; exact hl
  rw [isD_natI]
  simp only [sortA1, intsD_map, this, if_true]
theorem listR_len {n : Nat} (h : n ≤ 100) : (rangeD 0 n) = (natI (List.range n)).map .int := by
  rw [range0]; unfold natI; rw [List.map_map]; rfl
theorem cut_from (xs : List D) (k : Nat) : cutD xs (some (k : Int)) none = xs.drop k := by
  unfold cutD
  rw [HT.sIx_none, HT.sIx_nat]
  by_cases h : k ≤ xs.length
  · rw [Nat.min_eq_left h, List.take_of_length_le (by rw [List.length_drop]; omega)]
  · rw [Nat.min_eq_right (by omega), List.drop_length, List.drop_eq_nil_of_le (by omega)]; simp
theorem cut_take (xs : List D) (k : Nat) : cutD xs none (some (k : Int)) = xs.take k := by
  unfold cutD
  rw [HT.sIx_none, HT.sIx_nat, List.drop_zero, Nat.sub_zero]
  by_cases h : k ≤ xs.length
  · rw [Nat.min_eq_left h]
  · rw [Nat.min_eq_right (by omega), List.take_length, List.take_of_length_le (by omega)]
theorem sl_from (xs : List D) (k : Nat) : sliceD (.tup xs) (some (k : Int)) none = some (.tup (xs.drop k)) := by
  show some (D.tup (cutD xs (some (k : Int)) none)) = _
  rw [cut_from]
theorem sl_take (xs : List D) (k : Nat) : sliceD (.tup xs) none (some (k : Int)) = some (.tup (xs.take k)) := by
  show some (D.tup (cutD xs none (some (k : Int)))) = _
  rw [cut_take]
theorem add_lst {a b : List D} (h : a.length + b.length ≤ 20000) : addD (.lst a) (.lst b) = some (.lst (a ++ b)) := by
  have : a.length + b.length ≤ sizeLine := Nat.le_trans h (by decide)
  simp only [addD, this, if_true]
theorem add_tup {a b : List D} (h : a.length + b.length ≤ 1000) : addD (.tup a) (.tup b) = some (.tup (a ++ b)) := by
  have : a.length + b.length ≤ sizeLine := Nat.le_trans h (by decide)
  simp only [addD, this, if_true]
theorem fin_add (B : List Qu) (o : List Nat) (hl : o.length ≤ 1000) : addD (.lst ((o.drop 1).map fun k => .str (qk B k).1)) (.lst [.str ""]) = some (.lst ((firsts B o).map oS)) := by
  rw [add_lst (by simp; omega)]
  unfold firsts
  rw [List.map_append, List.map_map]
  rfl
theorem caught_ok {B : List Qu} {o : List Nat} (hB : Oks B) (ho : ∀ k ∈ o, k < B.length) : okD 30 (.lst ((caught B o).map oS)) = true ∧ okD 30 (.lst ((firsts B o).map oS)) = true := by
  refine ⟨ok_oS fun c hc x e => ?_, ok_oS fun c hc x e => ?_⟩
  · obtain ⟨k, hk, rfl⟩ := List.mem_map.mp hc
    exact okp_str (hB _ (qk_mem (ho k hk))) x e
  · rcases List.mem_append.mp hc with hc | hc
    · obtain ⟨k, hk, rfl⟩ := List.mem_map.mp hc
      simp at e; subst e
      exact (w6_ok _ (hB _ (qk_mem (ho k (List.mem_of_mem_drop hk)))).f).1
    · simp at hc; subst hc; simp at e; subst e; exact ok_emp
theorem law_order_run {B : List Qu} {o : List Nat} (hB : Oks B) (hl : B.length ≤ 100) (ho : ∀ k ∈ o, k < B.length) (h64 : o.length < 64) (t : Td) : f__law_is_order [qsD B, isD o] t = some (.bl (ordB B o), t) := by
  have lB := q_len B
  have so := sort_o h64
  have lr := listR_len hl
  have o1 := (ok_ints (sortI (natI o))).1
  have o2 := (ok_ints (natI (List.range B.length))).1
  have ne : neD (.lst ((sortI (natI o)).map .int)) (.lst ((natI (List.range B.length)).map .int)) = some (.bl (!sortedB B.length o)) := by
    simp only [neD, o1, o2, Bool.and_self, Bool.or_true, if_true, eqvD, eqvL_ints]
    rfl
  have s1 : ∀ x : SM td, sortedB B.length o = true → sif (asB (mop neD (.e (mfnL sortA1 [(.v 1)])) (.e (mlistR (mfn len1 [(.v 0)]))))) x snil [.sh (qsD B), .sh (isD o), .no] t = some (.nx, [.sh (qsD B), .sh (isD o), .no], t) := by
    intro x q
    rw [q] at ne
    have b1 : (0 : Int) ≤ (B.length : Int) ∧ (B.length : Int) ≤ 1000 := by omega
    generalize (natI (List.range B.length)).map D.int = R at lr ne
    generalize (sortI (natI o)).map D.int = S at so ne
    generalize B.length = n at lB lr b1
    generalize isD o = O at so ⊢
    generalize qsD B = BB at lB ⊢
    simp [mop, ev2, ev1, evA, getA, look, slotOk, mcst, mvar, asB, mlst, mtup, mcons, mnil, mfn, mfnL, evN, evAs, getAs, mite, band, bor, bnot, mand, mor, mnot, mcall, iseq, irange1, irange2, sset, ssetO, sret, sdrop, snil, sif, gset, mmut, isL1, ssub, spar, evOs, setSls, slOf, sasg, gtup, gcons, gnil, mslice, osome, onone, mopL, mlensetA, misinst, mmt, kindD, saug, byes, so, lB, mlistR, b1, lr, ne]
  have s2 : sortedB B.length o = false → sif (Z := td) (asB (mop neD (.e (mfnL sortA1 [(.v 1)])) (.e (mlistR (mfn len1 [(.v 0)]))))) (sret (mcst (.bl false))) snil [.sh (qsD B), .sh (isD o), .no] t = some (.rt (.bl false), [.sh (qsD B), .sh (isD o), .no], t) := by
    intro q
    rw [q] at ne
    have b1 : (0 : Int) ≤ (B.length : Int) ∧ (B.length : Int) ≤ 1000 := by omega
    generalize (natI (List.range B.length)).map D.int = R at lr ne
    generalize (sortI (natI o)).map D.int = S at so ne
    generalize B.length = n at lB lr b1
    generalize isD o = O at so ⊢
    generalize qsD B = BB at lB ⊢
    simp [mop, ev2, ev1, evA, getA, look, slotOk, mcst, mvar, asB, mlst, mtup, mcons, mnil, mfn, mfnL, evN, evAs, getAs, mite, band, bor, bnot, mand, mor, mnot, mcall, iseq, irange1, irange2, sset, ssetO, sret, sdrop, snil, sif, gset, mmut, isL1, ssub, spar, evOs, setSls, slOf, sasg, gtup, gcons, gnil, mslice, osome, onone, mopL, mlensetA, misinst, mmt, kindD, saug, byes, so, lB, mlistR, b1, lr, ne]
  cases q : sortedB B.length o with
  | false =>
    have m : ordB B o = false := by simp [ordB, q]
    rw [m]
    exact runFn_at (Z := td) (e1 := [.sh (qsD B), .sh (isD o), .no]) [.sh (qsD B), .sh (isD o), .no] rfl (scons_rt (Z := td) (s2 q))
  | true =>
    have m : ordB B o = decide (caught B o = firsts B o) := by simp [ordB, q]
    rw [m]
    have c1 : c__law_is_order_1 [.sh (qsD B), .sh (isD o), .no] t = some (.lst ((caught B o).map oS), [.sh (qsD B), .sh (isD o), .no], t) := by
      unfold c__law_is_order_1 caught
      rw [List.map_map]
      refine mlc_all (Z := td) (e1 := [.sh (qsD B), .sh (isD o), .no]) (t1 := t) nD (oS ∘ fun k => (qk B k).2) o ?_ rfl (by omega) fun k hk => ⟨[.sh (qsD B), .sh (isD o), .sh (nD k)], rfl, rfl, [.sh (qsD B), .sh (isD o), .sh (nD k)], ?_, rfl⟩
      · generalize qsD B = BB
        unfold isD
        simp [mop, ev2, ev1, evA, getA, look, slotOk, mcst, mvar, asB, mlst, mtup, mcons, mnil, mfn, mfnL, evN, evAs, getAs, mite, band, bor, bnot, mand, mor, mnot, mcall, iseq, irange1, irange2, sset, ssetO, sret, sdrop, snil, sif, gset, mmut, isL1, ssub, spar, evOs, setSls, slOf, sasg, gtup, gcons, gnil, mslice, osome, onone, mopL, mlensetA, misinst, mmt, kindD, saug, byes]
      · have a1 := q_ix (ho k hk)
        have a2 := p1 (qk B k)
        show ce__law_is_order_1 _ t = some (oS (qk B k).2, _, t)
        generalize oS (qk B k).2 = X at a2 ⊢
        generalize pD (qk B k) = P at a1 a2
        generalize nD k = K at a1 ⊢
        generalize qsD B = BB at a1 ⊢
        generalize isD o = O
        unfold ce__law_is_order_1
        simp [mop, ev2, ev1, evA, getA, look, slotOk, mcst, mvar, asB, mlst, mtup, mcons, mnil, mfn, mfnL, evN, evAs, getAs, mite, band, bor, bnot, mand, mor, mnot, mcall, iseq, irange1, irange2, sset, ssetO, sret, sdrop, snil, sif, gset, mmut, isL1, ssub, spar, evOs, setSls, slOf, sasg, gtup, gcons, gnil, mslice, osome, onone, mopL, mlensetA, misinst, mmt, kindD, saug, byes, a1, a2]
    have c2 : c__law_is_order_2 [.sh (qsD B), .sh (isD o), .no] t = some (.lst ((o.drop 1).map fun k => .str (qk B k).1), [.sh (qsD B), .sh (isD o), .no], t) := by
      unfold c__law_is_order_2
      refine mlc_all (Z := td) (e1 := [.sh (qsD B), .sh (isD o), .no]) (t1 := t) nD (fun k => D.str (qk B k).1) (o.drop 1) ?_ rfl (by rw [List.length_drop]; omega) fun k hk => ⟨[.sh (qsD B), .sh (isD o), .sh (nD k)], rfl, rfl, [.sh (qsD B), .sh (isD o), .sh (nD k)], ?_, rfl⟩
      · have s : sliceD (isD o) (some 1) none = some (.tup ((o.drop 1).map nD)) := by
          unfold isD
          rw [show (1 : Int) = ((1 : Nat) : Int) from rfl, sl_from, List.map_drop]
        generalize (o.drop 1).map nD = X at s ⊢
        generalize isD o = O at s ⊢
        generalize qsD B = BB
        simp [mop, ev2, ev1, evA, getA, look, slotOk, mcst, mvar, asB, mlst, mtup, mcons, mnil, mfn, mfnL, evN, evAs, getAs, mite, band, bor, bnot, mand, mor, mnot, mcall, iseq, irange1, irange2, sset, ssetO, sret, sdrop, snil, sif, gset, mmut, isL1, ssub, spar, evOs, setSls, slOf, sasg, gtup, gcons, gnil, mslice, osome, onone, mopL, mlensetA, misinst, mmt, kindD, saug, byes, s]
      · have a1 := q_ix (ho k (List.mem_of_mem_drop hk))
        have a2 := p0 (qk B k)
        generalize D.str (qk B k).1 = X at a2 ⊢
        generalize pD (qk B k) = P at a1 a2
        generalize nD k = K at a1 ⊢
        generalize qsD B = BB at a1 ⊢
        generalize isD o = O
        unfold ce__law_is_order_2
        simp [mop, ev2, ev1, evA, getA, look, slotOk, mcst, mvar, asB, mlst, mtup, mcons, mnil, mfn, mfnL, evN, evAs, getAs, mite, band, bor, bnot, mand, mor, mnot, mcall, iseq, irange1, irange2, sset, ssetO, sret, sdrop, snil, sif, gset, mmut, isL1, ssub, spar, evOs, setSls, slOf, sasg, gtup, gcons, gnil, mslice, osome, onone, mopL, mlensetA, misinst, mmt, kindD, saug, byes, a1, a2]
    have fa := fin_add B o (by omega)
    obtain ⟨k1, k2⟩ := caught_ok hB ho
    have e : eqD (.lst ((caught B o).map oS)) (.lst ((firsts B o).map oS)) = some (.bl (decide (caught B o = firsts B o))) := by
      simp only [eqD, k1, k2, Bool.and_self, Bool.or_true, if_true, eqvD, eqvL_oS]
    refine runFn_at (Z := td) (e1 := [.sh (qsD B), .sh (isD o), .no]) [.sh (qsD B), .sh (isD o), .no] rfl (scons_nx (Z := td) (s1 _ q) (sret_ev (Z := td) ?_))
    generalize decide (caught B o = firsts B o) = R at e ⊢
    generalize D.lst ((caught B o).map oS) = X1 at c1 e
    generalize D.lst ((firsts B o).map oS) = X2 at fa e
    generalize D.lst ((o.drop 1).map fun k => .str (qk B k).1) = X3 at c2 fa
    generalize isD o = O at c1 c2 ⊢
    generalize qsD B = BB at c1 c2 ⊢
    obtain ⟨C1, hC1⟩ : ∃ z, z = c__law_is_order_1 := ⟨_, rfl⟩
    rw [← hC1] at c1 ⊢
    clear hC1
    obtain ⟨C2, hC2⟩ : ∃ z, z = c__law_is_order_2 := ⟨_, rfl⟩
    rw [← hC2] at c2 ⊢
    clear hC2
    simp [mop, ev2, ev1, evA, getA, look, slotOk, mcst, mvar, asB, mlst, mtup, mcons, mnil, mfn, mfnL, evN, evAs, getAs, mite, band, bor, bnot, mand, mor, mnot, mcall, iseq, irange1, irange2, sset, ssetO, sret, sdrop, snil, sif, gset, mmut, isL1, ssub, spar, evOs, setSls, slOf, sasg, gtup, gcons, gnil, mslice, osome, onone, mopL, mlensetA, misinst, mmt, kindD, saug, byes, c1, c2, fa, e]
theorem order_run {B : List Qu} {o : List Nat} (hB : Oks B) (hl : B.length ≤ 100) (ho : ∀ k ∈ o, k < B.length) (h64 : o.length < 64) (t : Td) : f_is_order [qsD B, isD o] t = some (.bl (ordB B o), t) := by
  have lB := q_len B
  have so := sort_o h64
  have lr := listR_len hl
  have i : isinstD "tuple" (isD o) = some true := rfl
  have o1 := (ok_ints (sortI (natI o))).1
  have o2 := (ok_ints (natI (List.range B.length))).1
  have ne : neD (.lst ((sortI (natI o)).map .int)) (.lst ((natI (List.range B.length)).map .int)) = some (.bl (!sortedB B.length o)) := by
    simp only [neD, o1, o2, Bool.and_self, Bool.or_true, if_true, eqvD, eqvL_ints]
    rfl
  have c3 : c_is_order_3 [.sh (qsD B), .sh (isD o), .no, .no] t = some (.lst ((o.map fun _ => true).map .bl), [.sh (qsD B), .sh (isD o), .no, .no], t) := by
    unfold c_is_order_3
    rw [List.map_map]
    refine mlc_all (Z := td) (e1 := [.sh (qsD B), .sh (isD o), .no, .no]) (t1 := t) nD (fun _ => D.bl true) o ?_ rfl (by omega) fun k hk => ⟨[.sh (qsD B), .sh (isD o), .no, .sh (nD k)], rfl, rfl, [.sh (qsD B), .sh (isD o), .no, .sh (nD k)], ?_, rfl⟩
    · generalize qsD B = BB
      unfold isD
      simp [mop, ev2, ev1, evA, getA, look, slotOk, mcst, mvar, asB, mlst, mtup, mcons, mnil, mfn, mfnL, evN, evAs, getAs, mite, band, bor, bnot, mand, mor, mnot, mcall, iseq, irange1, irange2, sset, ssetO, sret, sdrop, snil, sif, gset, mmut, isL1, ssub, spar, evOs, setSls, slOf, sasg, gtup, gcons, gnil, mslice, osome, onone, mopL, mlensetA, misinst, mmt, kindD, saug, byes]
    · have w := whole_run k 0 ((B.length : Int) - 1) t
      have b := ho k hk
      rw [decide_eq_true (by omega : (0 : Int) ≤ (k : Int)), decide_eq_true (by omega : (k : Int) ≤ (B.length : Int) - 1)] at w
      have sb : subD (nD B.length) (.int 1) = some (.int ((B.length : Int) - 1)) := rfl
      generalize (B.length : Int) - 1 = h at w sb ⊢
      generalize nD B.length = L at lB sb
      generalize nD k = K at w ⊢
      generalize isD o = O
      generalize qsD B = BB at lB ⊢
      unfold ce_is_order_3
      obtain ⟨F, hF⟩ : ∃ z, z = f_is_whole := ⟨_, rfl⟩
      rw [← hF] at w ⊢
      clear hF
      simp [mop, ev2, ev1, evA, getA, look, slotOk, mcst, mvar, asB, mlst, mtup, mcons, mnil, mfn, mfnL, evN, evAs, getAs, mite, band, bor, bnot, mand, mor, mnot, mcall, iseq, irange1, irange2, sset, ssetO, sret, sdrop, snil, sif, gset, mmut, isL1, ssub, spar, evOs, setSls, slOf, sasg, gtup, gcons, gnil, mslice, osome, onone, mopL, mlensetA, misinst, mmt, kindD, saug, byes, w, lB, sb]
  have a3 : all1 [.lst ((o.map fun _ => true).map .bl)] = some (.bl true) := by
    rw [all1_bls]
    congr 2
    simp
  have s0 : sif (Z := td) (bor (bnot (asB (misinst "tuple" (.v 1)))) (bnot (asB (mfn all1 [(.e c_is_order_3)])))) (sret (mcst (.bl false))) snil [.sh (qsD B), .sh (isD o), .no, .no] t = some (.nx, [.sh (qsD B), .sh (isD o), .no, .no], t) := by
    generalize D.lst ((o.map fun _ => true).map .bl) = W at c3 a3
    generalize isD o = O at i c3 ⊢
    generalize qsD B = BB at c3 ⊢
    obtain ⟨C, hC⟩ : ∃ z, z = c_is_order_3 := ⟨_, rfl⟩
    rw [← hC] at c3 ⊢
    clear hC
    simp [mop, ev2, ev1, evA, getA, look, slotOk, mcst, mvar, asB, mlst, mtup, mcons, mnil, mfn, mfnL, evN, evAs, getAs, mite, band, bor, bnot, mand, mor, mnot, mcall, iseq, irange1, irange2, sset, ssetO, sret, sdrop, snil, sif, gset, mmut, isL1, ssub, spar, evOs, setSls, slOf, sasg, gtup, gcons, gnil, mslice, osome, onone, mopL, mlensetA, misinst, mmt, kindD, saug, byes, i, c3, a3]
  have s1 : ∀ x : SM td, sortedB B.length o = true → sif (asB (mop neD (.e (mfnL sortA1 [(.v 1)])) (.e (mlistR (mfn len1 [(.v 0)]))))) x snil [.sh (qsD B), .sh (isD o), .no, .no] t = some (.nx, [.sh (qsD B), .sh (isD o), .no, .no], t) := by
    intro x q
    rw [q] at ne
    have b1 : (0 : Int) ≤ (B.length : Int) ∧ (B.length : Int) ≤ 1000 := by omega
    clear c3 s0
    generalize (natI (List.range B.length)).map D.int = R at lr ne
    generalize (sortI (natI o)).map D.int = S at so ne
    generalize B.length = n at lB lr b1
    generalize isD o = O at so ⊢
    generalize qsD B = BB at lB ⊢
    simp [mop, ev2, ev1, evA, getA, look, slotOk, mcst, mvar, asB, mlst, mtup, mcons, mnil, mfn, mfnL, evN, evAs, getAs, mite, band, bor, bnot, mand, mor, mnot, mcall, iseq, irange1, irange2, sset, ssetO, sret, sdrop, snil, sif, gset, mmut, isL1, ssub, spar, evOs, setSls, slOf, sasg, gtup, gcons, gnil, mslice, osome, onone, mopL, mlensetA, misinst, mmt, kindD, saug, byes, so, lB, mlistR, b1, lr, ne]
  have s2 : sortedB B.length o = false → sif (Z := td) (asB (mop neD (.e (mfnL sortA1 [(.v 1)])) (.e (mlistR (mfn len1 [(.v 0)]))))) (sret (mcst (.bl false))) snil [.sh (qsD B), .sh (isD o), .no, .no] t = some (.rt (.bl false), [.sh (qsD B), .sh (isD o), .no, .no], t) := by
    intro q
    rw [q] at ne
    have b1 : (0 : Int) ≤ (B.length : Int) ∧ (B.length : Int) ≤ 1000 := by omega
    clear c3 s0
    generalize (natI (List.range B.length)).map D.int = R at lr ne
    generalize (sortI (natI o)).map D.int = S at so ne
    generalize B.length = n at lB lr b1
    generalize isD o = O at so ⊢
    generalize qsD B = BB at lB ⊢
    simp [mop, ev2, ev1, evA, getA, look, slotOk, mcst, mvar, asB, mlst, mtup, mcons, mnil, mfn, mfnL, evN, evAs, getAs, mite, band, bor, bnot, mand, mor, mnot, mcall, iseq, irange1, irange2, sset, ssetO, sret, sdrop, snil, sif, gset, mmut, isL1, ssub, spar, evOs, setSls, slOf, sasg, gtup, gcons, gnil, mslice, osome, onone, mopL, mlensetA, misinst, mmt, kindD, saug, byes, so, lB, mlistR, b1, lr, ne]
  cases q : sortedB B.length o with
  | false =>
    have m : ordB B o = false := by simp [ordB, q]
    rw [m]
    exact runFn_at (Z := td) (e1 := [.sh (qsD B), .sh (isD o), .no, .no]) [.sh (qsD B), .sh (isD o), .no, .no] rfl (scons_nx (Z := td) s0 (scons_rt (Z := td) (s2 q)))
  | true =>
    have m : ordB B o = decide (caught B o = firsts B o) := by simp [ordB, q]
    rw [m]
    have c1 : c_is_order_2 [.sh (qsD B), .sh (isD o), .no, .no] t = some (.lst ((caught B o).map oS), [.sh (qsD B), .sh (isD o), .no, .no], t) := by
      unfold c_is_order_2 caught
      rw [List.map_map]
      refine mlc_all (Z := td) (e1 := [.sh (qsD B), .sh (isD o), .no, .no]) (t1 := t) nD (oS ∘ fun k => (qk B k).2) o ?_ rfl (by omega) fun k hk => ⟨[.sh (qsD B), .sh (isD o), .no, .sh (nD k)], rfl, rfl, [.sh (qsD B), .sh (isD o), .no, .sh (nD k)], ?_, rfl⟩
      · generalize qsD B = BB
        unfold isD
        simp [mop, ev2, ev1, evA, getA, look, slotOk, mcst, mvar, asB, mlst, mtup, mcons, mnil, mfn, mfnL, evN, evAs, getAs, mite, band, bor, bnot, mand, mor, mnot, mcall, iseq, irange1, irange2, sset, ssetO, sret, sdrop, snil, sif, gset, mmut, isL1, ssub, spar, evOs, setSls, slOf, sasg, gtup, gcons, gnil, mslice, osome, onone, mopL, mlensetA, misinst, mmt, kindD, saug, byes]
      · have a1 := q_ix (ho k hk)
        have a2 := p1 (qk B k)
        show ce_is_order_2 _ t = some (oS (qk B k).2, _, t)
        generalize oS (qk B k).2 = X at a2 ⊢
        generalize pD (qk B k) = P at a1 a2
        generalize nD k = K at a1 ⊢
        generalize qsD B = BB at a1 ⊢
        generalize isD o = O
        unfold ce_is_order_2
        simp [mop, ev2, ev1, evA, getA, look, slotOk, mcst, mvar, asB, mlst, mtup, mcons, mnil, mfn, mfnL, evN, evAs, getAs, mite, band, bor, bnot, mand, mor, mnot, mcall, iseq, irange1, irange2, sset, ssetO, sret, sdrop, snil, sif, gset, mmut, isL1, ssub, spar, evOs, setSls, slOf, sasg, gtup, gcons, gnil, mslice, osome, onone, mopL, mlensetA, misinst, mmt, kindD, saug, byes, a1, a2]
    have c2 : c_is_order_1 [.sh (qsD B), .sh (isD o), .sh (.lst ((caught B o).map oS)), .no] t = some (.lst ((o.drop 1).map fun k => .str (qk B k).1), [.sh (qsD B), .sh (isD o), .sh (.lst ((caught B o).map oS)), .no], t) := by
      generalize D.lst ((caught B o).map oS) = CA
      unfold c_is_order_1
      refine mlc_all (Z := td) (e1 := [.sh (qsD B), .sh (isD o), .sh CA, .no]) (t1 := t) nD (fun k => D.str (qk B k).1) (o.drop 1) ?_ rfl (by rw [List.length_drop]; omega) fun k hk => ⟨[.sh (qsD B), .sh (isD o), .sh CA, .sh (nD k)], rfl, rfl, [.sh (qsD B), .sh (isD o), .sh CA, .sh (nD k)], ?_, rfl⟩
      · have s : sliceD (isD o) (some 1) none = some (.tup ((o.drop 1).map nD)) := by
          unfold isD
          rw [show (1 : Int) = ((1 : Nat) : Int) from rfl, sl_from, List.map_drop]
        generalize (o.drop 1).map nD = X at s ⊢
        generalize isD o = O at s ⊢
        generalize qsD B = BB
        simp [mop, ev2, ev1, evA, getA, look, slotOk, mcst, mvar, asB, mlst, mtup, mcons, mnil, mfn, mfnL, evN, evAs, getAs, mite, band, bor, bnot, mand, mor, mnot, mcall, iseq, irange1, irange2, sset, ssetO, sret, sdrop, snil, sif, gset, mmut, isL1, ssub, spar, evOs, setSls, slOf, sasg, gtup, gcons, gnil, mslice, osome, onone, mopL, mlensetA, misinst, mmt, kindD, saug, byes, s]
      · have a1 := q_ix (ho k (List.mem_of_mem_drop hk))
        have a2 := p0 (qk B k)
        generalize D.str (qk B k).1 = X at a2 ⊢
        generalize pD (qk B k) = P at a1 a2
        generalize nD k = K at a1 ⊢
        generalize qsD B = BB at a1 ⊢
        generalize isD o = O
        unfold ce_is_order_1
        simp [mop, ev2, ev1, evA, getA, look, slotOk, mcst, mvar, asB, mlst, mtup, mcons, mnil, mfn, mfnL, evN, evAs, getAs, mite, band, bor, bnot, mand, mor, mnot, mcall, iseq, irange1, irange2, sset, ssetO, sret, sdrop, snil, sif, gset, mmut, isL1, ssub, spar, evOs, setSls, slOf, sasg, gtup, gcons, gnil, mslice, osome, onone, mopL, mlensetA, misinst, mmt, kindD, saug, byes, a1, a2]
    have fa := fin_add B o (by omega)
    obtain ⟨k1, k2⟩ := caught_ok hB ho
    have e : eqD (.lst ((caught B o).map oS)) (.lst ((firsts B o).map oS)) = some (.bl (decide (caught B o = firsts B o))) := by
      simp only [eqD, k1, k2, Bool.and_self, Bool.or_true, if_true, eqvD, eqvL_oS]
    refine runFn_at (Z := td) (e1 := [.sh (qsD B), .sh (isD o), .sh (.lst ((caught B o).map oS)), .no]) [.sh (qsD B), .sh (isD o), .no, .no] rfl (scons_nx (Z := td) s0 (scons_nx (Z := td) (s1 _ q) (scons_nx (Z := td) (sset_ev (Z := td) c1) (sret_ev (Z := td) ?_))))
    show mop _ _ _ [.sh (qsD B), .sh (isD o), .sh (.lst ((caught B o).map oS)), .no] t = _
    generalize decide (caught B o = firsts B o) = R at e ⊢
    generalize D.lst ((caught B o).map oS) = X1 at c2 e ⊢
    generalize D.lst ((firsts B o).map oS) = X2 at fa e
    generalize D.lst ((o.drop 1).map fun k => .str (qk B k).1) = X3 at c2 fa
    generalize isD o = O at c2 ⊢
    generalize qsD B = BB at c2 ⊢
    obtain ⟨C2, hC2⟩ : ∃ z, z = c_is_order_1 := ⟨_, rfl⟩
    rw [← hC2] at c2 ⊢
    clear hC2
    simp [mop, ev2, ev1, evA, getA, look, slotOk, mcst, mvar, asB, mlst, mtup, mcons, mnil, mfn, mfnL, evN, evAs, getAs, mite, band, bor, bnot, mand, mor, mnot, mcall, iseq, irange1, irange2, sset, ssetO, sret, sdrop, snil, sif, gset, mmut, isL1, ssub, spar, evOs, setSls, slOf, sasg, gtup, gcons, gnil, mslice, osome, onone, mopL, mlensetA, misinst, mmt, kindD, saug, byes, c2, fa, e]
theorem order_no {b v : D} (h : noTape v = true) (h2 : ∀ ds, v ≠ .tup ds) (t : Td) : f_is_order [b, v] t = some (.bl false, t) := by
  have i := isT_no h h2
  refine runFn_at (Z := td) (e1 := [.sh b, .sh v, .no, .no]) [.sh b, .sh v, .no, .no] rfl (scons_rt (Z := td) ?_)
  simp [mop, ev2, ev1, evA, getA, look, slotOk, mcst, mvar, asB, mlst, mtup, mcons, mnil, mfn, mfnL, evN, evAs, getAs, mite, band, bor, bnot, mand, mor, mnot, mcall, iseq, irange1, irange2, sset, ssetO, sret, sdrop, snil, sif, gset, mmut, isL1, ssub, spar, evOs, setSls, slOf, sasg, gtup, gcons, gnil, mslice, osome, onone, mopL, mlensetA, misinst, mmt, kindD, saug, byes, i]
end K91

namespace K91
open PySem L2 DL

def inner (q : Qu) : List Str := [q.1, q.2.getD ""]
def wordsOf (q : Qu) : List Str := (inner q).filter fun (w : Str) => !decide (w = "")
def tw (L : List Qu) : List Str := L.flatMap wordsOf
theorem mlc2_mapP {Z : TSys} {A B : Type} {own own1 : List Nat} {src : ML Z} {g : G} {src1 : ML Z} {g1 : G} {tt1 : MB Z} {el : M Z} {e e0 : List Sl} {t t0 : Z.T} (eA : A → D) (eB : B → D) (in1 : A → List B) (p : A → B → Bool) (f : A → B → D) (xs : List A) (hs : src e t = some (xs.map eA, e0, t0)) (hok : ownOk e0 own = true)
    (hl : (xs.flatMap fun a => ((in1 a).filter (p a)).map (f a)).length ≤ 16777216)
    (h : ∀ a ∈ xs, ∃ e1 e2, g (eA a) (wipeE e0 own) = some e1 ∧ src1 e1 t0 = some ((in1 a).map eB, e2, t0) ∧ wipeE (wipeE e2 own1) own = wipeE e0 own ∧ ∀ b ∈ in1 a, ∃ e3, g1 (eB b) (wipeE e2 own1) = some e3 ∧ wipeE e3 own1 = wipeE e2 own1 ∧ tt1 e3 t0 = some (p a b, e3, t0) ∧ (p a b = true → ∃ e4, el e3 t0 = some (f a b, e4, t0) ∧ wipeE e4 own1 = wipeE e2 own1)) :
    mlc2 own own1 src g byes src1 g1 tt1 el e t = some (.lst (xs.flatMap fun a => ((in1 a).filter (p a)).map (f a)), e0, t0) := by
  unfold mlc2
  have q := lc2L_map (g := g) (src1 := src1) (g1 := g1) (tt1 := tt1) (el := el) (t := t0) (own1 := own1) eA eB in1 p f (wipeE_wipe e0 own) xs [] h
  simp only [hs, hok, if_true, q, List.nil_append]
  have hz : (xs.flatMap fun a => ((in1 a).filter (p a)).map (f a)).length ≤ sizeLine := Nat.le_trans hl (by decide)
  rw [if_pos hz, restE_wipe]
def pE (q : Qu) : D := .tup [.str q.1, .str (q.2.getD "")]
theorem tw_len (L : List Qu) : (tw L).length ≤ 2 * L.length := by
  unfold tw
  induction L with
  | nil => simp
  | cons q L ih =>
    have : (wordsOf q).length ≤ 2 := Nat.le_trans (List.length_filter_le _ _) (by simp [inner])
    simp only [List.flatMap_cons, List.length_append, List.length_cons]
    omega
theorem tw_map (L : List Qu) : (L.flatMap fun q => ((inner q).filter fun (w : Str) => !decide (w = "")).map D.str) = (tw L).map .str := by
  unfold tw
  rw [List.map_flatMap]
  rfl
theorem words_run {L : List Qu} (hl : L.length ≤ 31) (t : Td) : f_words_of [.lst (L.map pE)] t = some (.lst ((srtS (dedW (tw L))).map .str), t) := by
  have tl := tw_len L
  have c : c_words_of_1 [.sh (.lst (L.map pE)), .no, .no] t = some (.lst ((tw L).map .str), [.sh (.lst (L.map pE)), .no, .no], t) := by
    rw [← tw_map]
    unfold c_words_of_1
    refine mlc2_mapP (Z := td) (own := [1, 2]) (own1 := [2]) (e0 := [.sh (.lst (L.map pE)), .no, .no]) (t0 := t) pE D.str inner (fun _ (w : Str) => !decide (w = "")) (fun _ w => D.str w) L ?_ rfl (by rw [tw_map, List.length_map]; omega) fun q hq => ⟨[.sh (.lst (L.map pE)), .sh (pE q), .no], [.sh (.lst (L.map pE)), .sh (pE q), .no], rfl, ?_, rfl, fun w hw => ⟨[.sh (.lst (L.map pE)), .sh (pE q), .sh (.str w)], rfl, rfl, ?_, fun _ => ⟨[.sh (.lst (L.map pE)), .sh (pE q), .sh (.str w)], ?_, rfl⟩⟩⟩
    · generalize L.map pE = LL
      simp [mop, ev2, ev1, evA, getA, look, slotOk, mcst, mvar, asB, mlst, mtup, mcons, mnil, mfn, mfnL, evN, evAs, getAs, mite, band, bor, bnot, mand, mor, mnot, mcall, iseq, irange1, irange2, sset, ssetO, sret, sdrop, snil, sif, gset, mmut, isL1, ssub, spar, evOs, setSls, slOf, sasg, gtup, gcons, gnil, mslice, osome, onone, mopL, mlensetA, misinst, mmt, kindD, saug, byes]
    · generalize D.lst (L.map pE) = LL
      unfold cs_words_of_1 pE inner
      simp [mop, ev2, ev1, evA, getA, look, slotOk, mcst, mvar, asB, mlst, mtup, mcons, mnil, mfn, mfnL, evN, evAs, getAs, mite, band, bor, bnot, mand, mor, mnot, mcall, iseq, irange1, irange2, sset, ssetO, sret, sdrop, snil, sif, gset, mmut, isL1, ssub, spar, evOs, setSls, slOf, sasg, gtup, gcons, gnil, mslice, osome, onone, mopL, mlensetA, misinst, mmt, kindD, saug, byes]
    · have n := ne_str w ""
      generalize (!decide (w = "")) = B at n ⊢
      generalize D.str w = W at n ⊢
      generalize pE q = PQ
      generalize D.lst (L.map pE) = LL
      unfold ct_words_of_1
      simp [mop, ev2, ev1, evA, getA, look, slotOk, mcst, mvar, asB, mlst, mtup, mcons, mnil, mfn, mfnL, evN, evAs, getAs, mite, band, bor, bnot, mand, mor, mnot, mcall, iseq, irange1, irange2, sset, ssetO, sret, sdrop, snil, sif, gset, mmut, isL1, ssub, spar, evOs, setSls, slOf, sasg, gtup, gcons, gnil, mslice, osome, onone, mopL, mlensetA, misinst, mmt, kindD, saug, byes, n]
    · generalize pE q = PQ
      generalize D.lst (L.map pE) = LL
      unfold ce_words_of_1
      simp [mop, ev2, ev1, evA, getA, look, slotOk, mcst, mvar, asB, mlst, mtup, mcons, mnil, mfn, mfnL, evN, evAs, getAs, mite, band, bor, bnot, mand, mor, mnot, mcall, iseq, irange1, irange2, sset, ssetO, sret, sdrop, snil, sif, gset, mmut, isL1, ssub, spar, evOs, setSls, slOf, sasg, gtup, gcons, gnil, mslice, osome, onone, mopL, mlensetA, misinst, mmt, kindD, saug, byes]
  have s := strsD_map (tw L)
  have h64 : (tw L).length < 64 := by omega
  generalize tw L = W at c s h64 ⊢
  generalize W.map D.str = WW at c s
  generalize D.lst (L.map pE) = LL at c ⊢
  refine runFn_at (Z := td) (e1 := [.sh LL, .no, .no]) [.sh LL, .no, .no] rfl (sret_ev (Z := td) ?_)
  unfold msortS
  obtain ⟨C, hC⟩ : ∃ z, z = c_words_of_1 := ⟨_, rfl⟩
  rw [← hC] at c ⊢
  clear hC
  simp [mop, ev2, ev1, evA, getA, look, slotOk, mcst, mvar, asB, mlst, mtup, mcons, mnil, mfn, mfnL, evN, evAs, getAs, mite, band, bor, bnot, mand, mor, mnot, mcall, iseq, irange1, irange2, sset, ssetO, sret, sdrop, snil, sif, gset, mmut, isL1, ssub, spar, evOs, setSls, slOf, sasg, gtup, gcons, gnil, mslice, osome, onone, mopL, mlensetA, misinst, mmt, kindD, saug, byes, c, s, h64]
theorem told_words_run {L : List Qu} (hl : L.length ≤ 31) (t : Td) : f_told_words [.lst (L.map pD)] t = some (.lst ((srtS (dedW (tw L))).map .str), t) := by
  have w := words_run hl t
  have c : c_told_words_1 [.sh (.lst (L.map pD)), .no, .no] t = some (.lst (L.map pE), [.sh (.lst (L.map pD)), .no, .no], t) := by
    unfold c_told_words_1
    refine mlc_all (Z := td) (e1 := [.sh (.lst (L.map pD)), .no, .no]) (t1 := t) pD pE L ?_ rfl (by omega) fun q hq => ⟨[.sh (.lst (L.map pD)), .sh (.str q.1), .sh (oS q.2)], rfl, rfl, [.sh (.lst (L.map pD)), .sh (.str q.1), .sh (oS q.2)], ?_, rfl⟩
    · generalize L.map pD = LL
      simp [mop, ev2, ev1, evA, getA, look, slotOk, mcst, mvar, asB, mlst, mtup, mcons, mnil, mfn, mfnL, evN, evAs, getAs, mite, band, bor, bnot, mand, mor, mnot, mcall, iseq, irange1, irange2, sset, ssetO, sret, sdrop, snil, sif, gset, mmut, isL1, ssub, spar, evOs, setSls, slOf, sasg, gtup, gcons, gnil, mslice, osome, onone, mopL, mlensetA, misinst, mmt, kindD, saug, byes]
    · have i := isN_oS q.2
      unfold pE ce_told_words_1
      generalize D.lst (L.map pD) = LL
      cases z : q.2 with
      | none =>
        rw [z] at i
        rw [decide_eq_true rfl] at i
        generalize oS none = O at i ⊢
        simp [mop, ev2, ev1, evA, getA, look, slotOk, mcst, mvar, asB, mlst, mtup, mcons, mnil, mfn, mfnL, evN, evAs, getAs, mite, band, bor, bnot, mand, mor, mnot, mcall, iseq, irange1, irange2, sset, ssetO, sret, sdrop, snil, sif, gset, mmut, isL1, ssub, spar, evOs, setSls, slOf, sasg, gtup, gcons, gnil, mslice, osome, onone, mopL, mlensetA, misinst, mmt, kindD, saug, byes, i]
      | some x =>
        rw [z] at i
        rw [decide_eq_false (by simp)] at i
        show _ = some (D.tup [.str q.1, oS (some x)], _, t)
        generalize oS (some x) = O at i ⊢
        simp [mop, ev2, ev1, evA, getA, look, slotOk, mcst, mvar, asB, mlst, mtup, mcons, mnil, mfn, mfnL, evN, evAs, getAs, mite, band, bor, bnot, mand, mor, mnot, mcall, iseq, irange1, irange2, sset, ssetO, sret, sdrop, snil, sif, gset, mmut, isL1, ssub, spar, evOs, setSls, slOf, sasg, gtup, gcons, gnil, mslice, osome, onone, mopL, mlensetA, misinst, mmt, kindD, saug, byes, i]
  generalize D.lst ((srtS (dedW (tw L))).map .str) = R at w ⊢
  generalize D.lst (L.map pE) = L1 at w c
  generalize D.lst (L.map pD) = LL at c ⊢
  refine runFn_at (Z := td) (e1 := [.sh LL, .no, .no]) [.sh LL, .no, .no] rfl (sret_ev (Z := td) ?_)
  obtain ⟨C, hC⟩ : ∃ z, z = c_told_words_1 := ⟨_, rfl⟩
  rw [← hC] at c ⊢
  clear hC
  obtain ⟨F, hF⟩ : ∃ z, z = f_words_of := ⟨_, rfl⟩
  rw [← hF] at w ⊢
  clear hF
  simp [mop, ev2, ev1, evA, getA, look, slotOk, mcst, mvar, asB, mlst, mtup, mcons, mnil, mfn, mfnL, evN, evAs, getAs, mite, band, bor, bnot, mand, mor, mnot, mcall, iseq, irange1, irange2, sset, ssetO, sret, sdrop, snil, sif, gset, mmut, isL1, ssub, spar, evOs, setSls, slOf, sasg, gtup, gcons, gnil, mslice, osome, onone, mopL, mlensetA, misinst, mmt, kindD, saug, byes, c, w]
theorem wordsOf_none {q : Qu} (h : Okp q) (z : q.2 = none ∨ q.2 = some ("" : Str)) : wordsOf q = [q.1] := by
  have : q.1 ≠ "" := (w6_ok _ h.f).2
  rcases z with z | z <;> simp [wordsOf, inner, z, this]
theorem wordsOf_some {q : Qu} (h : Okp q) {x : Str} (z : q.2 = some x) (hx : x ≠ "") : wordsOf q = [q.1, x] := by
  have : q.1 ≠ "" := (w6_ok _ h.f).2
  simp [wordsOf, inner, z, this, hx]
theorem notin_no (a : Option Str) (h : ∀ x, a = some x → PyData.strOk x = true) : notinD (oS a) (.tup [.non, .str ""]) = some (.bl (!(decide (a = none) || decide (a = some ("" : Str))))) := by
  have o : okD 30 (oS a) = true := by
    cases a with
    | none => rfl
    | some x => exact h x rfl
  have o2 : ([D.non, .str ""]).all (okD 30) = true := by decide +kernel
  simp only [notinD, seqD, o, o2, Bool.and_self, if_true]
  have m : memD (oS a) [.non, .str ""] = (decide (a = none) || decide (a = some ("" : Str))) := by
    unfold memD
    show (eqvD (oS none) (oS a) || (eqvD (oS (some ("" : Str))) (oS a) || false)) = _
    rw [eqv_oS, eqv_oS, Bool.or_false]
    congr 1
    · by_cases z : a = none
      · simp [z]
      · have : ¬ none = a := fun h => z h.symm
        simp [z, this]
    · by_cases z : a = some ("" : Str)
      · simp [z]
      · have : ¬ some ("" : Str) = a := fun h => z h.symm
        simp [z, this]
  rw [m]
theorem law_words_run {L : List Qu} (hL : Oks L) (hl : L.length ≤ 1000) (t : Td) : f__law_told_words [.lst (L.map pD)] t = some (.lst ((tw L).map .str), t) := by
  obtain ⟨e', t', l1, rfl, s2, s3, rfl⟩ := forL_nx (Z := td) (g := gtup 2 (gcons (gset 2) (gcons (gset 3) gnil))) (b := lb__law_told_words_1) (ds := L.map pD) (e := [.sh (.lst (L.map pD)), .sh (.lst []), .no, .no]) (t := t)
    (fun i e t1 => t1 = t ∧ ∃ s2 s3, e = [.sh (.lst (L.map pD)), .sh (.lst ((tw (L.take i)).map .str)), s2, s3]) ⟨rfl, .no, .no, rfl⟩ fun i d e t1 hd hi => by
      obtain ⟨rfl, s2, s3, rfl⟩ := hi
      have hk : i < L.length := by
        have := (List.getElem?_eq_some_iff.mp hd).1
        simpa using this
      have hd : d = pD L[i] := by
        rw [List.getElem?_map, List.getElem?_eq_getElem hk] at hd
        simpa using hd.symm
      have oq : Okp L[i] := hL _ (List.getElem_mem hk)
      have tk : tw (L.take (i + 1)) = tw (L.take i) ++ wordsOf L[i] := by
        unfold tw
        rw [List.take_succ_eq_append_getElem hk, List.flatMap_append]
        simp only [List.flatMap_cons, List.flatMap_nil, List.append_nil]
      have tl := tw_len (L.take i)
      rw [List.length_take] at tl
      rw [tk]
      generalize L[i] = q at hd oq ⊢
      generalize tw (L.take i) = W at tl ⊢
      subst hd
      have a1 : addD (.lst (W.map .str)) (.lst [.str q.1]) = some (.lst (W.map .str ++ [.str q.1])) := add_lst (by simp; omega)
      have a2 : addD (.lst (W.map .str ++ [.str q.1])) (.lst []) = some (.lst (W.map .str ++ [.str q.1])) := by
        have := add_lst (a := W.map .str ++ [.str q.1]) (b := []) (by simp; omega)
        rwa [List.append_nil] at this
      have a3 : ∀ x, addD (.lst (W.map .str ++ [.str q.1])) (.lst [oS (some x)]) = some (.lst ((W ++ [q.1, x]).map .str)) := fun x => by
        rw [add_lst (by simp; omega)]
        simp [oS]
      have ni := notin_no q.2 (okp_str oq)
      refine ⟨[.sh (.lst (L.map pD)), .sh (.lst (W.map .str)), .sh (.str q.1), .sh (oS q.2)], rfl, .nx, [.sh (.lst (L.map pD)), .sh (.lst ((W ++ wordsOf q).map .str)), .sh (.str q.1), .sh (oS q.2)], t1, ?_, .inl rfl, rfl, _, _, rfl⟩
      unfold lb__law_told_words_1
      by_cases z : q.2 = none ∨ q.2 = some ("" : Str)
      · rw [wordsOf_none oq z]
        have : (!(decide (q.2 = none) || decide (q.2 = some ("" : Str)))) = false := by
          rcases z with z | z <;> simp [z]
        rw [this] at ni
        have e : W.map D.str ++ [.str q.1] = (W ++ [q.1]).map .str := by simp
        rw [e] at a1 a2
        generalize D.lst ((W ++ [q.1]).map .str) = R at a1 a2 ⊢
        generalize D.lst (W.map .str) = R0 at a1 ⊢
        generalize D.str q.1 = S at a1 ⊢
        generalize oS q.2 = O at ni ⊢
        generalize D.lst (L.map pD) = LL
        simp [mop, ev2, ev1, evA, getA, look, slotOk, mcst, mvar, asB, mlst, mtup, mcons, mnil, mfn, mfnL, evN, evAs, getAs, mite, band, bor, bnot, mand, mor, mnot, mcall, iseq, irange1, irange2, sset, ssetO, sret, sdrop, snil, sif, gset, mmut, isL1, ssub, spar, evOs, setSls, slOf, sasg, gtup, gcons, gnil, mslice, osome, onone, mopL, mlensetA, misinst, mmt, kindD, saug, byes, a1, a2, ni]
      · obtain ⟨x, hx⟩ : ∃ x, q.2 = some x := by
          cases h : q.2 with
          | none => exact absurd (.inl h) z
          | some x => exact ⟨x, rfl⟩
        have hx2 : x ≠ "" := fun h => z (.inr (by rw [hx, h]))
        rw [wordsOf_some oq hx hx2]
        have : (!(decide (q.2 = none) || decide (q.2 = some ("" : Str)))) = true := by
          simp [hx, hx2]
        rw [this] at ni
        have a4 := a3 x
        rw [hx] at ni ⊢
        generalize D.lst ((W ++ [q.1, x]).map .str) = R2 at a4 ⊢
        generalize D.lst (W.map .str ++ [.str q.1]) = R at a1 a4
        generalize D.lst (W.map .str) = R0 at a1 ⊢
        generalize D.str q.1 = S at a1 ⊢
        generalize oS (some x) = O at ni a4 ⊢
        generalize D.lst (L.map pD) = LL
        simp [mop, ev2, ev1, evA, getA, look, slotOk, mcst, mvar, asB, mlst, mtup, mcons, mnil, mfn, mfnL, evN, evAs, getAs, mite, band, bor, bnot, mand, mor, mnot, mcall, iseq, irange1, irange2, sset, ssetO, sret, sdrop, snil, sif, gset, mmut, isL1, ssub, spar, evOs, setSls, slOf, sasg, gtup, gcons, gnil, mslice, osome, onone, mopL, mlensetA, misinst, mmt, kindD, saug, byes, a1, a4, ni]
  rw [List.length_map, List.take_length] at l1
  have src : l__law_told_words_1 [.sh (.lst (L.map pD)), .sh (.lst []), .no, .no] t' = some (.nx, [.sh (.lst (L.map pD)), .sh (.lst ((tw L).map .str)), s2, s3], t') := by
    unfold l__law_told_words_1
    refine sfor_nx (Z := td) (e1 := [.sh (.lst (L.map pD)), .sh (.lst []), .no, .no]) (t1 := t') (ds := L.map pD) ?_ l1
    generalize L.map pD = LL
    simp [mop, ev2, ev1, evA, getA, look, slotOk, mcst, mvar, asB, mlst, mtup, mcons, mnil, mfn, mfnL, evN, evAs, getAs, mite, band, bor, bnot, mand, mor, mnot, mcall, iseq, irange1, irange2, sset, ssetO, sret, sdrop, snil, sif, gset, mmut, isL1, ssub, spar, evOs, setSls, slOf, sasg, gtup, gcons, gnil, mslice, osome, onone, mopL, mlensetA, misinst, mmt, kindD, saug, byes]
  generalize D.lst ((tw L).map .str) = R at src ⊢
  generalize D.lst (L.map pD) = LL at src ⊢
  refine runFn_at (Z := td) (e1 := [.sh LL, .sh R, s2, s3]) [.sh LL, .no, .no, .no] rfl (scons_nx (Z := td) (e1 := [.sh LL, .sh (.lst []), .no, .no]) (t1 := t') ?_ (scons_nx (Z := td) src (sret_ev (Z := td) ?_)))
  · simp [mop, ev2, ev1, evA, getA, look, slotOk, mcst, mvar, asB, mlst, mtup, mcons, mnil, mfn, mfnL, evN, evAs, getAs, mite, band, bor, bnot, mand, mor, mnot, mcall, iseq, irange1, irange2, sset, ssetO, sret, sdrop, snil, sif, gset, mmut, isL1, ssub, spar, evOs, setSls, slOf, sasg, gtup, gcons, gnil, mslice, osome, onone, mopL, mlensetA, misinst, mmt, kindD, saug, byes]
  · simp [mop, ev2, ev1, evA, getA, look, slotOk, mcst, mvar, asB, mlst, mtup, mcons, mnil, mfn, mfnL, evN, evAs, getAs, mite, band, bor, bnot, mand, mor, mnot, mcall, iseq, irange1, irange2, sset, ssetO, sret, sdrop, snil, sif, gset, mmut, isL1, ssub, spar, evOs, setSls, slOf, sasg, gtup, gcons, gnil, mslice, osome, onone, mopL, mlensetA, misinst, mmt, kindD, saug, byes]
theorem memD_str (x : Str) (xs : List Str) : memD (.str x) (xs.map .str) = decide (x ∈ xs) := by
  induction xs with
  | nil => rfl
  | cons y ys ih =>
    have : memD (.str x) ((y :: ys).map .str) = (eqvD (.str y) (.str x) || memD (.str x) (ys.map .str)) := rfl
    rw [this, ih, eqv_str]
    by_cases h : y = x
    · subst h; simp
    · have h' : ¬ x = y := fun z => h z.symm
      simp [h, h']
def OkW (xs : List Str) : Prop := ∀ x ∈ xs, PyData.strOk x = true
theorem notin_str {x : Str} {xs : List Str} (h1 : PyData.strOk x = true) (h2 : OkW xs) : notinD (.str x) (.lst (xs.map .str)) = some (.bl (!decide (x ∈ xs))) := by
  have o : okD 30 (.str x) = true := h1
  have o2 : (xs.map D.str).all (okD 30) = true := by
    rw [List.all_eq_true]
    intro d hd
    obtain ⟨x, hx, rfl⟩ := List.mem_map.mp hd
    exact h2 x hx
  simp only [notinD, seqD, o, o2, Bool.and_self, if_true, memD_str]
theorem tw_ok {L : List Qu} (hL : Oks L) : OkW (tw L) := by
  intro x hx
  obtain ⟨q, hq, hx⟩ := List.mem_flatMap.mp hx
  have oq := hL q hq
  have := (List.mem_filter.mp hx).1
  simp only [inner, List.mem_cons, List.not_mem_nil, or_false] at this
  rcases this with rfl | rfl
  · exact (w6_ok _ oq.f).1
  · cases h : q.2 with
    | none => exact ok_emp
    | some y => exact okp_str oq y h
theorem srt_ok {xs : List Str} (h : OkW xs) : OkW (srtS (dedW xs)) := fun x hx => h x ((dedW_mem xs x).mp ((srtS_perm _).mem_iff.mp hx))
theorem srt_mem (xs : List Str) (x : Str) : x ∈ srtS (dedW xs) ↔ x ∈ xs := by
  rw [(srtS_perm _).mem_iff, dedW_mem]
def disjB (A B : List Str) : Bool := A.all fun x => !decide (x ∈ B)
theorem disj_srt (A B : List Str) : disjB (srtS (dedW A)) (srtS (dedW B)) = disjB A B := by
  apply Bool.eq_iff_iff.mpr
  simp only [disjB, List.all_eq_true, Bool.not_eq_true', decide_eq_false_iff_not, srt_mem]
end K91

namespace K91
open PySem L2 DL

theorem range_src {e : List Sl} {i : Nat} {Q : List Qu} (hl : Q.length ≤ 100) (he : e[i]? = some (.sh (qsD Q))) (t : Td) : irange1 (Z := td) (mcons (mfn len1 [(.v i)]) mnil) e t = some ((List.range Q.length).map nD, e, t) := by
  have lQ := q_len Q
  have b1 : ((Q.length : Nat) : Int) < 4611686018427387904 := by omega
  have rr := range0 Q.length
  generalize Q.length = n at lQ b1 rr ⊢
  generalize qsD Q = QQ at lQ he ⊢
  simp [mop, ev2, ev1, evA, getA, look, slotOk, mcst, mvar, asB, mlst, mtup, mcons, mnil, mfn, mfnL, evN, evAs, getAs, mite, band, bor, bnot, mand, mor, mnot, mcall, iseq, irange1, irange2, sset, ssetO, sret, sdrop, snil, sif, gset, mmut, isL1, ssub, spar, evOs, setSls, slOf, sasg, gtup, gcons, gnil, mslice, osome, onone, mopL, mlensetA, misinst, mmt, kindD, saug, byes, he, lQ, b1, rr]
theorem lt_nat (a b : Nat) : ltD (nD a) (nD b) = some (.bl (decide (a < b))) := by simp [ltD, cmpD]
theorem gt_nat (a b : Nat) : gtD (nD a) (nD b) = some (.bl (decide (b < a))) := by simp [gtD, cmpD]
theorem le1_nat (a : Nat) : leD (.int 1) (nD a) = some (.bl (decide (1 ≤ a))) := by
  show some (D.bl (decide ((1 : Int) ≤ (a : Int)))) = _
  congr 2
  apply decide_eq_decide.mpr
  omega
def endsL (Q : List Qu) : List Nat := (List.range Q.length).filter fun k => decide ((qk Q k).2 = some ("" : Str))
def openB (q : Qu) : Bool := decide (q.2 = none) || decide (q.2 = some ("" : Str))
def partA (Q : List Qu) (o : List Nat) : List Qu := o.map (qk Q)
def partB (Q : List Qu) (o : List Nat) : List Qu := ((List.range Q.length).filter fun k => !decide (k ∈ o)).map (qk Q)
def noneB (Q : List Qu) : Bool := Q.any fun q => decide (q.2 = none)
def endsB (Q : List Qu) (o : List Nat) : Bool := !(decide ((endsL Q).length = 0) && noneB Q) && (ascB o && (decide (o = endsL Q) && !decide ((endsL Q).length = 1)))
def lotB (Q : List Qu) (o : List Nat) : Bool := ascB o && ((decide (1 ≤ o.length) && decide (o.length < Q.length)) && (!(o.any fun k => openB (qk Q k)) && disjB (tw (partA Q o)) (tw (partB Q o))))
def lackI (Q : List Qu) (w : Str) : Int := (Q.map fun q => (if q.1 = w then 1 else 0) - (if q.2 = some w then 1 else 0) : List Int).sum
theorem int1_bl (b : Bool) : int1 [.bl b] = some (.int (if b then 1 else 0)) := rfl
theorem lack_run (Q : List Qu) (w : Str) (hl : Q.length ≤ 1000) (t : Td) : f_lack [qsD Q, .str w] t = some (.int (lackI Q w), t) := by
  have c : c_lack_1 [.sh (qsD Q), .sh (.str w), .no, .no] t = some (.lst ((Q.map fun q => (if q.1 = w then 1 else 0) - (if q.2 = some w then 1 else 0) : List Int).map .int), [.sh (qsD Q), .sh (.str w), .no, .no], t) := by
    unfold c_lack_1
    rw [List.map_map]
    refine mlc_all (Z := td) (e1 := [.sh (qsD Q), .sh (.str w), .no, .no]) (t1 := t) pD (D.int ∘ fun q => (if q.1 = w then 1 else 0) - (if q.2 = some w then 1 else 0)) Q ?_ rfl (by omega) fun q hq => ⟨[.sh (qsD Q), .sh (.str w), .sh (.str q.1), .sh (oS q.2)], rfl, rfl, [.sh (qsD Q), .sh (.str w), .sh (.str q.1), .sh (oS q.2)], ?_, rfl⟩
    · unfold qsD
      simp [mop, ev2, ev1, evA, getA, look, slotOk, mcst, mvar, asB, mlst, mtup, mcons, mnil, mfn, mfnL, evN, evAs, getAs, mite, band, bor, bnot, mand, mor, mnot, mcall, iseq, irange1, irange2, sset, ssetO, sret, sdrop, snil, sif, gset, mmut, isL1, ssub, spar, evOs, setSls, slOf, sasg, gtup, gcons, gnil, mslice, osome, onone, mopL, mlensetA, misinst, mmt, kindD, saug, byes]
    · have e1 := eq_str q.1 w
      have e2 : eqD (oS q.2) (.str w) = some (.bl (decide (q.2 = some w))) := eq_oS q.2 (some w)
      have i1 := int1_bl (decide (q.1 = w))
      have i2 := int1_bl (decide (q.2 = some w))
      have s : subD (.int (if decide (q.1 = w) then 1 else 0)) (.int (if decide (q.2 = some w) then 1 else 0)) = some (.int ((if q.1 = w then 1 else 0) - (if q.2 = some w then 1 else 0))) := by simp [subD]
      show ce_lack_1 _ t = some (.int ((if q.1 = w then 1 else 0) - (if q.2 = some w then 1 else 0)), _, t)
      generalize ((if q.1 = w then 1 else 0) - (if q.2 = some w then 1 else 0) : Int) = R at s ⊢
      generalize D.int (if decide (q.1 = w) then 1 else 0) = R1 at s i1
      generalize D.int (if decide (q.2 = some w) then 1 else 0) = R2 at s i2
      generalize D.bl (decide (q.1 = w)) = B1 at i1 e1
      generalize D.bl (decide (q.2 = some w)) = B2 at i2 e2
      generalize D.str w = W at e1 e2 ⊢
      generalize D.str q.1 = S at e1 ⊢
      generalize oS q.2 = O at e2 ⊢
      generalize qsD Q = QQ
      unfold ce_lack_1
      simp [mop, ev2, ev1, evA, getA, look, slotOk, mcst, mvar, asB, mlst, mtup, mcons, mnil, mfn, mfnL, evN, evAs, getAs, mite, band, bor, bnot, mand, mor, mnot, mcall, iseq, irange1, irange2, sset, ssetO, sret, sdrop, snil, sif, gset, mmut, isL1, ssub, spar, evOs, setSls, slOf, sasg, gtup, gcons, gnil, mslice, osome, onone, mopL, mlensetA, misinst, mmt, kindD, saug, byes, e1, e2, i1, i2, s]
  have s : sum1 [.lst ((Q.map fun q => (if q.1 = w then 1 else 0) - (if q.2 = some w then 1 else 0) : List Int).map .int)] = some (.int (lackI Q w)) := by
    simp only [sum1, intsD_map]; rfl
  generalize lackI Q w = R at s ⊢
  generalize D.lst ((Q.map fun q => (if q.1 = w then 1 else 0) - (if q.2 = some w then 1 else 0) : List Int).map .int) = L at c s
  generalize D.str w = W at c ⊢
  generalize qsD Q = QQ at c ⊢
  refine runFn_at (Z := td) (e1 := [.sh QQ, .sh W, .no, .no]) [.sh QQ, .sh W, .no, .no] rfl (sret_ev (Z := td) ?_)
  obtain ⟨C, hC⟩ : ∃ z, z = c_lack_1 := ⟨_, rfl⟩
  rw [← hC] at c ⊢
  clear hC
  simp [mop, ev2, ev1, evA, getA, look, slotOk, mcst, mvar, asB, mlst, mtup, mcons, mnil, mfn, mfnL, evN, evAs, getAs, mite, band, bor, bnot, mand, mor, mnot, mcall, iseq, irange1, irange2, sset, ssetO, sret, sdrop, snil, sif, gset, mmut, isL1, ssub, spar, evOs, setSls, slOf, sasg, gtup, gcons, gnil, mslice, osome, onone, mopL, mlensetA, misinst, mmt, kindD, saug, byes, c, s]
abbrev bE (QQ V : D) (s2 s3 s4 : Sl) : List Sl := [.sh QQ, .sh V, s2, s3, s4, .no, .no, .no, .no]
section
variable {Q : List Qu} {V : D} {o : List Nat} {s2 s3 s4 : Sl} {t : Td}
theorem bar_c7 (hl : Q.length ≤ 100) : c_is_bar_7 (bE (qsD Q) V s2 s3 s4) t = some (.lst ((endsL Q).map nD), bE (qsD Q) V s2 s3 s4, t) := by
  unfold c_is_bar_7 endsL
  refine mlc_map (Z := td) (e1 := bE (qsD Q) V s2 s3 s4) (t1 := t) nD (fun k => decide ((qk Q k).2 = some ("" : Str))) nD (List.range Q.length) (range_src hl rfl t) rfl (by rw [List.length_range]; omega) fun k hk => ⟨[.sh (qsD Q), .sh V, s2, s3, s4, .sh (nD k), .no, .no, .no], rfl, rfl, ?_, fun _ => ⟨[.sh (qsD Q), .sh V, s2, s3, s4, .sh (nD k), .no, .no, .no], rfl, rfl⟩⟩
  have a1 := q_ix (List.mem_range.mp hk)
  have a2 := p1 (qk Q k)
  have e : eqD (oS (qk Q k).2) (.str "") = some (.bl (decide ((qk Q k).2 = some ("" : Str)))) := eq_oS _ (some "")
  generalize decide ((qk Q k).2 = some ("" : Str)) = B at e ⊢
  generalize oS (qk Q k).2 = O at a2 e
  generalize pD (qk Q k) = P at a1 a2
  generalize nD k = K at a1 ⊢
  generalize qsD Q = QQ at a1 ⊢
  unfold ct_is_bar_2
  simp [mop, ev2, ev1, evA, getA, look, slotOk, mcst, mvar, asB, mlst, mtup, mcons, mnil, mfn, mfnL, evN, evAs, getAs, mite, band, bor, bnot, mand, mor, mnot, mcall, iseq, irange1, irange2, sset, ssetO, sret, sdrop, snil, sif, gset, mmut, isL1, ssub, spar, evOs, setSls, slOf, sasg, gtup, gcons, gnil, mslice, osome, onone, mopL, mlensetA, misinst, mmt, kindD, saug, byes, a1, a2, e]
theorem bar_c6 (hl : Q.length ≤ 100) : c_is_bar_6 (bE (qsD Q) V s2 s3 s4) t = some (.lst ((Q.map fun q => decide (q.2 = none)).map .bl), bE (qsD Q) V s2 s3 s4, t) := by
  unfold c_is_bar_6
  rw [List.map_map]
  refine mlc_all (Z := td) (e1 := bE (qsD Q) V s2 s3 s4) (t1 := t) pD (D.bl ∘ fun q => decide (q.2 = none)) Q ?_ rfl (by omega) fun q hq => ⟨[.sh (qsD Q), .sh V, s2, s3, s4, .no, .sh (.str q.1), .sh (oS q.2), .no], rfl, rfl, [.sh (qsD Q), .sh V, s2, s3, s4, .no, .sh (.str q.1), .sh (oS q.2), .no], ?_, rfl⟩
  · unfold qsD
    simp [mop, ev2, ev1, evA, getA, look, slotOk, mcst, mvar, asB, mlst, mtup, mcons, mnil, mfn, mfnL, evN, evAs, getAs, mite, band, bor, bnot, mand, mor, mnot, mcall, iseq, irange1, irange2, sset, ssetO, sret, sdrop, snil, sif, gset, mmut, isL1, ssub, spar, evOs, setSls, slOf, sasg, gtup, gcons, gnil, mslice, osome, onone, mopL, mlensetA, misinst, mmt, kindD, saug, byes]
  · have i := isN_oS q.2
    show ce_is_bar_6 _ t = some (.bl (decide (q.2 = none)), _, t)
    generalize decide (q.2 = none) = B at i ⊢
    generalize oS q.2 = O at i ⊢
    generalize D.str q.1 = S
    generalize qsD Q = QQ
    unfold ce_is_bar_6
    simp [mop, ev2, ev1, evA, getA, look, slotOk, mcst, mvar, asB, mlst, mtup, mcons, mnil, mfn, mfnL, evN, evAs, getAs, mite, band, bor, bnot, mand, mor, mnot, mcall, iseq, irange1, irange2, sset, ssetO, sret, sdrop, snil, sif, gset, mmut, isL1, ssub, spar, evOs, setSls, slOf, sasg, gtup, gcons, gnil, mslice, osome, onone, mopL, mlensetA, misinst, mmt, kindD, saug, byes, i]
theorem bar_c5 (hV : idxD V (.int 1) = some (isD o)) (ho : ∀ k ∈ o, k < Q.length) (hl : o.length ≤ 100) : c_is_bar_5 (bE (qsD Q) V s2 s3 s4) t = some (.lst ((o.map fun _ => true).map .bl), bE (qsD Q) V s2 s3 s4, t) := by
  unfold c_is_bar_5
  rw [List.map_map]
  refine mlc_all (Z := td) (e1 := bE (qsD Q) V s2 s3 s4) (t1 := t) nD (fun _ => D.bl true) o ?_ rfl (by omega) fun k hk => ⟨[.sh (qsD Q), .sh V, s2, s3, s4, .sh (nD k), .no, .no, .no], rfl, rfl, [.sh (qsD Q), .sh V, s2, s3, s4, .sh (nD k), .no, .no, .no], ?_, rfl⟩
  · unfold isD at hV
    generalize qsD Q = QQ
    simp [mop, ev2, ev1, evA, getA, look, slotOk, mcst, mvar, asB, mlst, mtup, mcons, mnil, mfn, mfnL, evN, evAs, getAs, mite, band, bor, bnot, mand, mor, mnot, mcall, iseq, irange1, irange2, sset, ssetO, sret, sdrop, snil, sif, gset, mmut, isL1, ssub, spar, evOs, setSls, slOf, sasg, gtup, gcons, gnil, mslice, osome, onone, mopL, mlensetA, misinst, mmt, kindD, saug, byes, hV]
  · have w := whole_run k 0 ((Q.length : Int) - 1) t
    have b := ho k hk
    have lQ := q_len Q
    rw [decide_eq_true (by omega : (0 : Int) ≤ (k : Int)), decide_eq_true (by omega : (k : Int) ≤ (Q.length : Int) - 1)] at w
    have sb : subD (nD Q.length) (.int 1) = some (.int ((Q.length : Int) - 1)) := rfl
    generalize (Q.length : Int) - 1 = h at w sb
    generalize nD Q.length = L at lQ sb
    generalize nD k = K at w ⊢
    generalize qsD Q = QQ at lQ ⊢
    unfold ce_is_bar_5
    obtain ⟨F, hF⟩ : ∃ z, z = f_is_whole := ⟨_, rfl⟩
    rw [← hF] at w ⊢
    clear hF
    simp [mop, ev2, ev1, evA, getA, look, slotOk, mcst, mvar, asB, mlst, mtup, mcons, mnil, mfn, mfnL, evN, evAs, getAs, mite, band, bor, bnot, mand, mor, mnot, mcall, iseq, irange1, irange2, sset, ssetO, sret, sdrop, snil, sif, gset, mmut, isL1, ssub, spar, evOs, setSls, slOf, sasg, gtup, gcons, gnil, mslice, osome, onone, mopL, mlensetA, misinst, mmt, kindD, saug, byes, w, lQ, sb]
theorem bar_c4 (hV : idxD V (.int 1) = some (isD o)) (ho : ∀ k ∈ o, k < Q.length) (hl : o.length ≤ 100) : c_is_bar_4 (bE (qsD Q) V s2 s3 s4) t = some (.lst ((o.map fun k => openB (qk Q k)).map .bl), bE (qsD Q) V s2 s3 s4, t) := by
  unfold c_is_bar_4
  rw [List.map_map]
  refine mlc_all (Z := td) (e1 := bE (qsD Q) V s2 s3 s4) (t1 := t) nD (D.bl ∘ fun k => openB (qk Q k)) o ?_ rfl (by omega) fun k hk => ⟨[.sh (qsD Q), .sh V, s2, s3, s4, .sh (nD k), .no, .no, .no], rfl, rfl, [.sh (qsD Q), .sh V, s2, s3, s4, .sh (nD k), .no, .no, .no], ?_, rfl⟩
  · unfold isD at hV
    generalize qsD Q = QQ
    simp [mop, ev2, ev1, evA, getA, look, slotOk, mcst, mvar, asB, mlst, mtup, mcons, mnil, mfn, mfnL, evN, evAs, getAs, mite, band, bor, bnot, mand, mor, mnot, mcall, iseq, irange1, irange2, sset, ssetO, sret, sdrop, snil, sif, gset, mmut, isL1, ssub, spar, evOs, setSls, slOf, sasg, gtup, gcons, gnil, mslice, osome, onone, mopL, mlensetA, misinst, mmt, kindD, saug, byes, hV]
  · have a1 := q_ix (ho k hk)
    have a2 := p1 (qk Q k)
    have i := isN_oS (qk Q k).2
    have e : eqD (oS (qk Q k).2) (.str "") = some (.bl (decide ((qk Q k).2 = some ("" : Str)))) := eq_oS _ (some "")
    show ce_is_bar_4 _ t = some (.bl (openB (qk Q k)), _, t)
    unfold openB
    generalize decide ((qk Q k).2 = some ("" : Str)) = B at e ⊢
    generalize decide ((qk Q k).2 = none) = B2 at i ⊢
    generalize oS (qk Q k).2 = O at a2 e i
    generalize pD (qk Q k) = P at a1 a2
    generalize nD k = K at a1 ⊢
    generalize qsD Q = QQ at a1 ⊢
    unfold ce_is_bar_4
    cases B2 <;> simp [mop, ev2, ev1, evA, getA, look, slotOk, mcst, mvar, asB, mlst, mtup, mcons, mnil, mfn, mfnL, evN, evAs, getAs, mite, band, bor, bnot, mand, mor, mnot, mcall, iseq, irange1, irange2, sset, ssetO, sret, sdrop, snil, sif, gset, mmut, isL1, ssub, spar, evOs, setSls, slOf, sasg, gtup, gcons, gnil, mslice, osome, onone, mopL, mlensetA, misinst, mmt, kindD, saug, byes, a1, a2, e, i]
theorem bar_c3 (hV : idxD V (.int 1) = some (isD o)) (ho : ∀ k ∈ o, k < Q.length) (hl : o.length ≤ 100) : c_is_bar_3 (bE (qsD Q) V s2 s3 s4) t = some (.lst ((partA Q o).map pD), bE (qsD Q) V s2 s3 s4, t) := by
  unfold c_is_bar_3 partA
  rw [List.map_map]
  refine mlc_all (Z := td) (e1 := bE (qsD Q) V s2 s3 s4) (t1 := t) nD (pD ∘ qk Q) o ?_ rfl (by omega) fun k hk => ⟨[.sh (qsD Q), .sh V, s2, s3, s4, .sh (nD k), .no, .no, .no], rfl, rfl, [.sh (qsD Q), .sh V, s2, s3, s4, .sh (nD k), .no, .no, .no], ?_, rfl⟩
  · unfold isD at hV
    generalize qsD Q = QQ
    simp [mop, ev2, ev1, evA, getA, look, slotOk, mcst, mvar, asB, mlst, mtup, mcons, mnil, mfn, mfnL, evN, evAs, getAs, mite, band, bor, bnot, mand, mor, mnot, mcall, iseq, irange1, irange2, sset, ssetO, sret, sdrop, snil, sif, gset, mmut, isL1, ssub, spar, evOs, setSls, slOf, sasg, gtup, gcons, gnil, mslice, osome, onone, mopL, mlensetA, misinst, mmt, kindD, saug, byes, hV]
  · have a1 := q_ix (ho k hk)
    show ce_is_bar_3 _ t = some (pD (qk Q k), _, t)
    generalize pD (qk Q k) = P at a1 ⊢
    generalize nD k = K at a1 ⊢
    generalize qsD Q = QQ at a1 ⊢
    unfold ce_is_bar_3
    simp [mop, ev2, ev1, evA, getA, look, slotOk, mcst, mvar, asB, mlst, mtup, mcons, mnil, mfn, mfnL, evN, evAs, getAs, mite, band, bor, bnot, mand, mor, mnot, mcall, iseq, irange1, irange2, sset, ssetO, sret, sdrop, snil, sif, gset, mmut, isL1, ssub, spar, evOs, setSls, slOf, sasg, gtup, gcons, gnil, mslice, osome, onone, mopL, mlensetA, misinst, mmt, kindD, saug, byes, a1]
theorem mem_nat (x : Nat) (xs : List Nat) : memD (nD x) (xs.map nD) = decide (x ∈ xs) := by
  induction xs with
  | nil => rfl
  | cons y ys ih =>
    have : memD (nD x) ((y :: ys).map nD) = (eqvD (nD y) (nD x) || memD (nD x) (ys.map nD)) := rfl
    rw [this, ih]
    have e : eqvD (nD y) (nD x) = decide (y = x) := by
      simp only [eqvD]
      by_cases h : y = x
      · simp [h]
      · have : ¬ ((y : Int) = (x : Int)) := by omega
        simp [h, this]
    rw [e]
    by_cases h : y = x
    · subst h; simp
    · have h' : ¬ x = y := fun z => h z.symm
      simp [h, h']
theorem ok_nats (xs : List Nat) : (xs.map nD).all (okD 30) = true := by
  rw [List.all_eq_true]
  intro d hd
  obtain ⟨x, hx, rfl⟩ := List.mem_map.mp hd
  rfl
theorem notin_nat (x : Nat) (xs : List Nat) : notinD (nD x) (isD xs) = some (.bl (!decide (x ∈ xs))) := by
  have o : okD 30 (nD x) = true := rfl
  unfold isD
  simp only [notinD, seqD, o, ok_nats, Bool.and_self, if_true, mem_nat]
theorem notin_natL (x : Nat) (xs : List Nat) : notinD (nD x) (.lst (xs.map nD)) = some (.bl (!decide (x ∈ xs))) := by
  have o : okD 30 (nD x) = true := rfl
  simp only [notinD, seqD, o, ok_nats, Bool.and_self, if_true, mem_nat]
theorem bar_c2 (hV : idxD V (.int 1) = some (isD o)) (hl : Q.length ≤ 100) : c_is_bar_2 (bE (qsD Q) V s2 s3 s4) t = some (.lst ((partB Q o).map pD), bE (qsD Q) V s2 s3 s4, t) := by
  unfold c_is_bar_2 partB
  rw [List.map_map]
  refine mlc_map (Z := td) (e1 := bE (qsD Q) V s2 s3 s4) (t1 := t) nD (fun k => !decide (k ∈ o)) (pD ∘ qk Q) (List.range Q.length) (range_src hl rfl t) rfl (by rw [List.length_range]; omega) fun k hk => ⟨[.sh (qsD Q), .sh V, s2, s3, s4, .sh (nD k), .no, .no, .no], rfl, rfl, ?_, fun _ => ⟨[.sh (qsD Q), .sh V, s2, s3, s4, .sh (nD k), .no, .no, .no], ?_, rfl⟩⟩
  · have n := notin_nat k o
    generalize (!decide (k ∈ o)) = B at n ⊢
    generalize isD o = O at hV n
    generalize nD k = K at n ⊢
    generalize qsD Q = QQ
    unfold ct_is_bar_1
    simp [mop, ev2, ev1, evA, getA, look, slotOk, mcst, mvar, asB, mlst, mtup, mcons, mnil, mfn, mfnL, evN, evAs, getAs, mite, band, bor, bnot, mand, mor, mnot, mcall, iseq, irange1, irange2, sset, ssetO, sret, sdrop, snil, sif, gset, mmut, isL1, ssub, spar, evOs, setSls, slOf, sasg, gtup, gcons, gnil, mslice, osome, onone, mopL, mlensetA, misinst, mmt, kindD, saug, byes, hV, n]
  · have a1 := q_ix (List.mem_range.mp hk)
    show ce_is_bar_2 _ t = some (pD (qk Q k), _, t)
    generalize pD (qk Q k) = P at a1 ⊢
    generalize nD k = K at a1 ⊢
    generalize qsD Q = QQ at a1 ⊢
    unfold ce_is_bar_2
    simp [mop, ev2, ev1, evA, getA, look, slotOk, mcst, mvar, asB, mlst, mtup, mcons, mnil, mfn, mfnL, evN, evAs, getAs, mite, band, bor, bnot, mand, mor, mnot, mcall, iseq, irange1, irange2, sset, ssetO, sret, sdrop, snil, sif, gset, mmut, isL1, ssub, spar, evOs, setSls, slOf, sasg, gtup, gcons, gnil, mslice, osome, onone, mopL, mlensetA, misinst, mmt, kindD, saug, byes, a1]
theorem bar_c1 {A B : List Str} {QQ : D} (hA : OkW A) (hB : OkW B) (hl : A.length ≤ 1000) : c_is_bar_1 (bE QQ V s2 (.sh (.lst (A.map .str))) (.sh (.lst (B.map .str)))) t = some (.lst ((A.map fun x => !decide (x ∈ B)).map .bl), bE QQ V s2 (.sh (.lst (A.map .str))) (.sh (.lst (B.map .str))), t) := by
  unfold c_is_bar_1
  rw [List.map_map]
  refine mlc_all (Z := td) (e1 := bE QQ V s2 (.sh (.lst (A.map .str))) (.sh (.lst (B.map .str)))) (t1 := t) D.str (D.bl ∘ fun x => !decide (x ∈ B)) A ?_ rfl (by omega) fun x hx => ⟨[.sh QQ, .sh V, s2, .sh (.lst (A.map .str)), .sh (.lst (B.map .str)), .no, .no, .no, .sh (.str x)], rfl, rfl, [.sh QQ, .sh V, s2, .sh (.lst (A.map .str)), .sh (.lst (B.map .str)), .no, .no, .no, .sh (.str x)], ?_, rfl⟩
  · generalize A.map D.str = AA
    generalize B.map D.str = BB
    simp [mop, ev2, ev1, evA, getA, look, slotOk, mcst, mvar, asB, mlst, mtup, mcons, mnil, mfn, mfnL, evN, evAs, getAs, mite, band, bor, bnot, mand, mor, mnot, mcall, iseq, irange1, irange2, sset, ssetO, sret, sdrop, snil, sif, gset, mmut, isL1, ssub, spar, evOs, setSls, slOf, sasg, gtup, gcons, gnil, mslice, osome, onone, mopL, mlensetA, misinst, mmt, kindD, saug, byes]
  · have n := notin_str (hA x hx) hB
    show ce_is_bar_1 _ t = some (.bl (!decide (x ∈ B)), _, t)
    generalize (!decide (x ∈ B)) = Z at n ⊢
    generalize D.str x = X at n ⊢
    generalize D.lst (B.map D.str) = BB at n ⊢
    generalize D.lst (A.map D.str) = AA
    unfold ce_is_bar_1
    simp [mop, ev2, ev1, evA, getA, look, slotOk, mcst, mvar, asB, mlst, mtup, mcons, mnil, mfn, mfnL, evN, evAs, getAs, mite, band, bor, bnot, mand, mor, mnot, mcall, iseq, irange1, irange2, sset, ssetO, sret, sdrop, snil, sif, gset, mmut, isL1, ssub, spar, evOs, setSls, slOf, sasg, gtup, gcons, gnil, mslice, osome, onone, mopL, mlensetA, misinst, mmt, kindD, saug, byes, n]
end
end K91

namespace K91
open PySem L2 DL

theorem bar_two (K W : D) : isinstD "tuple" (.tup [K, W]) = some true ∧ len1 [.tup [K, W]] = some (nD 2) ∧ neD (nD 2) (.int 2) = some (.bl false) := ⟨rfl, rfl, rfl⟩
theorem is_str (x : Str) : isinstD "str" (.str x) = some true := rfl
theorem eq_isD (a b : List Nat) : eqD (isD a) (isD b) = some (.bl (decide (a = b))) := by
  rw [isD_natI, isD_natI]
  simp only [eqD, (ok_ints _).2, Bool.and_self, Bool.or_true, if_true, eqvD, eqvL_ints]
  congr 2
  apply decide_eq_decide.mpr
  constructor
  · intro h
    have : ∀ a b : List Nat, natI a = natI b → a = b := by
      intro a
      induction a with
      | nil => intro b h; cases b with
        | nil => rfl
        | cons y b => simp [natI] at h
      | cons x a ih => intro b h; cases b with
        | nil => simp [natI] at h
        | cons y b =>
          simp only [natI, List.map_cons, List.cons.injEq] at h
          rw [ih b h.2]
          congr 1
          omega
    exact this a b h
  · intro h; rw [h]
theorem bar_lot_run {Q : List Qu} {o : List Nat} (hQ : Oks Q) (hl : Q.length ≤ 8) (ho : ∀ k ∈ o, k < Q.length) (ho2 : o.length ≤ 8) (t : Td) : f_is_bar [qsD Q, .tup [.str "lot", isD o]] t = some (.bl (lotB Q o), t) := by
  obtain ⟨T, hT⟩ : ∃ T, T = D.tup [.str "lot", isD o] := ⟨_, rfl⟩
  have v0 : idxD T (.int 0) = some (.str "lot") := by rw [hT]; exact ix0 _ _
  have v1 : idxD T (.int 1) = some (isD o) := by rw [hT]; exact ix1 _ _ _
  obtain ⟨i1, i2, i3⟩ := bar_two (.str "lot") (isD o)
  rw [← hT] at i1 i2
  rw [← hT]
  obtain ⟨SL, hS, n1, k1, k2, k3⟩ : ∃ S : D, D.str "lot" = S ∧ isinstD "str" S = some true ∧ eqD S (.str "ends") = some (.bl false) ∧ eqD S (.str "word") = some (.bl false) ∧ neD S (.str "lot") = some (.bl false) := ⟨_, rfl, rfl, rfl, rfl, rfl⟩
  rw [hS] at v0
  have lQ := q_len Q
  have sb : subD (nD Q.length) (.int 1) = some (.int ((Q.length : Int) - 1)) := rfl
  have as := asc_run (n := Q.length) ho (by omega) t
  have lo := o_len o
  have le := le1_nat o.length
  have lt := lt_nat o.length Q.length
  have c5 : ∀ s2 s3 s4, _ := fun s2 s3 s4 => bar_c5 (V := T) (s2 := s2) (s3 := s3) (s4 := s4) (t := t) v1 ho (by omega)
  have a5 : all1 [.lst ((o.map fun _ => true).map .bl)] = some (.bl true) := by
    rw [all1_bls]
    congr 2
    simp
  have c4 : ∀ s2 s3 s4, _ := fun s2 s3 s4 => bar_c4 (V := T) (s2 := s2) (s3 := s3) (s4 := s4) (t := t) v1 ho (by omega)
  have a4 : any1 [.lst ((o.map fun k => openB (qk Q k)).map .bl)] = some (.bl (o.any fun k => openB (qk Q k))) := by
    rw [any1_bls, List.any_map]; rfl
  have c3 : ∀ s2 s3 s4, _ := fun s2 s3 s4 => bar_c3 (V := T) (s2 := s2) (s3 := s3) (s4 := s4) (t := t) v1 ho (by omega)
  have c2 : ∀ s2 s3 s4, _ := fun s2 s3 s4 => bar_c2 (V := T) (s2 := s2) (s3 := s3) (s4 := s4) (t := t) (Q := Q) v1 (by omega)
  have la : (partA Q o).length ≤ 31 := by unfold partA; rw [List.length_map]; omega
  have lb : (partB Q o).length ≤ 31 := by
    unfold partB
    rw [List.length_map]
    exact Nat.le_trans (List.length_filter_le _ _) (by rw [List.length_range]; omega)
  have oA : Oks (partA Q o) := fun q hq => by
    obtain ⟨k, hk, rfl⟩ := List.mem_map.mp hq
    exact hQ _ (qk_mem (ho k hk))
  have oB : Oks (partB Q o) := fun q hq => by
    obtain ⟨k, hk, rfl⟩ := List.mem_map.mp hq
    exact hQ _ (qk_mem (List.mem_range.mp (List.mem_filter.mp hk).1))
  have wa := told_words_run la t
  have wb := told_words_run lb t
  have lw : (srtS (dedW (tw (partA Q o)))).length ≤ 1000 := by
    have := (srtS_perm (dedW (tw (partA Q o)))).length_eq
    have := dedW_le (tw (partA Q o))
    have := tw_len (partA Q o)
    omega
  have c1 := bar_c1 (V := T) (s2 := .no) (t := t) (QQ := qsD Q) (srt_ok (tw_ok oA)) (srt_ok (tw_ok oB)) lw
  have a1 : all1 [.lst (((srtS (dedW (tw (partA Q o)))).map fun x => !decide (x ∈ srtS (dedW (tw (partB Q o))))).map .bl)] = some (.bl (disjB (tw (partA Q o)) (tw (partB Q o)))) := by
    rw [all1_bls, List.all_map, ← disj_srt]; rfl
  unfold lotB
  clear hT ho oA oB lw la lb ho2 hl hQ
  generalize D.lst (((srtS (dedW (tw (partA Q o)))).map fun x => !decide (x ∈ srtS (dedW (tw (partB Q o))))).map .bl) = L1 at c1 a1
  generalize disjB (tw (partA Q o)) (tw (partB Q o)) = Z1 at a1 ⊢
  generalize D.lst ((srtS (dedW (tw (partA Q o)))).map .str) = WA at wa c1
  generalize D.lst ((srtS (dedW (tw (partB Q o)))).map .str) = WB at wb c1
  generalize D.lst ((partA Q o).map pD) = PA at wa c3
  generalize D.lst ((partB Q o).map pD) = PB at wb c2
  generalize D.lst ((o.map fun k => openB (qk Q k)).map .bl) = L4 at c4 a4
  generalize (o.any fun k => openB (qk Q k)) = Z4 at a4 ⊢
  generalize D.lst ((o.map fun _ => true).map .bl) = L5 at c5 a5
  generalize ascB o = Z5 at as ⊢
  generalize decide (o.length < Q.length) = Z6 at lt ⊢
  generalize decide (1 ≤ o.length) = Z7 at le ⊢
  generalize (Q.length : Int) - 1 = h at as sb
  generalize nD Q.length = LQ at lQ sb lt
  generalize nD o.length = LO at lo le lt
  generalize nD 2 = two at i2 i3
  clear hS
  generalize isD o = O at v1 as lo
  generalize qsD Q = QQ at lQ c1 c2 c3 c4 c5 ⊢
  unfold bE at c1 c2 c3 c4 c5
  refine runFn_at (Z := td) (e1 := if Z5 && (Z7 && Z6) && !Z4 then [.sh QQ, .sh T, .no, .sh WA, .sh WB, .no, .no, .no, .no] else [.sh QQ, .sh T, .no, .no, .no, .no, .no, .no, .no]) [.sh QQ, .sh T, .no, .no, .no, .no, .no, .no, .no] rfl ?_
  unfold m_is_bar
  obtain ⟨F1, hF1⟩ : ∃ z, z = f_is_ascending := ⟨_, rfl⟩
  rw [← hF1] at as ⊢
  clear hF1
  obtain ⟨C5, hC5⟩ : ∃ z, z = c_is_bar_5 := ⟨_, rfl⟩
  rw [← hC5] at c5 ⊢
  clear hC5
  obtain ⟨C4, hC4⟩ : ∃ z, z = c_is_bar_4 := ⟨_, rfl⟩
  rw [← hC4] at c4 ⊢
  clear hC4
  obtain ⟨C3, hC3⟩ : ∃ z, z = c_is_bar_3 := ⟨_, rfl⟩
  rw [← hC3] at c3 ⊢
  clear hC3
  obtain ⟨C2, hC2⟩ : ∃ z, z = c_is_bar_2 := ⟨_, rfl⟩
  rw [← hC2] at c2 ⊢
  clear hC2
  obtain ⟨C1, hC1⟩ : ∃ z, z = c_is_bar_1 := ⟨_, rfl⟩
  rw [← hC1] at c1 ⊢
  clear hC1
  obtain ⟨F2, hF2⟩ : ∃ z, z = f_told_words := ⟨_, rfl⟩
  rw [← hF2] at wa wb ⊢
  clear hF2
  cases Z5 <;> cases Z7 <;> cases Z6 <;> cases Z4 <;> simp [mop, ev2, ev1, evA, getA, look, slotOk, mcst, mvar, asB, mlst, mtup, mcons, mnil, mfn, mfnL, evN, evAs, getAs, mite, band, bor, bnot, mand, mor, mnot, mcall, iseq, irange1, irange2, sset, ssetO, sret, sdrop, snil, sif, gset, mmut, isL1, ssub, spar, evOs, setSls, slOf, sasg, gtup, gcons, gnil, mslice, osome, onone, mopL, mlensetA, misinst, mmt, kindD, saug, byes, scons, mchain, v0, v1, i1, i2, i3, n1, k1, k2, k3, lQ, sb, as, lo, le, lt, c5, a5, c4, a4, c3, c2, wa, wb, c1, a1]
end K91

namespace K91
open PySem L2 DL

theorem eq_nat0 (a : Nat) : eqD (nD a) (.int 0) = some (.bl (decide (a = 0))) := eq_nat a 0
theorem ne_nat1 (a : Nat) : neD (nD a) (.int 1) = some (.bl (!decide (a = 1))) := ne_nat a 1
/-- the third thing of the ends question -/
theorem bar_ends_gen {Q : List Qu} {W : D} {a e : Bool} (hl : Q.length ≤ 8) (t : Td) (as : f_is_ascending [W, .int 0, .int ((Q.length : Int) - 1)] t = some (.bl a, t)) (eq : a = true → eqD W (isD (endsL Q)) = some (.bl e)) :
    f_is_bar [qsD Q, .tup [.str "ends", W]] t = some (.bl (!(decide ((endsL Q).length = 0) && noneB Q) && (a && (e && !decide ((endsL Q).length = 1)))), t) := by
  obtain ⟨T, hT⟩ : ∃ T, T = D.tup [.str "ends", W] := ⟨_, rfl⟩
  have v0 : idxD T (.int 0) = some (.str "ends") := by rw [hT]; exact ix0 _ _
  have v1 : idxD T (.int 1) = some W := by rw [hT]; exact ix1 _ _ _
  obtain ⟨i1, i2, i3⟩ := bar_two (.str "ends") W
  rw [← hT] at i1 i2
  rw [← hT]
  obtain ⟨SL, hS, n1, k1⟩ : ∃ S : D, D.str "ends" = S ∧ isinstD "str" S = some true ∧ eqD S (.str "ends") = some (.bl true) := ⟨_, rfl, rfl, rfl⟩
  rw [hS] at v0
  have lQ := q_len Q
  have sb : subD (nD Q.length) (.int 1) = some (.int ((Q.length : Int) - 1)) := rfl
  have c7 : ∀ s2 s3 s4, _ := fun s2 s3 s4 => bar_c7 (Q := Q) (V := T) (s2 := s2) (s3 := s3) (s4 := s4) (t := t) (by omega)
  have c6 : ∀ s2 s3 s4, _ := fun s2 s3 s4 => bar_c6 (Q := Q) (V := T) (s2 := s2) (s3 := s3) (s4 := s4) (t := t) (by omega)
  have tu : tuple1 [.lst ((endsL Q).map nD)] = some (isD (endsL Q)) := rfl
  have le := o_len (endsL Q)
  have e0 := eq_nat0 (endsL Q).length
  have e1 := ne_nat1 (endsL Q).length
  have a6 : any1 [.lst ((Q.map fun q => decide (q.2 = none)).map .bl)] = some (.bl (noneB Q)) := by
    rw [any1_bls, List.any_map]; rfl
  generalize D.lst ((Q.map fun q => decide (q.2 = none)).map .bl) = L6 at c6 a6
  generalize noneB Q = Z6 at a6 ⊢
  generalize decide ((endsL Q).length = 0) = Z0 at e0 ⊢
  generalize decide ((endsL Q).length = 1) = Z1 at e1 ⊢
  generalize nD (endsL Q).length = LE at le e0 e1
  generalize D.lst ((endsL Q).map nD) = L7 at c7 tu
  generalize isD (endsL Q) = EE at tu le eq
  generalize (Q.length : Int) - 1 = h at as sb
  generalize nD Q.length = LQ at lQ sb
  generalize nD 2 = two at i2 i3
  clear hT hS
  generalize qsD Q = QQ at lQ c6 c7 ⊢
  unfold bE at c6 c7
  refine runFn_at (Z := td) (e1 := [.sh QQ, .sh T, .sh EE, .no, .no, .no, .no, .no, .no]) [.sh QQ, .sh T, .no, .no, .no, .no, .no, .no, .no] rfl ?_
  unfold m_is_bar
  obtain ⟨F1, hF1⟩ : ∃ z, z = f_is_ascending := ⟨_, rfl⟩
  rw [← hF1] at as ⊢
  clear hF1
  obtain ⟨C7, hC7⟩ : ∃ z, z = c_is_bar_7 := ⟨_, rfl⟩
  rw [← hC7] at c7 ⊢
  clear hC7
  obtain ⟨C6, hC6⟩ : ∃ z, z = c_is_bar_6 := ⟨_, rfl⟩
  rw [← hC6] at c6 ⊢
  clear hC6
  cases a with
  | false => cases Z0 <;> cases Z6 <;> simp [mop, ev2, ev1, evA, getA, look, slotOk, mcst, mvar, asB, mlst, mtup, mcons, mnil, mfn, mfnL, evN, evAs, getAs, mite, band, bor, bnot, mand, mor, mnot, mcall, iseq, irange1, irange2, sset, ssetO, sret, sdrop, snil, sif, gset, mmut, isL1, ssub, spar, evOs, setSls, slOf, sasg, gtup, gcons, gnil, mslice, osome, onone, mopL, mlensetA, misinst, mmt, kindD, saug, byes, scons, v0, v1, i1, i2, i3, n1, k1, lQ, sb, as, c7, tu, le, e0, c6, a6]
  | true =>
    have eq := eq rfl
    cases e <;> cases Z0 <;> cases Z6 <;> simp [mop, ev2, ev1, evA, getA, look, slotOk, mcst, mvar, asB, mlst, mtup, mcons, mnil, mfn, mfnL, evN, evAs, getAs, mite, band, bor, bnot, mand, mor, mnot, mcall, iseq, irange1, irange2, sset, ssetO, sret, sdrop, snil, sif, gset, mmut, isL1, ssub, spar, evOs, setSls, slOf, sasg, gtup, gcons, gnil, mslice, osome, onone, mopL, mlensetA, misinst, mmt, kindD, saug, byes, scons, v0, v1, i1, i2, i3, n1, k1, lQ, sb, as, c7, tu, le, e0, c6, a6, e1, eq]
theorem bar_ends_run {Q : List Qu} {o : List Nat} (hl : Q.length ≤ 8) (ho : ∀ k ∈ o, k < Q.length) (ho2 : o.length ≤ 8) (t : Td) : f_is_bar [qsD Q, .tup [.str "ends", isD o]] t = some (.bl (endsB Q o), t) :=
  bar_ends_gen hl t (asc_run (n := Q.length) ho (by omega) t) fun _ => eq_isD _ _
theorem bar_ends_none {Q : List Qu} (hl : Q.length ≤ 8) (t : Td) : f_is_bar [qsD Q, .tup [.str "ends", .non]] t = some (.bl false, t) := by
  have := bar_ends_gen (Q := Q) (W := .non) (a := false) (e := false) hl t (asc_no rfl (by simp) t) (by simp)
  rw [this]; simp
theorem bar_word_gen {Q : List Qu} {W : D} {a e : Bool} (t : Td) (as : f_is_word [W] t = some (.bl a, t)) (n : Int) (lk : a = true → f_lack [qsD Q, W] t = some (.int n, t) ∧ e = decide (n < 0)) : f_is_bar [qsD Q, .tup [.str "word", W]] t = some (.bl (a && e), t) := by
  obtain ⟨T, hT⟩ : ∃ T, T = D.tup [.str "word", W] := ⟨_, rfl⟩
  have v0 : idxD T (.int 0) = some (.str "word") := by rw [hT]; exact ix0 _ _
  have v1 : idxD T (.int 1) = some W := by rw [hT]; exact ix1 _ _ _
  obtain ⟨i1, i2, i3⟩ := bar_two (.str "word") W
  rw [← hT] at i1 i2
  rw [← hT]
  obtain ⟨SL, hS, n1, k1, k2⟩ : ∃ S : D, D.str "word" = S ∧ isinstD "str" S = some true ∧ eqD S (.str "ends") = some (.bl false) ∧ eqD S (.str "word") = some (.bl true) := ⟨_, rfl, rfl, rfl, rfl⟩
  rw [hS] at v0
  have lt : ltD (.int n) (.int 0) = some (.bl (decide (n < 0))) := rfl
  generalize nD 2 = two at i2 i3
  generalize D.int n = N at lk lt
  clear hT hS
  generalize qsD Q = QQ at lk ⊢
  refine runFn_at (Z := td) (e1 := [.sh QQ, .sh T, .no, .no, .no, .no, .no, .no, .no]) [.sh QQ, .sh T, .no, .no, .no, .no, .no, .no, .no] rfl ?_
  unfold m_is_bar
  obtain ⟨F2, hF2⟩ : ∃ z, z = f_lack := ⟨_, rfl⟩
  rw [← hF2] at lk ⊢
  clear hF2
  obtain ⟨F1, hF1⟩ : ∃ z, z = f_is_word := ⟨_, rfl⟩
  rw [← hF1] at as ⊢
  clear hF1
  cases a with
  | false => simp [mop, ev2, ev1, evA, getA, look, slotOk, mcst, mvar, asB, mlst, mtup, mcons, mnil, mfn, mfnL, evN, evAs, getAs, mite, band, bor, bnot, mand, mor, mnot, mcall, iseq, irange1, irange2, sset, ssetO, sret, sdrop, snil, sif, gset, mmut, isL1, ssub, spar, evOs, setSls, slOf, sasg, gtup, gcons, gnil, mslice, osome, onone, mopL, mlensetA, misinst, mmt, kindD, saug, byes, scons, v0, v1, i1, i2, i3, n1, k1, k2, as]
  | true =>
    obtain ⟨l1, l2⟩ := lk rfl
    rw [← l2] at lt
    simp [mop, ev2, ev1, evA, getA, look, slotOk, mcst, mvar, asB, mlst, mtup, mcons, mnil, mfn, mfnL, evN, evAs, getAs, mite, band, bor, bnot, mand, mor, mnot, mcall, iseq, irange1, irange2, sset, ssetO, sret, sdrop, snil, sif, gset, mmut, isL1, ssub, spar, evOs, setSls, slOf, sasg, gtup, gcons, gnil, mslice, osome, onone, mopL, mlensetA, misinst, mmt, kindD, saug, byes, scons, v0, v1, i1, i2, i3, n1, k1, k2, as, l1, lt]
def wordB (Q : List Qu) (w : Str) : Bool := decide (lackI Q w < 0)
theorem bar_word_run {Q : List Qu} {w : Str} (hw : w ∈ words6) (hl : Q.length ≤ 8) (t : Td) : f_is_bar [qsD Q, .tup [.str "word", .str w]] t = some (.bl (wordB Q w), t) := by
  have := bar_word_gen (Q := Q) (e := wordB Q w) t (w6_word t w hw) (lackI Q w) fun _ => ⟨lack_run Q w (by omega) t, rfl⟩
  rw [this]; simp
/-! ### odd bars -/
theorem bar_no {b v : D} (h : noTape v = true) (h2 : ∀ ds, v ≠ .tup ds) (t : Td) : f_is_bar [b, v] t = some (.bl false, t) := by
  have i := isT_no h h2
  refine runFn_at (Z := td) (e1 := [.sh b, .sh v, .no, .no, .no, .no, .no, .no, .no]) [.sh b, .sh v, .no, .no, .no, .no, .no, .no, .no] rfl (scons_rt (Z := td) ?_)
  simp [mop, ev2, ev1, evA, getA, look, slotOk, mcst, mvar, asB, mlst, mtup, mcons, mnil, mfn, mfnL, evN, evAs, getAs, mite, band, bor, bnot, mand, mor, mnot, mcall, iseq, irange1, irange2, sset, ssetO, sret, sdrop, snil, sif, gset, mmut, isL1, ssub, spar, evOs, setSls, slOf, sasg, gtup, gcons, gnil, mslice, osome, onone, mopL, mlensetA, misinst, mmt, kindD, saug, byes, i]
theorem bar_len {b : D} {ds : List D} (h : ds.length ≠ 2) (t : Td) : f_is_bar [b, .tup ds] t = some (.bl false, t) := by
  have i : isinstD "tuple" (.tup ds) = some true := rfl
  have l : len1 [.tup ds] = some (nD ds.length) := rfl
  have n : neD (nD ds.length) (.int 2) = some (.bl (!decide (ds.length = 2))) := ne_nat _ 2
  rw [decide_eq_false h] at n
  generalize nD ds.length = LL at l n
  generalize D.tup ds = V at i l ⊢
  refine runFn_at (Z := td) (e1 := [.sh b, .sh V, .no, .no, .no, .no, .no, .no, .no]) [.sh b, .sh V, .no, .no, .no, .no, .no, .no, .no] rfl (scons_rt (Z := td) ?_)
  simp [mop, ev2, ev1, evA, getA, look, slotOk, mcst, mvar, asB, mlst, mtup, mcons, mnil, mfn, mfnL, evN, evAs, getAs, mite, band, bor, bnot, mand, mor, mnot, mcall, iseq, irange1, irange2, sset, ssetO, sret, sdrop, snil, sif, gset, mmut, isL1, ssub, spar, evOs, setSls, slOf, sasg, gtup, gcons, gnil, mslice, osome, onone, mopL, mlensetA, misinst, mmt, kindD, saug, byes, i, l, n]
theorem bar_lots {b W : D} (t : Td) : f_is_bar [b, .tup [.str "lots", W]] t = some (.bl false, t) := by
  obtain ⟨T, hT⟩ : ∃ T, T = D.tup [.str "lots", W] := ⟨_, rfl⟩
  have v0 : idxD T (.int 0) = some (.str "lots") := by rw [hT]; exact ix0 _ _
  obtain ⟨i1, i2, i3⟩ := bar_two (.str "lots") W
  rw [← hT] at i1 i2
  rw [← hT]
  obtain ⟨SL, hS, n1, k1, k2, k3⟩ : ∃ S : D, D.str "lots" = S ∧ isinstD "str" S = some true ∧ eqD S (.str "ends") = some (.bl false) ∧ eqD S (.str "word") = some (.bl false) ∧ neD S (.str "lot") = some (.bl true) := ⟨_, rfl, rfl, rfl, rfl, rfl⟩
  rw [hS] at v0
  generalize nD 2 = two at i2 i3
  clear hT hS
  refine runFn_at (Z := td) (e1 := [.sh b, .sh T, .no, .no, .no, .no, .no, .no, .no]) [.sh b, .sh T, .no, .no, .no, .no, .no, .no, .no] rfl ?_
  unfold m_is_bar
  simp [mop, ev2, ev1, evA, getA, look, slotOk, mcst, mvar, asB, mlst, mtup, mcons, mnil, mfn, mfnL, evN, evAs, getAs, mite, band, bor, bnot, mand, mor, mnot, mcall, iseq, irange1, irange2, sset, ssetO, sret, sdrop, snil, sif, gset, mmut, isL1, ssub, spar, evOs, setSls, slOf, sasg, gtup, gcons, gnil, mslice, osome, onone, mopL, mlensetA, misinst, mmt, kindD, saug, byes, scons, v0, i1, i2, i3, n1, k1, k2, k3]
theorem bar_lot_no {Q : List Qu} {W : D} (t : Td) (as : f_is_ascending [W, .int 0, .int ((Q.length : Int) - 1)] t = some (.bl false, t)) : f_is_bar [qsD Q, .tup [.str "lot", W]] t = some (.bl false, t) := by
  obtain ⟨T, hT⟩ : ∃ T, T = D.tup [.str "lot", W] := ⟨_, rfl⟩
  have v0 : idxD T (.int 0) = some (.str "lot") := by rw [hT]; exact ix0 _ _
  have v1 : idxD T (.int 1) = some W := by rw [hT]; exact ix1 _ _ _
  obtain ⟨i1, i2, i3⟩ := bar_two (.str "lot") W
  rw [← hT] at i1 i2
  rw [← hT]
  obtain ⟨SL, hS, n1, k1, k2, k3⟩ : ∃ S : D, D.str "lot" = S ∧ isinstD "str" S = some true ∧ eqD S (.str "ends") = some (.bl false) ∧ eqD S (.str "word") = some (.bl false) ∧ neD S (.str "lot") = some (.bl false) := ⟨_, rfl, rfl, rfl, rfl, rfl⟩
  rw [hS] at v0
  have lQ := q_len Q
  have sb : subD (nD Q.length) (.int 1) = some (.int ((Q.length : Int) - 1)) := rfl
  generalize (Q.length : Int) - 1 = h at as sb
  generalize nD Q.length = LQ at lQ sb
  generalize nD 2 = two at i2 i3
  clear hT hS
  generalize qsD Q = QQ at lQ ⊢
  refine runFn_at (Z := td) (e1 := [.sh QQ, .sh T, .no, .no, .no, .no, .no, .no, .no]) [.sh QQ, .sh T, .no, .no, .no, .no, .no, .no, .no] rfl ?_
  unfold m_is_bar
  obtain ⟨F1, hF1⟩ : ∃ z, z = f_is_ascending := ⟨_, rfl⟩
  rw [← hF1] at as ⊢
  clear hF1
  simp [mop, ev2, ev1, evA, getA, look, slotOk, mcst, mvar, asB, mlst, mtup, mcons, mnil, mfn, mfnL, evN, evAs, getAs, mite, band, bor, bnot, mand, mor, mnot, mcall, iseq, irange1, irange2, sset, ssetO, sret, sdrop, snil, sif, gset, mmut, isL1, ssub, spar, evOs, setSls, slOf, sasg, gtup, gcons, gnil, mslice, osome, onone, mopL, mlensetA, misinst, mmt, kindD, saug, byes, scons, v0, v1, i1, i2, i3, n1, k1, k2, k3, lQ, sb, as]
theorem lack_zzz {Q : List Qu} (hQ : Oks Q) : lackI Q "zzz" = 0 := by
  unfold lackI
  have : (Q.map fun q => (if q.1 = ("zzz" : Str) then 1 else 0) - (if q.2 = some ("zzz" : Str) then 1 else 0) : List Int) = Q.map fun _ => 0 := by
    apply List.map_congr_left
    intro q hq
    have o := hQ q hq
    have nz : ("zzz" : Str) ∉ words6 := by decide +kernel
    have h1 : q.1 ≠ "zzz" := fun e => nz (e ▸ o.f)
    have h2 : q.2 ≠ some ("zzz" : Str) := fun e => by
      rcases o.c _ e with h | h
      · exact absurd h (by decide +kernel)
      · exact nz h
    rw [if_neg h1, if_neg h2]; rfl
  rw [this]
  clear this hQ
  induction Q with
  | nil => rfl
  | cons q Q ih => simpa using ih
/-- the thirteen odd bars -/
def oddBars : List D := [.non, .tup [], .tup [.str "lot"], .tup [.str "word", .str ""], .tup [.str "word", .non], .tup [.str "lot", .lst [.int 0]], .tup [.str "lot", .non], .tup [.str "ends", .non], .lst [.str "lot", .tup [.int 0]], .tup [.str "lots", .tup [.int 0]], .tup [.str "lot", .tup [.int 0, .int 0]], .tup [.str "lot", .tup [.bl true]], .tup [.str "word", .str "zzz"]]
theorem odd_bar {Q : List Qu} (hQ : Oks Q) (h1 : 1 ≤ Q.length) (hl : Q.length ≤ 8) (t : Td) : ∀ d ∈ oddBars, f_is_bar [qsD Q, d] t = some (.bl false, t) := by
  intro d hd
  simp only [oddBars, List.mem_cons, List.not_mem_nil, or_false] at hd
  rcases hd with rfl | rfl | rfl | rfl | rfl | rfl | rfl | rfl | rfl | rfl | rfl | rfl | rfl
  · exact bar_no rfl (by simp) t
  · exact bar_len (by simp) t
  · exact bar_len (by simp) t
  · exact bar_word_gen (e := true) t (w0_word t) 0 (by simp)
  · exact bar_word_gen (e := true) (a := false) t rfl 0 (by simp)
  · exact bar_lot_no t (asc_no rfl (by simp) t)
  · exact bar_lot_no t (asc_no rfl (by simp) t)
  · exact bar_ends_none hl t
  · exact bar_no rfl (by simp) t
  · exact bar_lots t
  · have := asc_run (o := [0, 0]) (n := Q.length) (by intro k hk; simp at hk; omega) (by simp) t
    exact bar_lot_no t this
  · exact bar_lot_no t (asc_bool t)
  · have := bar_word_gen (Q := Q) (W := .str "zzz") (a := true) (e := false) t rfl 0 fun _ => ⟨by rw [lack_run Q "zzz" (by omega) t, lack_zzz hQ], rfl⟩
    exact this
end K91

namespace K91
open PySem L2 DL

theorem acc_no {b v : D} (h : noTape v = true) (h2 : ∀ ds, v ≠ .tup ds) (t : Td) : f_accepts_ordered [b, v] t = some (.bl false, t) := by
  have i := isT_no h h2
  refine runFn_at (Z := td) (e1 := [.sh b, .sh v]) [.sh b, .sh v] rfl (scons_rt (Z := td) ?_)
  simp [mop, ev2, ev1, evA, getA, look, slotOk, mcst, mvar, asB, mlst, mtup, mcons, mnil, mfn, mfnL, evN, evAs, getAs, mite, band, bor, bnot, mand, mor, mnot, mcall, iseq, irange1, irange2, sset, ssetO, sret, sdrop, snil, sif, gset, mmut, isL1, ssub, spar, evOs, setSls, slOf, sasg, gtup, gcons, gnil, mslice, osome, onone, mopL, mlensetA, misinst, mmt, kindD, saug, byes, i]
theorem acc_short {b : D} {ds : List D} (h : ds.length < 2) (t : Td) : f_accepts_ordered [b, .tup ds] t = some (.bl false, t) := by
  have i : isinstD "tuple" (.tup ds) = some true := rfl
  have l : len1 [.tup ds] = some (nD ds.length) := rfl
  have n : ltD (nD ds.length) (.int 2) = some (.bl (decide (ds.length < 2))) := lt_nat _ 2
  rw [decide_eq_true h] at n
  generalize nD ds.length = LL at l n
  generalize D.tup ds = V at i l ⊢
  refine runFn_at (Z := td) (e1 := [.sh b, .sh V]) [.sh b, .sh V] rfl (scons_rt (Z := td) ?_)
  simp [mop, ev2, ev1, evA, getA, look, slotOk, mcst, mvar, asB, mlst, mtup, mcons, mnil, mfn, mfnL, evN, evAs, getAs, mite, band, bor, bnot, mand, mor, mnot, mcall, iseq, irange1, irange2, sset, ssetO, sret, sdrop, snil, sif, gset, mmut, isL1, ssub, spar, evOs, setSls, slOf, sasg, gtup, gcons, gnil, mslice, osome, onone, mopL, mlensetA, misinst, mmt, kindD, saug, byes, i, l, n]
theorem acc_order {b O M : D} {m r : Bool} (t : Td) (hm : f_is_mending [b, M] t = some (.bl m, t)) (hr : m = true → f_is_order [M, O] t = some (.bl r, t)) : f_accepts_ordered [b, .tup [.str "order", O, M]] t = some (.bl (m && r), t) := by
  obtain ⟨T, hT⟩ : ∃ T, T = D.tup [.str "order", O, M] := ⟨_, rfl⟩
  have v0 : idxD T (.int 0) = some (.str "order") := by rw [hT]; exact ix0 _ _
  have v1 : idxD T (.int 1) = some O := by rw [hT]; exact ix1 _ _ _
  have v2 : idxD T (.int 2) = some M := by rw [hT]; exact ix2 _ _ _ _
  have i : isinstD "tuple" T = some true := by rw [hT]; rfl
  have l : len1 [T] = some (nD 3) := by rw [hT]; rfl
  have n1 : ltD (nD 3) (.int 2) = some (.bl false) := rfl
  have n2 : eqD (nD 3) (.int 3) = some (.bl true) := rfl
  rw [← hT]
  obtain ⟨SL, hS, s1, k1⟩ : ∃ S : D, D.str "order" = S ∧ isinstD "str" S = some true ∧ eqD S (.str "order") = some (.bl true) := ⟨_, rfl, rfl, rfl⟩
  rw [hS] at v0
  generalize nD 3 = th at l n1 n2
  clear hT hS
  refine runFn_at (Z := td) (e1 := [.sh b, .sh T]) [.sh b, .sh T] rfl ?_
  unfold m_accepts_ordered
  obtain ⟨F1, hF1⟩ : ∃ z, z = f_is_mending := ⟨_, rfl⟩
  rw [← hF1] at hm ⊢
  clear hF1
  obtain ⟨F2, hF2⟩ : ∃ z, z = f_is_order := ⟨_, rfl⟩
  rw [← hF2] at hr ⊢
  clear hF2
  cases m with
  | false => simp [mop, ev2, ev1, evA, getA, look, slotOk, mcst, mvar, asB, mlst, mtup, mcons, mnil, mfn, mfnL, evN, evAs, getAs, mite, band, bor, bnot, mand, mor, mnot, mcall, iseq, irange1, irange2, sset, ssetO, sret, sdrop, snil, sif, gset, mmut, isL1, ssub, spar, evOs, setSls, slOf, sasg, gtup, gcons, gnil, mslice, osome, onone, mopL, mlensetA, misinst, mmt, kindD, saug, byes, scons, v0, v1, v2, i, l, n1, n2, s1, k1, hm]
  | true =>
    have hr := hr rfl
    simp [mop, ev2, ev1, evA, getA, look, slotOk, mcst, mvar, asB, mlst, mtup, mcons, mnil, mfn, mfnL, evN, evAs, getAs, mite, band, bor, bnot, mand, mor, mnot, mcall, iseq, irange1, irange2, sset, ssetO, sret, sdrop, snil, sif, gset, mmut, isL1, ssub, spar, evOs, setSls, slOf, sasg, gtup, gcons, gnil, mslice, osome, onone, mopL, mlensetA, misinst, mmt, kindD, saug, byes, scons, v0, v1, v2, i, l, n1, n2, s1, k1, hm, hr]
theorem acc_bar {b V : D} {r : Bool} (t : Td) (h : f_is_bar [b, V] t = some (.bl r, t)) : f_accepts_ordered [b, .tup [.str "bar", V]] t = some (.bl r, t) := by
  obtain ⟨T, hT⟩ : ∃ T, T = D.tup [.str "bar", V] := ⟨_, rfl⟩
  have v0 : idxD T (.int 0) = some (.str "bar") := by rw [hT]; exact ix0 _ _
  have v1 : idxD T (.int 1) = some V := by rw [hT]; exact ix1 _ _ _
  have i : isinstD "tuple" T = some true := by rw [hT]; rfl
  have l : len1 [T] = some (nD 2) := by rw [hT]; rfl
  have n1 : ltD (nD 2) (.int 2) = some (.bl false) := rfl
  have n2 : eqD (nD 2) (.int 2) = some (.bl true) := rfl
  rw [← hT]
  obtain ⟨SL, hS, s1, k1, k2⟩ : ∃ S : D, D.str "bar" = S ∧ isinstD "str" S = some true ∧ eqD S (.str "order") = some (.bl false) ∧ eqD S (.str "bar") = some (.bl true) := ⟨_, rfl, rfl, rfl, rfl⟩
  rw [hS] at v0
  generalize nD 2 = th at l n1 n2
  clear hT hS
  refine runFn_at (Z := td) (e1 := [.sh b, .sh T]) [.sh b, .sh T] rfl ?_
  unfold m_accepts_ordered
  obtain ⟨F1, hF1⟩ : ∃ z, z = f_is_bar := ⟨_, rfl⟩
  rw [← hF1] at h ⊢
  clear hF1
  simp [mop, ev2, ev1, evA, getA, look, slotOk, mcst, mvar, asB, mlst, mtup, mcons, mnil, mfn, mfnL, evN, evAs, getAs, mite, band, bor, bnot, mand, mor, mnot, mcall, iseq, irange1, irange2, sset, ssetO, sret, sdrop, snil, sif, gset, mmut, isL1, ssub, spar, evOs, setSls, slOf, sasg, gtup, gcons, gnil, mslice, osome, onone, mopL, mlensetA, misinst, mmt, kindD, saug, byes, scons, v0, v1, i, l, n1, n2, s1, k1, k2, h]
theorem acc_order2 {b O : D} (t : Td) : f_accepts_ordered [b, .tup [.str "order", O]] t = some (.bl false, t) := by
  obtain ⟨T, hT⟩ : ∃ T, T = D.tup [.str "order", O] := ⟨_, rfl⟩
  have v0 : idxD T (.int 0) = some (.str "order") := by rw [hT]; exact ix0 _ _
  have i : isinstD "tuple" T = some true := by rw [hT]; rfl
  have l : len1 [T] = some (nD 2) := by rw [hT]; rfl
  have n1 : ltD (nD 2) (.int 2) = some (.bl false) := rfl
  have n2 : eqD (nD 2) (.int 3) = some (.bl false) := rfl
  rw [← hT]
  obtain ⟨SL, hS, s1, k1, k2⟩ : ∃ S : D, D.str "order" = S ∧ isinstD "str" S = some true ∧ eqD S (.str "order") = some (.bl true) ∧ eqD S (.str "bar") = some (.bl false) := ⟨_, rfl, rfl, rfl, rfl⟩
  rw [hS] at v0
  generalize nD 2 = th at l n1 n2
  clear hT hS
  refine runFn_at (Z := td) (e1 := [.sh b, .sh T]) [.sh b, .sh T] rfl ?_
  unfold m_accepts_ordered
  simp [mop, ev2, ev1, evA, getA, look, slotOk, mcst, mvar, asB, mlst, mtup, mcons, mnil, mfn, mfnL, evN, evAs, getAs, mite, band, bor, bnot, mand, mor, mnot, mcall, iseq, irange1, irange2, sset, ssetO, sret, sdrop, snil, sif, gset, mmut, isL1, ssub, spar, evOs, setSls, slOf, sasg, gtup, gcons, gnil, mslice, osome, onone, mopL, mlensetA, misinst, mmt, kindD, saug, byes, scons, v0, i, l, n1, n2, s1, k1, k2]
theorem acc_bar3 {b O M : D} (t : Td) : f_accepts_ordered [b, .tup [.str "bar", O, M]] t = some (.bl false, t) := by
  obtain ⟨T, hT⟩ : ∃ T, T = D.tup [.str "bar", O, M] := ⟨_, rfl⟩
  have v0 : idxD T (.int 0) = some (.str "bar") := by rw [hT]; exact ix0 _ _
  have i : isinstD "tuple" T = some true := by rw [hT]; rfl
  have l : len1 [T] = some (nD 3) := by rw [hT]; rfl
  have n1 : ltD (nD 3) (.int 2) = some (.bl false) := rfl
  have n2 : eqD (nD 3) (.int 2) = some (.bl false) := rfl
  rw [← hT]
  obtain ⟨SL, hS, s1, k1, k2⟩ : ∃ S : D, D.str "bar" = S ∧ isinstD "str" S = some true ∧ eqD S (.str "order") = some (.bl false) ∧ eqD S (.str "bar") = some (.bl true) := ⟨_, rfl, rfl, rfl, rfl⟩
  rw [hS] at v0
  generalize nD 3 = th at l n1 n2
  clear hT hS
  refine runFn_at (Z := td) (e1 := [.sh b, .sh T]) [.sh b, .sh T] rfl ?_
  unfold m_accepts_ordered
  simp [mop, ev2, ev1, evA, getA, look, slotOk, mcst, mvar, asB, mlst, mtup, mcons, mnil, mfn, mfnL, evN, evAs, getAs, mite, band, bor, bnot, mand, mor, mnot, mcall, iseq, irange1, irange2, sset, ssetO, sret, sdrop, snil, sif, gset, mmut, isL1, ssub, spar, evOs, setSls, slOf, sasg, gtup, gcons, gnil, mslice, osome, onone, mopL, mlensetA, misinst, mmt, kindD, saug, byes, scons, v0, i, l, n1, n2, s1, k1, k2]
theorem acc_run {Q B : List Qu} {o : List Nat} (hQ : Q.length ≤ 8) (hB : Oks B) (hl : B.length ≤ 100) (ho : ∀ k ∈ o, k < B.length) (ho2 : o.length < 64) (t : Td) : f_accepts_ordered [qsD Q, .tup [.str "order", isD o, qsD B]] t = some (.bl (mendB Q B && ordB B o), t) :=
  acc_order t (mend_run (by omega) hB t) fun _ => order_run hB hl ho ho2 t
def oddOrds (O M : D) (o b : List D) : List D := [.non, .int 4, .tup [], .tup [.str "order"], .lst [.str "order", O, M], .tup [.str "order", O], .tup [.str "order", .lst o, M], .tup [.str "order", O, .lst b], .tup [.str "bar", O, M], .tup [.str "bar"]]
theorem odd_ord {Q B : List Qu} {o : List Nat} (hQ : Q.length ≤ 8) (hB : Oks B) (t : Td) : ∀ d ∈ oddOrds (isD o) (qsD B) (o.map nD) (B.map pD), f_accepts_ordered [qsD Q, d] t = some (.bl false, t) := by
  intro d hd
  simp only [oddOrds, List.mem_cons, List.not_mem_nil, or_false] at hd
  rcases hd with rfl | rfl | rfl | rfl | rfl | rfl | rfl | rfl | rfl | rfl
  · exact acc_no rfl (by simp) t
  · exact acc_no rfl (by simp) t
  · exact acc_short (by simp) t
  · exact acc_short (by simp) t
  · exact acc_no rfl (by simp) t
  · exact acc_order2 t
  · have := acc_order (b := qsD Q) (O := .lst (o.map nD)) (M := qsD B) (r := false) t (mend_run (by omega) hB t) fun _ => order_no rfl (by simp) t
    rw [this, Bool.and_false]
  · exact acc_order (r := true) t (mend_no rfl (by simp) t) (by simp)
  · exact acc_bar3 t
  · exact acc_short (by simp) t
/-! ### odd mendings -/
def oddMends (Q B : List Qu) (x : Str) : List D := [.non, .int 4, .lst (B.map pD), .tup ((B.take (Q.length - 1)).map pD), .tup ((B.take (Q.length - 1)).map pD ++ [.non]), .tup ((B.take (Q.length - 1)).map pD ++ [.tup [.str x]]), .tup ((B.take (Q.length - 1)).map pD ++ [.lst [.str x, .str ""]]), .tup ((B.take (Q.length - 1)).map pD ++ [.tup [.str x, .str "A"]])]
theorem odd_last {Q B : List Qu} {x : D} (h1 : 1 ≤ Q.length) (hQ : Q.length ≤ 8) (hB : Oks B) (hl : B.length = Q.length) (hx : x = .non ∨ (∃ a, x = .tup [a]) ∨ (∃ a b, x = .lst [a, b]) ∨ (x = .tup [.str (qk Q (Q.length - 1)).1, .str "A"])) (t : Td) : f_is_mending [qsD Q, .tup ((B.take (Q.length - 1)).map pD ++ [x])] t = some (.bl false, t) := by
  have e := mend_gen (Q := Q) (ds := (B.take (Q.length - 1)).map pD ++ [x]) (by simp; omega) (by omega) (fun k => if k < Q.length - 1 then mB (qk Q k) (qk B k) else false) (fun k hk => by
    by_cases h : k < Q.length - 1
    · rw [if_pos h]
      refine step_pair hk (b := qk B k) ?_ (hB _ (qk_mem (by omega)))
      rw [List.getElem?_append_left (by simp; omega), List.getElem?_map, List.getElem?_take, if_pos h, List.getElem?_eq_getElem (by omega), qk_eq (by omega)]; rfl
    · rw [if_neg h]
      have ek : k = Q.length - 1 := by omega
      refine step_bad hk (x := x) ?_ (by rw [ek]; exact hx)
      rw [List.getElem?_append_right (by simp; omega)]
      simp only [List.length_map, List.length_take]
      rw [show k - min (Q.length - 1) B.length = 0 by omega]; rfl) t
  rw [e]
  have : ((List.range Q.length).all fun k => if k < Q.length - 1 then mB (qk Q k) (qk B k) else false) = false := by
    rw [List.all_eq_false]
    refine ⟨Q.length - 1, by simp; omega, ?_⟩
    rw [if_neg (by omega)]; simp
  rw [this]
theorem odd_mend {Q B : List Qu} (h1 : 1 ≤ Q.length) (hQ : Q.length ≤ 8) (hB : Oks B) (hl : B.length = Q.length) (t : Td) : ∀ d ∈ oddMends Q B (qk Q (Q.length - 1)).1, f_is_mending [qsD Q, d] t = some (.bl false, t) := by
  intro d hd
  simp only [oddMends, List.mem_cons, List.not_mem_nil, or_false] at hd
  rcases hd with rfl | rfl | rfl | rfl | rfl | rfl | rfl | rfl
  · exact mend_no rfl (by simp) t
  · exact mend_no rfl (by simp) t
  · exact mend_no rfl (by simp) t
  · exact mend_len (by simp; omega) t
  · exact odd_last h1 hQ hB hl (.inl rfl) t
  · exact odd_last h1 hQ hB hl (.inr (.inl ⟨_, rfl⟩)) t
  · exact odd_last h1 hQ hB hl (.inr (.inr (.inl ⟨_, _, rfl⟩))) t
  · exact odd_last h1 hQ hB hl (.inr (.inr (.inr rfl))) t
end K91

namespace K91
open PySem L2 DL

def lostL (Q : List Qu) : List Nat := (List.range Q.length).filter fun k => decide ((qk Q k).2 = none)
abbrev lE (QQ K W : D) (s3 s4 s5 : Sl) : List Sl := [.sh QQ, .sh K, .sh W, s3, s4, s5, .no, .no, .no]
section
variable {Q : List Qu} {K W : D} {o : List Nat} {s3 s4 s5 : Sl} {t : Td}
theorem lb_c8 (hl : Q.length ≤ 100) : c__law_is_bar_8 (lE (qsD Q) K W s3 s4 s5) t = some (.lst ((endsL Q).map nD), lE (qsD Q) K W s3 s4 s5, t) := by
  unfold c__law_is_bar_8 endsL
  refine mlc_map (Z := td) (e1 := lE (qsD Q) K W s3 s4 s5) (t1 := t) nD (fun k => decide ((qk Q k).2 = some ("" : Str))) nD (List.range Q.length) (range_src hl rfl t) rfl (by rw [List.length_range]; omega) fun k hk => ⟨[.sh (qsD Q), .sh K, .sh W, s3, s4, s5, .sh (nD k), .no, .no], rfl, rfl, ?_, fun _ => ⟨[.sh (qsD Q), .sh K, .sh W, s3, s4, s5, .sh (nD k), .no, .no], rfl, rfl⟩⟩
  have a1 := q_ix (List.mem_range.mp hk)
  have a2 := p1 (qk Q k)
  have e : eqD (oS (qk Q k).2) (.str "") = some (.bl (decide ((qk Q k).2 = some ("" : Str)))) := eq_oS _ (some "")
  generalize decide ((qk Q k).2 = some ("" : Str)) = B at e ⊢
  generalize oS (qk Q k).2 = O at a2 e
  generalize pD (qk Q k) = P at a1 a2
  generalize nD k = KK at a1 ⊢
  generalize qsD Q = QQ at a1 ⊢
  unfold ct__law_is_bar_5
  simp [mop, ev2, ev1, evA, getA, look, slotOk, mcst, mvar, asB, mlst, mtup, mcons, mnil, mfn, mfnL, evN, evAs, getAs, mite, band, bor, bnot, mand, mor, mnot, mcall, iseq, irange1, irange2, sset, ssetO, sret, sdrop, snil, sif, gset, mmut, isL1, ssub, spar, evOs, setSls, slOf, sasg, gtup, gcons, gnil, mslice, osome, onone, mopL, mlensetA, misinst, mmt, kindD, saug, byes, a1, a2, e]
theorem lb_c7 (hl : Q.length ≤ 100) : c__law_is_bar_7 (lE (qsD Q) K W s3 s4 s5) t = some (.lst ((lostL Q).map nD), lE (qsD Q) K W s3 s4 s5, t) := by
  unfold c__law_is_bar_7 lostL
  refine mlc_map (Z := td) (e1 := lE (qsD Q) K W s3 s4 s5) (t1 := t) nD (fun k => decide ((qk Q k).2 = none)) nD (List.range Q.length) (range_src hl rfl t) rfl (by rw [List.length_range]; omega) fun k hk => ⟨[.sh (qsD Q), .sh K, .sh W, s3, s4, s5, .sh (nD k), .no, .no], rfl, rfl, ?_, fun _ => ⟨[.sh (qsD Q), .sh K, .sh W, s3, s4, s5, .sh (nD k), .no, .no], rfl, rfl⟩⟩
  have a1 := q_ix (List.mem_range.mp hk)
  have a2 := p1 (qk Q k)
  have e := isN_oS (qk Q k).2
  generalize decide ((qk Q k).2 = none) = B at e ⊢
  generalize oS (qk Q k).2 = O at a2 e
  generalize pD (qk Q k) = P at a1 a2
  generalize nD k = KK at a1 ⊢
  generalize qsD Q = QQ at a1 ⊢
  unfold ct__law_is_bar_4
  simp [mop, ev2, ev1, evA, getA, look, slotOk, mcst, mvar, asB, mlst, mtup, mcons, mnil, mfn, mfnL, evN, evAs, getAs, mite, band, bor, bnot, mand, mor, mnot, mcall, iseq, irange1, irange2, sset, ssetO, sret, sdrop, snil, sif, gset, mmut, isL1, ssub, spar, evOs, setSls, slOf, sasg, gtup, gcons, gnil, mslice, osome, onone, mopL, mlensetA, misinst, mmt, kindD, saug, byes, a1, a2, e]
theorem lb_c5 {w : Str} (hl : Q.length ≤ 100) : c__law_is_bar_5 (lE (qsD Q) K (.str w) s3 s4 s5) t = some (.lst ((Q.filter fun q => decide (q.2 = some w)).map fun _ => .int 1), lE (qsD Q) K (.str w) s3 s4 s5, t) := by
  unfold c__law_is_bar_5
  refine mlc_map (Z := td) (e1 := lE (qsD Q) K (.str w) s3 s4 s5) (t1 := t) pD (fun q => decide (q.2 = some w)) (fun _ => D.int 1) Q ?_ rfl (by omega) fun q hq => ⟨[.sh (qsD Q), .sh K, .sh (.str w), s3, s4, s5, .no, .sh (pD q), .no], rfl, rfl, ?_, fun _ => ⟨[.sh (qsD Q), .sh K, .sh (.str w), s3, s4, s5, .no, .sh (pD q), .no], rfl, rfl⟩⟩
  · unfold qsD
    simp [mop, ev2, ev1, evA, getA, look, slotOk, mcst, mvar, asB, mlst, mtup, mcons, mnil, mfn, mfnL, evN, evAs, getAs, mite, band, bor, bnot, mand, mor, mnot, mcall, iseq, irange1, irange2, sset, ssetO, sret, sdrop, snil, sif, gset, mmut, isL1, ssub, spar, evOs, setSls, slOf, sasg, gtup, gcons, gnil, mslice, osome, onone, mopL, mlensetA, misinst, mmt, kindD, saug, byes]
  · have a2 := p1 q
    have e : eqD (oS q.2) (.str w) = some (.bl (decide (q.2 = some w))) := eq_oS q.2 (some w)
    generalize decide (q.2 = some w) = B at e ⊢
    generalize oS q.2 = O at a2 e
    generalize pD q = P at a2 ⊢
    generalize qsD Q = QQ
    generalize D.str w = WW at e ⊢
    unfold ct__law_is_bar_2
    simp [mop, ev2, ev1, evA, getA, look, slotOk, mcst, mvar, asB, mlst, mtup, mcons, mnil, mfn, mfnL, evN, evAs, getAs, mite, band, bor, bnot, mand, mor, mnot, mcall, iseq, irange1, irange2, sset, ssetO, sret, sdrop, snil, sif, gset, mmut, isL1, ssub, spar, evOs, setSls, slOf, sasg, gtup, gcons, gnil, mslice, osome, onone, mopL, mlensetA, misinst, mmt, kindD, saug, byes, a2, e]
theorem lb_c6 {w : Str} (hl : Q.length ≤ 100) : c__law_is_bar_6 (lE (qsD Q) K (.str w) s3 s4 s5) t = some (.lst ((Q.filter fun q => decide (q.1 = w)).map fun _ => .int 1), lE (qsD Q) K (.str w) s3 s4 s5, t) := by
  unfold c__law_is_bar_6
  refine mlc_map (Z := td) (e1 := lE (qsD Q) K (.str w) s3 s4 s5) (t1 := t) pD (fun q => decide (q.1 = w)) (fun _ => D.int 1) Q ?_ rfl (by omega) fun q hq => ⟨[.sh (qsD Q), .sh K, .sh (.str w), s3, s4, s5, .no, .sh (pD q), .no], rfl, rfl, ?_, fun _ => ⟨[.sh (qsD Q), .sh K, .sh (.str w), s3, s4, s5, .no, .sh (pD q), .no], rfl, rfl⟩⟩
  · unfold qsD
    simp [mop, ev2, ev1, evA, getA, look, slotOk, mcst, mvar, asB, mlst, mtup, mcons, mnil, mfn, mfnL, evN, evAs, getAs, mite, band, bor, bnot, mand, mor, mnot, mcall, iseq, irange1, irange2, sset, ssetO, sret, sdrop, snil, sif, gset, mmut, isL1, ssub, spar, evOs, setSls, slOf, sasg, gtup, gcons, gnil, mslice, osome, onone, mopL, mlensetA, misinst, mmt, kindD, saug, byes]
  · have a2 := p0 q
    have e : eqD (.str q.1) (.str w) = some (.bl (decide (q.1 = w))) := eq_str q.1 w
    generalize decide (q.1 = w) = B at e ⊢
    generalize D.str q.1 = O at a2 e
    generalize pD q = P at a2 ⊢
    generalize qsD Q = QQ
    generalize D.str w = WW at e ⊢
    unfold ct__law_is_bar_3
    simp [mop, ev2, ev1, evA, getA, look, slotOk, mcst, mvar, asB, mlst, mtup, mcons, mnil, mfn, mfnL, evN, evAs, getAs, mite, band, bor, bnot, mand, mor, mnot, mcall, iseq, irange1, irange2, sset, ssetO, sret, sdrop, snil, sif, gset, mmut, isL1, ssub, spar, evOs, setSls, slOf, sasg, gtup, gcons, gnil, mslice, osome, onone, mopL, mlensetA, misinst, mmt, kindD, saug, byes, a2, e]
def inB (Q : List Qu) (k : Nat) : Bool := !decide (k ∈ endsL Q) && !decide (k ∈ lostL Q)
theorem lb_c4 (ho : ∀ k ∈ o, k < Q.length) (hl : o.length ≤ 100) : c__law_is_bar_4 (lE (qsD Q) K (isD o) (.sh (isD (endsL Q))) (.sh (.lst ((lostL Q).map nD))) s5) t = some (.lst ((o.map (inB Q)).map .bl), lE (qsD Q) K (isD o) (.sh (isD (endsL Q))) (.sh (.lst ((lostL Q).map nD))) s5, t) := by
  unfold c__law_is_bar_4
  rw [List.map_map]
  refine mlc_all (Z := td) (e1 := lE (qsD Q) K (isD o) (.sh (isD (endsL Q))) (.sh (.lst ((lostL Q).map nD))) s5) (t1 := t) nD (D.bl ∘ inB Q) o ?_ rfl (by omega) fun k hk => ⟨[.sh (qsD Q), .sh K, .sh (isD o), .sh (isD (endsL Q)), .sh (.lst ((lostL Q).map nD)), s5, .sh (nD k), .no, .no], rfl, rfl, [.sh (qsD Q), .sh K, .sh (isD o), .sh (isD (endsL Q)), .sh (.lst ((lostL Q).map nD)), s5, .sh (nD k), .no, .no], ?_, rfl⟩
  · unfold isD
    generalize qsD Q = QQ
    generalize (lostL Q).map nD = L
    generalize (endsL Q).map nD = E
    simp [mop, ev2, ev1, evA, getA, look, slotOk, mcst, mvar, asB, mlst, mtup, mcons, mnil, mfn, mfnL, evN, evAs, getAs, mite, band, bor, bnot, mand, mor, mnot, mcall, iseq, irange1, irange2, sset, ssetO, sret, sdrop, snil, sif, gset, mmut, isL1, ssub, spar, evOs, setSls, slOf, sasg, gtup, gcons, gnil, mslice, osome, onone, mopL, mlensetA, misinst, mmt, kindD, saug, byes]
  · have l := q_len Q
    have l1 : leD (.int 0) (nD k) = some (.bl true) := by
      show some (D.bl (decide ((0 : Int) ≤ (k : Int)))) = _
      rw [decide_eq_true (by omega)]
    have l2 := lt_nat k Q.length
    rw [decide_eq_true (ho k hk)] at l2
    have n1 := notin_nat k (endsL Q)
    have n2 := notin_natL k (lostL Q)
    show ce__law_is_bar_4 _ t = some (.bl (inB Q k), _, t)
    unfold inB
    generalize (!decide (k ∈ endsL Q)) = B1 at n1 ⊢
    generalize (!decide (k ∈ lostL Q)) = B2 at n2 ⊢
    generalize D.lst ((lostL Q).map nD) = L at n2 ⊢
    generalize isD (endsL Q) = E at n1 ⊢
    generalize nD Q.length = LL at l l2
    generalize nD k = KK at l1 l2 n1 n2 ⊢
    generalize qsD Q = QQ at l ⊢
    generalize isD o = O
    unfold ce__law_is_bar_4
    cases B1 <;> simp [mop, ev2, ev1, evA, getA, look, slotOk, mcst, mvar, asB, mlst, mtup, mcons, mnil, mfn, mfnL, evN, evAs, getAs, mite, band, bor, bnot, mand, mor, mnot, mcall, iseq, irange1, irange2, sset, ssetO, sret, sdrop, snil, sif, gset, mmut, isL1, ssub, spar, evOs, setSls, slOf, sasg, gtup, gcons, gnil, mslice, osome, onone, mopL, mlensetA, misinst, mmt, kindD, saug, byes, mchain, l, l1, l2, n1, n2]
theorem lb_c3 (hl : Q.length ≤ 100) : c__law_is_bar_3 (lE (qsD Q) K (isD o) s3 s4 s5) t = some (.lst ((partB Q o).map pD), lE (qsD Q) K (isD o) s3 s4 s5, t) := by
  unfold c__law_is_bar_3 partB
  rw [List.map_map]
  refine mlc_map (Z := td) (e1 := lE (qsD Q) K (isD o) s3 s4 s5) (t1 := t) nD (fun k => !decide (k ∈ o)) (pD ∘ qk Q) (List.range Q.length) (range_src hl rfl t) rfl (by rw [List.length_range]; omega) fun k hk => ⟨[.sh (qsD Q), .sh K, .sh (isD o), s3, s4, s5, .sh (nD k), .no, .no], rfl, rfl, ?_, fun _ => ⟨[.sh (qsD Q), .sh K, .sh (isD o), s3, s4, s5, .sh (nD k), .no, .no], ?_, rfl⟩⟩
  · have n := notin_nat k o
    generalize (!decide (k ∈ o)) = B at n ⊢
    generalize isD o = O at n ⊢
    generalize nD k = KK at n ⊢
    generalize qsD Q = QQ
    unfold ct__law_is_bar_1
    simp [mop, ev2, ev1, evA, getA, look, slotOk, mcst, mvar, asB, mlst, mtup, mcons, mnil, mfn, mfnL, evN, evAs, getAs, mite, band, bor, bnot, mand, mor, mnot, mcall, iseq, irange1, irange2, sset, ssetO, sret, sdrop, snil, sif, gset, mmut, isL1, ssub, spar, evOs, setSls, slOf, sasg, gtup, gcons, gnil, mslice, osome, onone, mopL, mlensetA, misinst, mmt, kindD, saug, byes, n]
  · have a1 := q_ix (List.mem_range.mp hk)
    show ce__law_is_bar_3 _ t = some (pD (qk Q k), _, t)
    generalize pD (qk Q k) = P at a1 ⊢
    generalize nD k = KK at a1 ⊢
    generalize qsD Q = QQ at a1 ⊢
    generalize isD o = O
    unfold ce__law_is_bar_3
    simp [mop, ev2, ev1, evA, getA, look, slotOk, mcst, mvar, asB, mlst, mtup, mcons, mnil, mfn, mfnL, evN, evAs, getAs, mite, band, bor, bnot, mand, mor, mnot, mcall, iseq, irange1, irange2, sset, ssetO, sret, sdrop, snil, sif, gset, mmut, isL1, ssub, spar, evOs, setSls, slOf, sasg, gtup, gcons, gnil, mslice, osome, onone, mopL, mlensetA, misinst, mmt, kindD, saug, byes, a1]
theorem lb_c1 (ho : ∀ k ∈ o, k < Q.length) (hl : o.length ≤ 100) : c__law_is_bar_1 (lE (qsD Q) K (isD o) s3 s4 s5) t = some (.lst ((partA Q o).map pD), lE (qsD Q) K (isD o) s3 s4 s5, t) := by
  unfold c__law_is_bar_1 partA
  rw [List.map_map]
  refine mlc_all (Z := td) (e1 := lE (qsD Q) K (isD o) s3 s4 s5) (t1 := t) nD (pD ∘ qk Q) o ?_ rfl (by omega) fun k hk => ⟨[.sh (qsD Q), .sh K, .sh (isD o), s3, s4, s5, .sh (nD k), .no, .no], rfl, rfl, [.sh (qsD Q), .sh K, .sh (isD o), s3, s4, s5, .sh (nD k), .no, .no], ?_, rfl⟩
  · unfold isD
    generalize qsD Q = QQ
    simp [mop, ev2, ev1, evA, getA, look, slotOk, mcst, mvar, asB, mlst, mtup, mcons, mnil, mfn, mfnL, evN, evAs, getAs, mite, band, bor, bnot, mand, mor, mnot, mcall, iseq, irange1, irange2, sset, ssetO, sret, sdrop, snil, sif, gset, mmut, isL1, ssub, spar, evOs, setSls, slOf, sasg, gtup, gcons, gnil, mslice, osome, onone, mopL, mlensetA, misinst, mmt, kindD, saug, byes]
  · have a1 := q_ix (ho k hk)
    show ce__law_is_bar_1 _ t = some (pD (qk Q k), _, t)
    generalize pD (qk Q k) = P at a1 ⊢
    generalize nD k = KK at a1 ⊢
    generalize qsD Q = QQ at a1 ⊢
    generalize isD o = O
    unfold ce__law_is_bar_1
    simp [mop, ev2, ev1, evA, getA, look, slotOk, mcst, mvar, asB, mlst, mtup, mcons, mnil, mfn, mfnL, evN, evAs, getAs, mite, band, bor, bnot, mand, mor, mnot, mcall, iseq, irange1, irange2, sset, ssetO, sret, sdrop, snil, sif, gset, mmut, isL1, ssub, spar, evOs, setSls, slOf, sasg, gtup, gcons, gnil, mslice, osome, onone, mopL, mlensetA, misinst, mmt, kindD, saug, byes, a1]
theorem lb_c2 {A B : List Str} (ho : ∀ k ∈ o, k < Q.length) (hl : o.length ≤ 100) (hw : f__law_told_words [.lst ((partA Q o).map pD)] t = some (.lst (A.map .str), t)) (hA : OkW A) (hB : OkW B) (hz : A.length ≤ 1000) : c__law_is_bar_2 (lE (qsD Q) K (isD o) s3 s4 (.sh (.lst (B.map .str)))) t = some (.lst ((A.map fun x => !decide (x ∈ B)).map .bl), lE (qsD Q) K (isD o) s3 s4 (.sh (.lst (B.map .str))), t) := by
  unfold c__law_is_bar_2
  rw [List.map_map]
  refine mlc_all (Z := td) (e1 := lE (qsD Q) K (isD o) s3 s4 (.sh (.lst (B.map .str)))) (t1 := t) D.str (D.bl ∘ fun x => !decide (x ∈ B)) A ?_ rfl (by omega) fun x hx => ⟨[.sh (qsD Q), .sh K, .sh (isD o), s3, s4, .sh (.lst (B.map .str)), .no, .no, .sh (.str x)], rfl, rfl, [.sh (qsD Q), .sh K, .sh (isD o), s3, s4, .sh (.lst (B.map .str)), .no, .no, .sh (.str x)], ?_, rfl⟩
  · have c := lb_c1 (K := K) (s3 := s3) (s4 := s4) (s5 := .sh (.lst (B.map .str))) (t := t) ho hl
    generalize D.lst ((partA Q o).map pD) = PA at hw c
    generalize A.map D.str = AA at hw ⊢
    generalize D.lst (B.map D.str) = BB at c ⊢
    generalize isD o = O at c ⊢
    generalize qsD Q = QQ at c ⊢
    obtain ⟨C, hC⟩ : ∃ z, z = c__law_is_bar_1 := ⟨_, rfl⟩
    rw [← hC] at c ⊢
    clear hC
    obtain ⟨F, hF⟩ : ∃ z, z = f__law_told_words := ⟨_, rfl⟩
    rw [← hF] at hw ⊢
    clear hF
    simp [mop, ev2, ev1, evA, getA, look, slotOk, mcst, mvar, asB, mlst, mtup, mcons, mnil, mfn, mfnL, evN, evAs, getAs, mite, band, bor, bnot, mand, mor, mnot, mcall, iseq, irange1, irange2, sset, ssetO, sret, sdrop, snil, sif, gset, mmut, isL1, ssub, spar, evOs, setSls, slOf, sasg, gtup, gcons, gnil, mslice, osome, onone, mopL, mlensetA, misinst, mmt, kindD, saug, byes, c, hw]
  · have n := notin_str (hA x hx) hB
    show ce__law_is_bar_2 _ t = some (.bl (!decide (x ∈ B)), _, t)
    generalize (!decide (x ∈ B)) = Z at n ⊢
    generalize D.str x = X at n ⊢
    generalize D.lst (B.map D.str) = BB at n ⊢
    generalize isD o = O
    generalize qsD Q = QQ
    unfold ce__law_is_bar_2
    simp [mop, ev2, ev1, evA, getA, look, slotOk, mcst, mvar, asB, mlst, mtup, mcons, mnil, mfn, mfnL, evN, evAs, getAs, mite, band, bor, bnot, mand, mor, mnot, mcall, iseq, irange1, irange2, sset, ssetO, sret, sdrop, snil, sif, gset, mmut, isL1, ssub, spar, evOs, setSls, slOf, sasg, gtup, gcons, gnil, mslice, osome, onone, mopL, mlensetA, misinst, mmt, kindD, saug, byes, n]
end
def srtB (o : List Nat) : Bool := decide (natI o = sortI (dedI (natI o)))
def lawLotB (Q : List Qu) (o : List Nat) : Bool := srtB o && (!(decide (o.length = 0) || decide (o.length = Q.length)) && (o.all (inB Q) && disjB (tw (partA Q o)) (tw (partB Q o))))
def lawEndsB (Q : List Qu) (o : List Nat) : Bool := decide (o = endsL Q) && (decide (1 < (endsL Q).length) || (decide (endsL Q = []) && decide (lostL Q = [])))
def lawWordB (Q : List Qu) (w : Str) : Bool := decide ((Q.filter fun q => decide (q.1 = w)).length < (Q.filter fun q => decide (q.2 = some w)).length)
theorem law_bar_start {Q : List Qu} {K W : D} (hl : Q.length ≤ 100) (t : Td) (x : SM td) : scons (sset 3 (mfn tuple1 [(.e c__law_is_bar_8)])) (scons (sset 4 c__law_is_bar_7) x) (lE (qsD Q) K W .no .no .no) t = x (lE (qsD Q) K W (.sh (isD (endsL Q))) (.sh (.lst ((lostL Q).map nD))) .no) t := by
  have c8 := lb_c8 (K := K) (W := W) (s3 := .no) (s4 := .no) (s5 := .no) (t := t) hl
  have c7 := lb_c7 (K := K) (W := W) (s3 := .sh (isD (endsL Q))) (s4 := .no) (s5 := .no) (t := t) hl
  have tu : tuple1 [.lst ((endsL Q).map nD)] = some (isD (endsL Q)) := rfl
  generalize D.lst ((endsL Q).map nD) = L8 at c8 tu
  generalize D.lst ((lostL Q).map nD) = L7 at c7 ⊢
  generalize isD (endsL Q) = E at tu c7 ⊢
  generalize qsD Q = QQ at c8 c7 ⊢
  obtain ⟨C8, hC8⟩ : ∃ z, z = c__law_is_bar_8 := ⟨_, rfl⟩
  rw [← hC8] at c8 ⊢
  clear hC8
  obtain ⟨C7, hC7⟩ : ∃ z, z = c__law_is_bar_7 := ⟨_, rfl⟩
  rw [← hC7] at c7 ⊢
  clear hC7
  unfold lE at *
  simp [mop, ev2, ev1, evA, getA, look, slotOk, mcst, mvar, asB, mlst, mtup, mcons, mnil, mfn, mfnL, evN, evAs, getAs, mite, band, bor, bnot, mand, mor, mnot, mcall, iseq, irange1, irange2, sset, ssetO, sret, sdrop, snil, sif, gset, mmut, isL1, ssub, spar, evOs, setSls, slOf, sasg, gtup, gcons, gnil, mslice, osome, onone, mopL, mlensetA, misinst, mmt, kindD, saug, byes, scons, c8, c7, tu]
theorem eq_lst0 (a : List Nat) : eqD (.lst (a.map nD)) (.lst []) = some (.bl (decide (a = []))) := by
  have o : okD 30 (.lst (a.map nD)) = true := by
    have := ok_nats a
    simp [okD]
  have o2 : okD 30 (.lst []) = true := rfl
  simp only [eqD, o, o2, Bool.and_self, Bool.or_true, if_true, eqvD]
  cases a <;> simp [eqvL]
theorem law_ends_run {Q : List Qu} {o : List Nat} (hl : Q.length ≤ 100) (t : Td) : f__law_is_bar [qsD Q, .str "ends", isD o] t = some (.bl (lawEndsB Q o), t) := by
  obtain ⟨SL, hS, k1⟩ : ∃ S : D, D.str "ends" = S ∧ eqD S (.str "ends") = some (.bl true) := ⟨_, rfl, rfl⟩
  rw [hS]
  refine runFn_at (Z := td) (e1 := lE (qsD Q) SL (isD o) (.sh (isD (endsL Q))) (.sh (.lst ((lostL Q).map nD))) .no) (lE (qsD Q) SL (isD o) .no .no .no) rfl ?_
  unfold m__law_is_bar
  rw [law_bar_start hl]
  have e1 := eq_isD o (endsL Q)
  have l := o_len (endsL Q)
  have g : gtD (nD (endsL Q).length) (.int 1) = some (.bl (decide (1 < (endsL Q).length))) := gt_nat _ 1
  have e2 : eqD (isD (endsL Q)) (.tup []) = some (.bl (decide (endsL Q = []))) := eq_isD _ []
  have e3 := eq_lst0 (lostL Q)
  unfold lawEndsB
  generalize decide (o = endsL Q) = Z1 at e1 ⊢
  generalize decide (1 < (endsL Q).length) = Z2 at g ⊢
  generalize decide (endsL Q = []) = Z3 at e2 ⊢
  generalize decide (lostL Q = []) = Z4 at e3 ⊢
  generalize D.lst ((lostL Q).map nD) = L at e3 ⊢
  generalize nD (endsL Q).length = LL at l g
  generalize isD (endsL Q) = E at e1 e2 l ⊢
  generalize isD o = O at e1 ⊢
  generalize qsD Q = QQ
  clear hS
  unfold lE
  cases Z1 <;> cases Z2 <;> cases Z3 <;> simp [mop, ev2, ev1, evA, getA, look, slotOk, mcst, mvar, asB, mlst, mtup, mcons, mnil, mfn, mfnL, evN, evAs, getAs, mite, band, bor, bnot, mand, mor, mnot, mcall, iseq, irange1, irange2, sset, ssetO, sret, sdrop, snil, sif, gset, mmut, isL1, ssub, spar, evOs, setSls, slOf, sasg, gtup, gcons, gnil, mslice, osome, onone, mopL, mlensetA, misinst, mmt, kindD, saug, byes, scons, k1, e1, l, g, e2, e3]
theorem law_word_run {Q : List Qu} {w : Str} (hw : w ≠ "") (hl : Q.length ≤ 100) (t : Td) : f__law_is_bar [qsD Q, .str "word", .str w] t = some (.bl (lawWordB Q w), t) := by
  obtain ⟨SL, hS, k1, k2⟩ : ∃ S : D, D.str "word" = S ∧ eqD S (.str "ends") = some (.bl false) ∧ eqD S (.str "word") = some (.bl true) := ⟨_, rfl, rfl, rfl⟩
  rw [hS]
  refine runFn_at (Z := td) (e1 := lE (qsD Q) SL (.str w) (.sh (isD (endsL Q))) (.sh (.lst ((lostL Q).map nD))) .no) (lE (qsD Q) SL (.str w) .no .no .no) rfl ?_
  unfold m__law_is_bar
  rw [law_bar_start hl]
  have i := is_str w
  have n := ne_str w ""
  rw [decide_eq_false hw] at n
  have c5 : ∀ s3 s4 s5, _ := fun s3 s4 s5 => lb_c5 (Q := Q) (K := SL) (s3 := s3) (s4 := s4) (s5 := s5) (t := t) (w := w) hl
  have c6 : ∀ s3 s4 s5, _ := fun s3 s4 s5 => lb_c6 (Q := Q) (K := SL) (s3 := s3) (s4 := s4) (s5 := s5) (t := t) (w := w) hl
  have l5 : len1 [.lst ((Q.filter fun q => decide (q.2 = some w)).map fun _ => .int 1)] = some (nD (Q.filter fun q => decide (q.2 = some w)).length) := by simp [len1]
  have l6 : len1 [.lst ((Q.filter fun q => decide (q.1 = w)).map fun _ => .int 1)] = some (nD (Q.filter fun q => decide (q.1 = w)).length) := by simp [len1]
  have g := gt_nat (Q.filter fun q => decide (q.2 = some w)).length (Q.filter fun q => decide (q.1 = w)).length
  unfold lawWordB
  generalize decide ((Q.filter fun q => decide (q.1 = w)).length < (Q.filter fun q => decide (q.2 = some w)).length) = Z1 at g ⊢
  generalize D.lst ((Q.filter fun q => decide (q.2 = some w)).map fun _ => .int 1) = L5 at c5 l5
  generalize D.lst ((Q.filter fun q => decide (q.1 = w)).map fun _ => .int 1) = L6 at c6 l6
  generalize nD (Q.filter fun q => decide (q.2 = some w)).length = N5 at l5 g
  generalize nD (Q.filter fun q => decide (q.1 = w)).length = N6 at l6 g
  generalize D.lst ((lostL Q).map nD) = L
  generalize isD (endsL Q) = E
  generalize D.str w = WW at i n c5 c6 ⊢
  generalize qsD Q = QQ at c5 c6 ⊢
  clear hS
  unfold lE at *
  obtain ⟨C5, hC5⟩ : ∃ z, z = c__law_is_bar_5 := ⟨_, rfl⟩
  rw [← hC5] at c5 ⊢
  clear hC5
  obtain ⟨C6, hC6⟩ : ∃ z, z = c__law_is_bar_6 := ⟨_, rfl⟩
  rw [← hC6] at c6 ⊢
  clear hC6
  simp [mop, ev2, ev1, evA, getA, look, slotOk, mcst, mvar, asB, mlst, mtup, mcons, mnil, mfn, mfnL, evN, evAs, getAs, mite, band, bor, bnot, mand, mor, mnot, mcall, iseq, irange1, irange2, sset, ssetO, sret, sdrop, snil, sif, gset, mmut, isL1, ssub, spar, evOs, setSls, slOf, sasg, gtup, gcons, gnil, mslice, osome, onone, mopL, mlensetA, misinst, mmt, kindD, saug, byes, scons, k1, k2, i, n, c5, c6, l5, l6, g]
theorem in_two (a n : Nat) : inD (nD a) (.tup [.int 0, nD n]) = some (.bl (decide (a = 0) || decide (a = n))) := by
  have o : okD 30 (nD a) = true := rfl
  have o2 : ([D.int 0, nD n]).all (okD 30) = true := rfl
  simp only [inD, seqD, o, o2, Bool.and_self, if_true]
  have : memD (nD a) ([0, n].map nD) = decide (a ∈ [0, n]) := mem_nat a [0, n]
  rw [show ([D.int 0, nD n] : List D) = [0, n].map nD from rfl, this]
  congr 2
  simp
theorem law_lot_run {Q : List Qu} {o : List Nat} (hQ : Oks Q) (hl : Q.length ≤ 8) (ho : ∀ k ∈ o, k < Q.length) (ho2 : o.length ≤ 8) (t : Td) : f__law_is_bar [qsD Q, .str "lot", isD o] t = some (.bl (lawLotB Q o), t) := by
  obtain ⟨SL, hS, k1, k2, k3⟩ : ∃ S : D, D.str "lot" = S ∧ eqD S (.str "ends") = some (.bl false) ∧ eqD S (.str "word") = some (.bl false) ∧ neD S (.str "lot") = some (.bl false) := ⟨_, rfl, rfl, rfl, rfl⟩
  rw [hS]
  have i : isinstD "tuple" (isD o) = some true := rfl
  have li : list1 [isD o] = some (o.map nD) := rfl
  have so : ∀ e : List Sl, e[2]? = some (.sh (isD o)) → msortT (Z := td) (.v 2) e t = some (.lst ((sortI (dedI (natI o))).map .int), e, t) := by
    intro e he
    have h64 : (natI o).length < 64 := by unfold natI; rw [List.length_map]; omega
    have e1 := isD_natI o
    have e2 := intsD_map (natI o)
    generalize natI o = N at e1 e2 h64
    rw [e1] at he
    unfold msortT
    simp [mop, ev2, ev1, evA, getA, look, slotOk, mcst, mvar, asB, mlst, mtup, mcons, mnil, mfn, mfnL, evN, evAs, getAs, mite, band, bor, bnot, mand, mor, mnot, mcall, iseq, irange1, irange2, sset, ssetO, sret, sdrop, snil, sif, gset, mmut, isL1, ssub, spar, evOs, setSls, slOf, sasg, gtup, gcons, gnil, mslice, osome, onone, mopL, mlensetA, misinst, mmt, kindD, saug, byes, he, e2, h64]
  have ne : neD (.lst (o.map nD)) (.lst ((sortI (dedI (natI o))).map .int)) = some (.bl (!srtB o)) := by
    have e1 : o.map nD = (natI o).map .int := by unfold natI; rw [List.map_map]; rfl
    rw [e1]
    simp only [neD, (ok_ints _).1, Bool.and_self, Bool.or_true, if_true, eqvD, eqvL_ints]
    rfl
  have lo := o_len o
  have lQ := q_len Q
  have i2 := in_two o.length Q.length
  have c4 := lb_c4 (K := SL) (s5 := .no) (t := t) ho (by omega)
  have a4 : all1 [.lst ((o.map (inB Q)).map .bl)] = some (.bl (o.all (inB Q))) := by
    rw [all1_bls, List.all_map]; rfl
  have c3 : ∀ s3 s4 s5, _ := fun s3 s4 s5 => lb_c3 (Q := Q) (o := o) (K := SL) (s3 := s3) (s4 := s4) (s5 := s5) (t := t) (by omega)
  have la : (partA Q o).length ≤ 31 := by unfold partA; rw [List.length_map]; omega
  have lb : (partB Q o).length ≤ 31 := by
    unfold partB
    rw [List.length_map]
    exact Nat.le_trans (List.length_filter_le _ _) (by rw [List.length_range]; omega)
  have oA : Oks (partA Q o) := fun q hq => by
    obtain ⟨k, hk, rfl⟩ := List.mem_map.mp hq
    exact hQ _ (qk_mem (ho k hk))
  have oB : Oks (partB Q o) := fun q hq => by
    obtain ⟨k, hk, rfl⟩ := List.mem_map.mp hq
    exact hQ _ (qk_mem (List.mem_range.mp (List.mem_filter.mp hk).1))
  have wa := law_words_run oA (by omega) t
  have wb := law_words_run oB (by omega) t
  have lw : (tw (partA Q o)).length ≤ 1000 := by
    have := tw_len (partA Q o)
    omega
  have c2 := lb_c2 (K := SL) (s3 := .sh (isD (endsL Q))) (s4 := .sh (.lst ((lostL Q).map nD))) (t := t) ho (by omega) wa (tw_ok oA) (tw_ok oB) lw
  have a2 : all1 [.lst (((tw (partA Q o)).map fun x => !decide (x ∈ tw (partB Q o))).map .bl)] = some (.bl (disjB (tw (partA Q o)) (tw (partB Q o)))) := by
    rw [all1_bls, List.all_map]; rfl
  have st := law_bar_start (Q := Q) (K := SL) (W := isD o) (by omega) t
  unfold lawLotB
  clear wa lw la lb oA oB ho ho2 hl hQ hS
  refine runFn_at (Z := td) (e1 := if srtB o && !(decide (o.length = 0) || decide (o.length = Q.length)) && o.all (inB Q) then lE (qsD Q) SL (isD o) (.sh (isD (endsL Q))) (.sh (.lst ((lostL Q).map nD))) (.sh (.lst ((tw (partB Q o)).map .str))) else lE (qsD Q) SL (isD o) (.sh (isD (endsL Q))) (.sh (.lst ((lostL Q).map nD))) .no) (lE (qsD Q) SL (isD o) .no .no .no) rfl ?_
  unfold m__law_is_bar
  rw [st]
  clear st
  generalize D.lst (((tw (partA Q o)).map fun x => !decide (x ∈ tw (partB Q o))).map .bl) = L2 at c2 a2
  generalize disjB (tw (partA Q o)) (tw (partB Q o)) = Z2 at a2 ⊢
  generalize D.lst ((tw (partB Q o)).map .str) = TB at wb c2 ⊢
  generalize D.lst ((partB Q o).map pD) = PB at wb c3
  generalize D.lst ((o.map (inB Q)).map .bl) = L4 at c4 a4
  generalize o.all (inB Q) = Z4 at a4 ⊢
  generalize (decide (o.length = 0) || decide (o.length = Q.length)) = Z5 at i2 ⊢
  generalize srtB o = Z6 at ne ⊢
  generalize (sortI (dedI (natI o))).map D.int = SS at so ne
  generalize o.map nD = OL at li ne
  generalize nD o.length = N1 at lo i2
  generalize nD Q.length = N2 at lQ i2
  generalize D.lst ((lostL Q).map nD) = LO at c4 c2 ⊢
  generalize isD (endsL Q) = E at c4 c2 ⊢
  generalize isD o = O at i li so lo c4 c3 c2 ⊢
  generalize qsD Q = QQ at lQ c4 c3 c2 ⊢
  unfold lE at *
  obtain ⟨C4, hC4⟩ : ∃ z, z = c__law_is_bar_4 := ⟨_, rfl⟩
  rw [← hC4] at c4 ⊢
  clear hC4
  obtain ⟨C3, hC3⟩ : ∃ z, z = c__law_is_bar_3 := ⟨_, rfl⟩
  rw [← hC3] at c3 ⊢
  clear hC3
  obtain ⟨C2, hC2⟩ : ∃ z, z = c__law_is_bar_2 := ⟨_, rfl⟩
  rw [← hC2] at c2 ⊢
  clear hC2
  obtain ⟨F, hF⟩ : ∃ z, z = f__law_told_words := ⟨_, rfl⟩
  rw [← hF] at wb ⊢
  clear hF
  cases Z6 <;> cases Z5 <;> cases Z4 <;> simp [mop, ev2, ev1, evA, getA, look, slotOk, mcst, mvar, asB, mlst, mtup, mcons, mnil, mfn, mfnL, evN, evAs, getAs, mite, band, bor, bnot, mand, mor, mnot, mcall, iseq, irange1, irange2, sset, ssetO, sret, sdrop, snil, sif, gset, mmut, isL1, ssub, spar, evOs, setSls, slOf, sasg, gtup, gcons, gnil, mslice, osome, onone, mopL, mlensetA, misinst, mmt, kindD, saug, byes, scons, k1, k2, k3, i, li, so, ne, lo, lQ, i2, c4, a4, c3, wb, c2, a2]
end K91

namespace K91
open PySem L2 DL

theorem asc_cons (x y : Nat) (r : List Nat) : ascB (x :: y :: r) = (decide (x < y) && ascB (y :: r)) := by
  unfold ascB
  rw [show (x :: y :: r).length - 1 = r.length + 1 by simp, show (y :: r).length - 1 = r.length by simp, List.range_succ_eq_map, List.all_cons, List.all_map]
  rfl
theorem asc_pair : ∀ o : List Nat, ascB o = true ↔ o.Pairwise (· < ·)
  | [] => by simp [ascB]
  | [x] => by simp [ascB]
  | x :: y :: r => by
    rw [asc_cons, Bool.and_eq_true, decide_eq_true_eq, asc_pair (y :: r)]
    constructor
    · rintro ⟨h, p⟩
      refine List.pairwise_cons.mpr ⟨fun z hz => ?_, p⟩
      rcases List.mem_cons.mp hz with rfl | hz
      · exact h
      · have := (List.pairwise_cons.mp p).1 z hz
        omega
    · intro p
      have := List.pairwise_cons.mp p
      exact ⟨this.1 y List.mem_cons_self, this.2⟩
theorem nat_pair (o : List Nat) : (natI o).Pairwise (· < ·) ↔ o.Pairwise (· < ·) := by
  unfold natI
  rw [List.pairwise_map]
  constructor
  · exact fun h => h.imp fun h => by omega
  · exact fun h => h.imp fun h => by omega
theorem srt_pair (o : List Nat) : srtB o = true ↔ o.Pairwise (· < ·) := by
  unfold srtB
  rw [decide_eq_true_eq, ← nat_pair]
  obtain ⟨nd, me⟩ := dedI_ok (natI o)
  constructor
  · intro h
    rw [h]
    have a := sortI_pair (dedI (natI o))
    have b : (sortI (dedI (natI o))).Pairwise (· ≠ ·) := (sortI_perm _).nodup_iff.mpr nd
    exact (a.and b).imp fun h => by omega
  · intro h
    have n1 : (natI o).Nodup := h.imp fun h => by omega
    refine pair_perm_eq ?_ (h.imp fun h => by omega) (sortI_pair _)
    refine ((List.perm_ext_iff_of_nodup n1 nd).mpr fun k => (me k).symm).trans (sortI_perm _).symm
theorem asc_len (n : Nat) : ∀ (o : List Nat) (m : Nat), (∀ k ∈ o, m ≤ k ∧ k < n) → o.Pairwise (· < ·) → o.length ≤ n - m
  | [], m, _, _ => by simp
  | x :: r, m, h, p => by
    have hp := List.pairwise_cons.mp p
    have := asc_len n r (x + 1) (fun k hk => ⟨hp.1 k hk, (h k (List.mem_cons_of_mem _ hk)).2⟩) hp.2
    have := h x List.mem_cons_self
    rw [List.length_cons]
    omega
theorem mem_ends {Q : List Qu} {k : Nat} : k ∈ endsL Q ↔ k < Q.length ∧ (qk Q k).2 = some ("" : Str) := by simp [endsL]
theorem mem_lost {Q : List Qu} {k : Nat} : k ∈ lostL Q ↔ k < Q.length ∧ (qk Q k).2 = none := by simp [lostL]
theorem in_open {Q : List Qu} {k : Nat} (h : k < Q.length) : inB Q k = !openB (qk Q k) := by
  apply Bool.eq_iff_iff.mpr
  simp only [inB, openB, Bool.and_eq_true, Bool.not_eq_true', decide_eq_false_iff_not, mem_ends, mem_lost, Bool.or_eq_false_iff]
  constructor
  · rintro ⟨a, b⟩
    exact ⟨fun z => b ⟨h, z⟩, fun z => a ⟨h, z⟩⟩
  · rintro ⟨a, b⟩
    exact ⟨fun z => b z.2, fun z => a z.2⟩
theorem lot_eq {Q : List Qu} {o : List Nat} (ho : ∀ k ∈ o, k < Q.length) : lawLotB Q o = lotB Q o := by
  by_cases p : o.Pairwise (· < ·)
  · have a := (asc_pair o).mpr p
    have s := (srt_pair o).mpr p
    have l := asc_len Q.length o 0 (fun k hk => ⟨by omega, ho k hk⟩) p
    have e1 : (!(decide (o.length = 0) || decide (o.length = Q.length))) = (decide (1 ≤ o.length) && decide (o.length < Q.length)) := by
      apply Bool.eq_iff_iff.mpr
      simp only [Bool.not_eq_true', Bool.or_eq_false_iff, decide_eq_false_iff_not, Bool.and_eq_true, decide_eq_true_eq]
      omega
    have e2 : o.all (inB Q) = !(o.any fun k => openB (qk Q k)) := by
      rw [List.not_any_eq_all_not]
      apply Bool.eq_iff_iff.mpr
      simp only [List.all_eq_true]
      constructor
      · intro h k hk; rw [← in_open (ho k hk)]; exact h k hk
      · intro h k hk; rw [in_open (ho k hk)]; exact h k hk
    unfold lawLotB lotB
    rw [a, s, e1, e2]
  · have a : ascB o = false := by
      cases h : ascB o with
      | false => rfl
      | true => exact absurd ((asc_pair o).mp h) p
    have s : srtB o = false := by
      cases h : srtB o with
      | false => rfl
      | true => exact absurd ((srt_pair o).mp h) p
    unfold lawLotB lotB
    rw [a, s]; simp
theorem range_pair (n : Nat) : (List.range n).Pairwise (· < ·) := by
  rw [List.pairwise_iff_getElem]
  intro i j hi hj h
  simpa using h
theorem ends_asc (Q : List Qu) : ascB (endsL Q) = true := (asc_pair _).mpr ((range_pair _).filter _)
theorem none_lost (Q : List Qu) : noneB Q = !decide (lostL Q = []) := by
  by_cases h : lostL Q = []
  · rw [decide_eq_true h]
    simp only [noneB, Bool.not_true, List.any_eq_false, decide_eq_true_eq]
    intro q hq z
    obtain ⟨k, hk, rfl⟩ := List.mem_iff_getElem.mp hq
    have : k ∈ lostL Q := mem_lost.mpr ⟨hk, by rw [qk_eq hk]; exact z⟩
    rw [h] at this
    cases this
  · rw [decide_eq_false h]
    simp only [noneB, Bool.not_false, List.any_eq_true, decide_eq_true_eq]
    obtain ⟨k, hk⟩ := List.exists_mem_of_ne_nil _ h
    exact ⟨qk Q k, qk_mem (mem_lost.mp hk).1, (mem_lost.mp hk).2⟩
theorem ends_eq (Q : List Qu) (o : List Nat) : lawEndsB Q o = endsB Q o := by
  unfold lawEndsB endsB
  by_cases h : o = endsL Q
  · rw [decide_eq_true h, h, ends_asc, none_lost]
    have e0 : decide (endsL Q = []) = decide ((endsL Q).length = 0) := by
      apply decide_eq_decide.mpr
      exact List.length_eq_zero_iff.symm
    rw [e0]
    generalize (endsL Q).length = n
    generalize decide (lostL Q = []) = b
    match n with
    | 0 => cases b <;> rfl
    | 1 => cases b <;> rfl
    | n + 2 =>
      have a1 : decide (1 < n + 2) = true := decide_eq_true (by omega)
      have a2 : decide (n + 2 = 0) = false := decide_eq_false (by omega)
      have a3 : decide (n + 2 = 1) = false := decide_eq_false (by omega)
      rw [a1, a2, a3]; rfl
  · rw [decide_eq_false h]; simp
theorem lack_eq (w : Str) : ∀ Q : List Qu, lackI Q w = ((Q.filter fun q => decide (q.1 = w)).length : Int) - ((Q.filter fun q => decide (q.2 = some w)).length : Int)
  | [] => rfl
  | q :: Q => by
    have ih := lack_eq w Q
    unfold lackI at ih ⊢
    rw [List.map_cons, List.sum_cons, ih]
    by_cases a : q.1 = w
    · by_cases b : q.2 = some w
      · simp [a, b]; omega
      · simp [a, b]; omega
    · by_cases b : q.2 = some w
      · simp [a, b]; omega
      · simp [a, b]
theorem word_eq (Q : List Qu) (w : Str) : lawWordB Q w = wordB Q w := by
  unfold lawWordB wordB
  rw [lack_eq]
  apply decide_eq_decide.mpr
  omega
end K91

namespace K91
open PySem L2 DL

theorem next_ex (n : Nat) (h0 : 0 < n) (h1 : n < 1073741824) (t : Td) : ∃ (r : Nat) (t' : Td), f__law_next [.tape, nD n] t = some (nD r, t') ∧ r < n := by
  have e := nextF_eq (n := (n : Int)) (t := t) (by omega) (by omega)
  obtain ⟨a, b⟩ := ndR_lt (t := t) (n := (n : Int)) (by omega)
  refine ⟨(ndR t n).toNat, ndT t n, ?_, by omega⟩
  have z : ((ndR t n).toNat : Int) = ndR t n := by omega
  rw [show f__law_next = nextF from rfl, e, nD, z]
theorem pick_any (v : D) (ds : List D) (hv : v = .lst ds ∨ v = .tup ds) (h0 : 0 < ds.length) (h1 : ds.length < 1073741824) (t : Td) : ∃ (d : D) (t' : Td), f__law_pick [.tape, v] t = some (d, t') ∧ d ∈ ds := by
  obtain ⟨r, t', e, hr⟩ := next_ex ds.length h0 h1 t
  refine ⟨ds[r], t', ?_, List.getElem_mem hr⟩
  have i : idxD v (nD r) = some ds[r] := by rcases hv with rfl | rfl; rw [idx_lst, List.getElem?_eq_getElem hr]; rw [idx_tup, List.getElem?_eq_getElem hr]
  generalize ds[r] = y at i ⊢
  have l : len1 [v] = some (nD ds.length) := by rcases hv with rfl | rfl <;> rfl
  refine runFn_at (Z := td) (e1 := [.sh .tape, .sh v]) [.sh .tape, .sh v] rfl ?_
  unfold m__law_pick
  generalize ds.length = len at e l
  obtain ⟨F, hF⟩ : ∃ z, z = f__law_next := ⟨_, rfl⟩
  rw [← hF] at e ⊢
  clear hF
  simp [mop, ev2, ev1, evA, getA, look, slotOk, mcst, mvar, asB, mlst, mtup, mcons, mnil, mfn, mfnL, evN, evAs, getAs, mite, band, bor, bnot, mand, mor, mnot, mcall, iseq, irange1, irange2, sset, ssetO, sret, sdrop, snil, sif, gset, mmut, isL1, ssub, spar, evOs, setSls, slOf, sasg, gtup, gcons, gnil, mslice, osome, onone, mopL, mlensetA, misinst, mmt, kindD, saug, byes, e, i, l]
theorem lcL_env {Z : TSys} {own : List Nat} {g : G} {el : M Z} (Inv : Nat → List D → List Sl → Z.T → Prop) : ∀ (ds : List D) (acc : List D) (e : List Sl) (t : Z.T) (n : Nat), Inv n acc e t →
    (∀ i d acc e t, ds[i]? = some d → Inv (n + i) acc e t → ∃ e1, g d (wipeE e own) = some e1 ∧ ∃ y e3 t3, el e1 t = some (y, e3, t3) ∧ Inv (n + i + 1) (acc ++ [y]) (wipeE e3 own) t3) →
    ∃ acc' e' t', lcL own g byes el ds acc e t = some (acc', e', t') ∧ Inv (n + ds.length) acc' e' t'
  | [], acc, e, t, n, h0, _ => ⟨acc, e, t, rfl, h0⟩
  | d :: ds, acc, e, t, n, h0, hs => by
    obtain ⟨e1, h1, y, e3, t3, h2, h3⟩ := hs 0 d acc e t rfl h0
    obtain ⟨acc', e', t', q1, q2⟩ := lcL_env (g := g) (el := el) Inv ds (acc ++ [y]) (wipeE e3 own) t3 (n + 1) h3 fun i d' acc e t hd hi => by
      have := hs (i + 1) d' acc e t (by simpa using hd) (by rw [show n + (i + 1) = n + 1 + i by omega]; exact hi)
      rw [show n + (i + 1) + 1 = n + 1 + i + 1 by omega] at this
      exact this
    rw [show n + (d :: ds).length = n + 1 + ds.length by rw [List.length_cons]; omega]
    refine ⟨acc', e', t', ?_, q2⟩
    simp only [lcL, h1, byes, h2]
    exact q1
theorem mlc_env {Z : TSys} {own : List Nat} {src : ML Z} {g : G} {el : M Z} {e e1 : List Sl} {t t1 : Z.T} {ds : List D} (Inv : Nat → List D → List Sl → Z.T → Prop) (hs : src e t = some (ds, e1, t1)) (hok : ownOk e1 own = true) (hl : ds.length ≤ 16777216) (h0 : Inv 0 [] (wipeE e1 own) t1)
    (h : ∀ i d acc e t, ds[i]? = some d → Inv i acc e t → ∃ e1, g d (wipeE e own) = some e1 ∧ ∃ y e3 t3, el e1 t = some (y, e3, t3) ∧ Inv (i + 1) (acc ++ [y]) (wipeE e3 own) t3) :
    ∃ acc e' t', mlc own src g byes el e t = some (.lst acc, restE e1 own e', t') ∧ Inv ds.length acc e' t' := by
  obtain ⟨acc, e', t', q1, q2⟩ := lcL_env (own := own) (g := g) (el := el) Inv ds [] (wipeE e1 own) t1 0 h0 fun i d acc e t hd hi => by
    rw [Nat.zero_add] at hi ⊢
    exact h i d acc e t hd hi
  refine ⟨acc, e', t', ?_, by simpa using q2⟩
  unfold mlc
  have hz : (ds.length ≤ sizeLine) := Nat.le_trans hl (by decide)
  simp only [hs, hok, hz, decide_true, Bool.and_self, if_true, q1]
abbrev wsD (ws : List Str) : D := .lst (ws.map .str)
structure Wds (ws : List Str) : Prop where
  ok : ∀ x ∈ ws, x ∈ words6
  ne : 0 < ws.length
  sm : ws.length ≤ 8
theorem pick_ws {ws : List Str} (h : Wds ws) (t : Td) : ∃ (x : Str) (t' : Td), f__law_pick [.tape, wsD ws] t = some (.str x, t') ∧ x ∈ ws := by
  obtain ⟨d, t', e, hd⟩ := pick_any (wsD ws) (ws.map .str) (.inl rfl) (by rw [List.length_map]; exact h.ne) (by rw [List.length_map]; have := h.sm; omega) t
  obtain ⟨x, hx, rfl⟩ := List.mem_map.mp hd
  exact ⟨x, t', e, hx⟩
/-! ### made -/
abbrev aE (WS n s3 s4 s5 s6 s7 s8 : Sl) : List Sl := [.sh .tape, WS, n, s3, s4, s5, s6, s7, s8, .no, .no, .no]
theorem rng_src2 {e : List Sl} {n i : Nat} (hn : n ≤ 1000) (he : e[i]? = some (.sh (nD n))) (t : Td) : irange1 (Z := td) (mcons (mvar i) mnil) e t = some ((List.range n).map nD, e, t) := by
  have b1 : ((n : Nat) : Int) < 4611686018427387904 := by omega
  have rr := range0 n
  simp [mop, ev2, ev1, evA, getA, look, slotOk, mcst, mvar, asB, mlst, mtup, mcons, mnil, mfn, mfnL, evN, evAs, getAs, mite, band, bor, bnot, mand, mor, mnot, mcall, iseq, irange1, irange2, sset, ssetO, sret, sdrop, snil, sif, gset, mmut, isL1, ssub, spar, evOs, setSls, slOf, sasg, gtup, gcons, gnil, mslice, osome, onone, mopL, mlensetA, misinst, mmt, kindD, saug, byes, he, b1, rr]
theorem made_c6 {ws : List Str} (h : Wds ws) {n : Nat} (hn : n ≤ 7) {s3 s4 s5 s6 s7 s8 : Sl} (t : Td) : ∃ (xs : List Str) (t' : Td), c__law_made_6 (aE (.sh (wsD ws)) (.sh (nD n)) s3 s4 s5 s6 s7 s8) t = some (.lst (xs.map .str), aE (.sh (wsD ws)) (.sh (nD n)) s3 s4 s5 s6 s7 s8, t') ∧ xs.length = n ∧ ∀ x ∈ xs, x ∈ ws := by
  obtain ⟨acc, t', q1, xs, rfl, q2, q3⟩ := mlc_inv (Z := td) (own := [9]) (src := irange1 (mcons (mvar 2) mnil)) (g := gset 9) (el := ce__law_made_6) (e := aE (.sh (wsD ws)) (.sh (nD n)) s3 s4 s5 s6 s7 s8) (e1 := aE (.sh (wsD ws)) (.sh (nD n)) s3 s4 s5 s6 s7 s8) (t := t) (t1 := t) (ds := (List.range n).map nD)
    (fun i acc t => ∃ xs : List Str, acc = xs.map .str ∧ xs.length = i ∧ ∀ x ∈ xs, x ∈ ws) (rng_src2 (by omega) rfl t) rfl (by rw [List.length_map, List.length_range]; omega) ⟨[], rfl, rfl, by simp⟩ fun i d acc t hd hi => by
      obtain ⟨xs, rfl, hx, hx2⟩ := hi
      obtain ⟨x, t', e, hm⟩ := pick_ws h t
      refine ⟨[.sh .tape, .sh (wsD ws), .sh (nD n), s3, s4, s5, s6, s7, s8, .sh d, .no, .no], rfl, .str x, [.sh .tape, .sh (wsD ws), .sh (nD n), s3, s4, s5, s6, s7, s8, .sh d, .no, .no], t', ?_, rfl, xs ++ [x], by simp, by simp [hx], ?_⟩
      · generalize wsD ws = W at e ⊢
        unfold ce__law_made_6
        obtain ⟨F, hF⟩ : ∃ z, z = f__law_pick := ⟨_, rfl⟩
        rw [← hF] at e ⊢
        clear hF
        simp [mop, ev2, ev1, evA, getA, look, slotOk, mcst, mvar, asB, mlst, mtup, mcons, mnil, mfn, mfnL, evN, evAs, getAs, mite, band, bor, bnot, mand, mor, mnot, mcall, iseq, irange1, irange2, sset, ssetO, sret, sdrop, snil, sif, gset, mmut, isL1, ssub, spar, evOs, setSls, slOf, sasg, gtup, gcons, gnil, mslice, osome, onone, mopL, mlensetA, misinst, mmt, kindD, saug, byes, e]
      · intro y hy
        rcases List.mem_append.mp hy with hy | hy
        · exact hx2 y hy
        · rw [List.mem_singleton.mp hy]; exact hm
  refine ⟨xs, t', q1, ?_, q3⟩
  rw [q2, List.length_map, List.length_range]
def rw_ (row : List Str) (k : Nat) : Str := row.getD k ""
def wh (row : List Str) (k : Nat) : Qu := (rw_ row k, some (rw_ row (k + 1)))
theorem row_ix {row : List Str} {k : Nat} (h : k < row.length) : idxD (.lst (row.map .str)) (nD k) = some (.str (rw_ row k)) := by
  rw [idx_lst, List.getElem?_map, List.getElem?_eq_getElem h]
  simp [rw_, List.getD_eq_getElem?_getD, h]
theorem made_c5 {row : List Str} {n : Nat} (hr : row.length = n + 1) (hn : n ≤ 7) {W s4 s5 s6 s7 s8 : Sl} (t : Td) : c__law_made_5 (aE W (.sh (nD n)) (.sh (.lst (row.map .str))) s4 s5 s6 s7 s8) t = some (.lst ((List.range n).map fun k => pD (wh row k)), aE W (.sh (nD n)) (.sh (.lst (row.map .str))) s4 s5 s6 s7 s8, t) := by
  unfold c__law_made_5
  refine mlc_all (Z := td) (e1 := aE W (.sh (nD n)) (.sh (.lst (row.map .str))) s4 s5 s6 s7 s8) (t1 := t) nD (fun k => pD (wh row k)) (List.range n) (rng_src2 (by omega) rfl t) rfl (by rw [List.length_range]; omega) fun k hk => ⟨[.sh .tape, W, .sh (nD n), .sh (.lst (row.map .str)), s4, s5, s6, s7, s8, .sh (nD k), .no, .no], rfl, rfl, [.sh .tape, W, .sh (nD n), .sh (.lst (row.map .str)), s4, s5, s6, s7, s8, .sh (nD k), .no, .no], ?_, rfl⟩
  have hk := List.mem_range.mp hk
  have a1 := row_ix (row := row) (k := k) (by omega)
  have a2 := row_ix (row := row) (k := k + 1) (by omega)
  have ad : addD (nD k) (.int 1) = some (nD (k + 1)) := by simp [addD]
  show _ = some (D.tup [.str (rw_ row k), .str (rw_ row (k + 1))], _, t)
  generalize D.str (rw_ row k) = X1 at a1 ⊢
  generalize D.str (rw_ row (k + 1)) = X2 at a2 ⊢
  generalize nD (k + 1) = k1 at a2 ad
  generalize nD k = k0 at a1 ad ⊢
  generalize D.lst (row.map .str) = R at a1 a2 ⊢
  unfold ce__law_made_5
  simp [mop, ev2, ev1, evA, getA, look, slotOk, mcst, mvar, asB, mlst, mtup, mcons, mnil, mfn, mfnL, evN, evAs, getAs, mite, band, bor, bnot, mand, mor, mnot, mcall, iseq, irange1, irange2, sset, ssetO, sret, sdrop, snil, sif, gset, mmut, isL1, ssub, spar, evOs, setSls, slOf, sasg, gtup, gcons, gnil, mslice, osome, onone, mopL, mlensetA, misinst, mmt, kindD, saug, byes, a1, a2, ad]
theorem erase_map {α β : Type} (f : α → β) : ∀ (l : List α) (r : Nat), (l.map f).eraseIdx r = (l.eraseIdx r).map f
  | [], r => by simp
  | a :: l, 0 => by simp
  | a :: l, r + 1 => by simp [erase_map f l r]
theorem pop_at (xs : List Nat) (r : Nat) (h : r < xs.length) (h2 : xs.length ≤ 1000) : uPopAt [nD r] (xs.map nD) = some (nD xs[r], (xs.eraseIdx r).map nD) := by
  have i : ixN (xs.map nD).length (r : Int) = some r := by
    rw [List.length_map]
    unfold ixN
    simp [h]
  have b : -(2 ^ 63) ≤ (r : Int) ∧ (r : Int) < 2 ^ 63 := by omega
  have g : (xs.map nD)[r]? = some (nD xs[r]) := by simp [h]
  simp only [uPopAt, i, b, g, and_self, if_true]
  rw [erase_map]
theorem mixed_st (WS n s3 s4 s6 s7 s8 k : Sl) (W W' : List D) (m r : Nat) (x : D) (t t' : Td) (a : len1 [.lst W] = some (nD m)) (b : f__law_next [.tape, nD m] t = some (nD r, t')) (c : uPopAt [nD r] W = some (x, W')) :
    ce__law_made_4 [.sh .tape, WS, n, s3, s4, .ow 1 (.lst W), s6, s7, s8, k, .no, .no] t = some (x, [.sh .tape, WS, n, s3, s4, .ow 1 (.lst W'), s6, s7, s8, k, .no, .no], t') := by
  unfold ce__law_made_4
  obtain ⟨F, hF⟩ : ∃ z, z = f__law_next := ⟨_, rfl⟩
  rw [← hF] at b ⊢
  clear hF
  generalize nD m = k1 at a b
  generalize nD r = k2 at b c
  simp [mop, ev2, ev1, evA, getA, look, slotOk, mcst, mvar, asB, mlst, mtup, mcons, mnil, mfn, mfnL, evN, evAs, getAs, mite, band, bor, bnot, mand, mor, mnot, mcall, iseq, irange1, irange2, sset, ssetO, sret, sdrop, snil, sif, gset, mmut, isL1, ssub, spar, evOs, setSls, slOf, sasg, gtup, gcons, gnil, mslice, osome, onone, mopL, mlensetA, misinst, mmt, kindD, saug, byes, a, b, c]
theorem era_perm : ∀ (l : List Nat) (r : Nat) (h : r < l.length), (l[r] :: l.eraseIdx r).Perm l
  | a :: l, 0, h => by simp
  | a :: l, r + 1, h => by
    have := era_perm l r (by simpa using h)
    simp only [List.getElem_cons_succ, List.eraseIdx_cons_succ]
    exact (List.Perm.swap _ _ _).trans (this.cons a)
theorem made_c4 {n : Nat} (hn : n ≤ 7) {WS s3 s4 s6 s7 s8 : Sl} (t : Td) : ∃ (mixed : List Nat) (t' : Td), c__law_made_4 (aE WS (.sh (nD n)) s3 s4 (.ow 1 (.lst ((List.range n).map nD))) s6 s7 s8) t = some (.lst (mixed.map nD), aE WS (.sh (nD n)) s3 s4 (.ow 1 (.lst [])) s6 s7 s8, t') ∧ mixed.Perm (List.range n) := by
  obtain ⟨acc, e', t', q1, mixed, left, rfl, rfl, q2, q3⟩ := mlc_env (Z := td) (own := [9]) (src := irange1 (mcons (mvar 2) mnil)) (g := gset 9) (el := ce__law_made_4) (e := aE WS (.sh (nD n)) s3 s4 (.ow 1 (.lst ((List.range n).map nD))) s6 s7 s8) (e1 := aE WS (.sh (nD n)) s3 s4 (.ow 1 (.lst ((List.range n).map nD))) s6 s7 s8) (t := t) (t1 := t) (ds := (List.range n).map nD)
    (fun i acc e t => ∃ mixed left : List Nat, acc = mixed.map nD ∧ e = aE WS (.sh (nD n)) s3 s4 (.ow 1 (.lst (left.map nD))) s6 s7 s8 ∧ (mixed ++ left).Perm (List.range n) ∧ mixed.length = i) (rng_src2 (by omega) rfl t) rfl (by rw [List.length_map, List.length_range]; omega) ⟨[], List.range n, rfl, rfl, List.Perm.refl _, rfl⟩ fun i d acc e t hd hi => by
      obtain ⟨hk, rfl⟩ := range_get hd
      obtain ⟨mixed, left, rfl, rfl, hp, hl⟩ := hi
      have len := hp.length_eq
      rw [List.length_append, List.length_range] at len
      obtain ⟨r, t', e, hr⟩ := next_ex left.length (by omega) (by omega) t
      refine ⟨[.sh .tape, WS, .sh (nD n), s3, s4, .ow 1 (.lst (left.map nD)), s6, s7, s8, .sh (nD i), .no, .no], rfl, nD left[r], [.sh .tape, WS, .sh (nD n), s3, s4, .ow 1 (.lst ((left.eraseIdx r).map nD)), s6, s7, s8, .sh (nD i), .no, .no], t', mixed_st _ _ _ _ _ _ _ _ _ _ left.length r _ t t' (by simp [len1]) e (pop_at left r hr (by omega)), mixed ++ [left[r]], left.eraseIdx r, by simp, rfl, ?_, by simp [hl]⟩
      rw [List.append_assoc]
      exact (List.Perm.append_left _ (era_perm left r hr)).trans hp
  rw [List.length_map, List.length_range] at q3
  have len := q2.length_eq
  rw [List.length_append, List.length_range] at len
  have lz : left = [] := List.length_eq_zero_iff.mp (by omega)
  subst lz
  rw [List.append_nil] at q2
  exact ⟨mixed, t', q1, q2⟩
end K91

namespace K91
open PySem L2 DL

def menL (row : List Str) (mixed : List Nat) : List Qu := mixed.map (wh row)
def ordL (mixed : List Nat) (n : Nat) : List Nat := (List.range n).map fun k => mixed.idxOf k
theorem made_c3 {row : List Str} {n : Nat} {mixed : List Nat} (hm : mixed.Perm (List.range n)) (hn : n ≤ 7) {W N s3 s5 s7 s8 : Sl} (t : Td) : c__law_made_3 (aE W N s3 (.sh (.lst ((List.range n).map fun k => pD (wh row k)))) s5 (.sh (.lst (mixed.map nD))) s7 s8) t = some (.lst ((menL row mixed).map pD), aE W N s3 (.sh (.lst ((List.range n).map fun k => pD (wh row k)))) s5 (.sh (.lst (mixed.map nD))) s7 s8, t) := by
  unfold c__law_made_3 menL
  rw [List.map_map]
  have len := hm.length_eq
  rw [List.length_range] at len
  refine mlc_all (Z := td) (e1 := aE W N s3 (.sh (.lst ((List.range n).map fun k => pD (wh row k)))) s5 (.sh (.lst (mixed.map nD))) s7 s8) (t1 := t) nD (pD ∘ wh row) mixed ?_ rfl (by omega) fun k hk => ⟨[.sh .tape, W, N, s3, .sh (.lst ((List.range n).map fun k => pD (wh row k))), s5, .sh (.lst (mixed.map nD)), s7, s8, .sh (nD k), .no, .no], rfl, rfl, [.sh .tape, W, N, s3, .sh (.lst ((List.range n).map fun k => pD (wh row k))), s5, .sh (.lst (mixed.map nD)), s7, s8, .sh (nD k), .no, .no], ?_, rfl⟩
  · generalize (List.range n).map (fun k => pD (wh row k)) = L
    generalize mixed.map nD = M
    simp [mop, ev2, ev1, evA, getA, look, slotOk, mcst, mvar, asB, mlst, mtup, mcons, mnil, mfn, mfnL, evN, evAs, getAs, mite, band, bor, bnot, mand, mor, mnot, mcall, iseq, irange1, irange2, sset, ssetO, sret, sdrop, snil, sif, gset, mmut, isL1, ssub, spar, evOs, setSls, slOf, sasg, gtup, gcons, gnil, mslice, osome, onone, mopL, mlensetA, misinst, mmt, kindD, saug, byes]
  · have hk2 : k < n := List.mem_range.mp (hm.mem_iff.mp hk)
    have a1 : idxD (.lst ((List.range n).map fun k => pD (wh row k))) (nD k) = some (pD (wh row k)) := by
      rw [idx_lst, List.getElem?_map, List.getElem?_range hk2]; rfl
    show ce__law_made_3 _ t = some (pD (wh row k), _, t)
    generalize pD (wh row k) = P at a1 ⊢
    generalize D.lst ((List.range n).map (fun k => pD (wh row k))) = L at a1 ⊢
    generalize D.lst (mixed.map nD) = M
    generalize nD k = K at a1 ⊢
    unfold ce__law_made_3
    simp [mop, ev2, ev1, evA, getA, look, slotOk, mcst, mvar, asB, mlst, mtup, mcons, mnil, mfn, mfnL, evN, evAs, getAs, mite, band, bor, bnot, mand, mor, mnot, mcall, iseq, irange1, irange2, sset, ssetO, sret, sdrop, snil, sif, gset, mmut, isL1, ssub, spar, evOs, setSls, slOf, sasg, gtup, gcons, gnil, mslice, osome, onone, mopL, mlensetA, misinst, mmt, kindD, saug, byes, a1]
theorem eq_z (r : Nat) : eqD (nD r) (.int 0) = some (.bl (decide (r = 0))) := eq_nat r 0
structure Worn (M Q : List Qu) : Prop where
  len : Q.length = M.length
  f : ∀ j, j < M.length → (qk Q j).1 = (qk M j).1 ∧ ((qk Q j).2 = none ∨ (qk Q j).2 = (qk M j).2)
theorem qk_app (Q : List Qu) (x : Qu) (j : Nat) (h : j < Q.length) : qk (Q ++ [x]) j = qk Q j := by
  rw [qk_eq (by rw [List.length_append]; omega), qk_eq h, List.getElem_append_left h]
theorem qk_last (Q : List Qu) (x : Qu) : qk (Q ++ [x]) Q.length = x := by
  rw [qk_eq (by simp)]; simp
theorem worn_st (QQ : List Qu) (W N s3 s4 s5 s6 M s8 : Sl) (q : Qu) (t : Td) : ∃ (c : Option Str) (t' : Td), (c = none ∨ c = q.2) ∧ ce__law_made_2 [.sh .tape, W, N, s3, s4, s5, s6, M, s8, .no, .sh (.str q.1), .sh (oS q.2)] t = some (pD (q.1, c), [.sh .tape, W, N, s3, s4, s5, s6, M, s8, .no, .sh (.str q.1), .sh (oS q.2)], t') := by
  obtain ⟨r, t', e, hr⟩ := next_ex 3 (by omega) (by omega) t
  have e : f__law_next [.tape, .int 3] t = some (nD r, t') := e
  have z := eq_z r
  generalize nD r = R at e z
  unfold ce__law_made_2
  obtain ⟨F, hF⟩ : ∃ z, z = f__law_next := ⟨_, rfl⟩
  rw [← hF] at e ⊢
  clear hF
  by_cases h : r = 0
  · rw [decide_eq_true h] at z
    refine ⟨none, t', .inl rfl, ?_⟩
    show _ = some (D.tup [.str q.1, .non], _, _)
    generalize D.str q.1 = S
    generalize oS q.2 = O
    simp [mop, ev2, ev1, evA, getA, look, slotOk, mcst, mvar, asB, mlst, mtup, mcons, mnil, mfn, mfnL, evN, evAs, getAs, mite, band, bor, bnot, mand, mor, mnot, mcall, iseq, irange1, irange2, sset, ssetO, sret, sdrop, snil, sif, gset, mmut, isL1, ssub, spar, evOs, setSls, slOf, sasg, gtup, gcons, gnil, mslice, osome, onone, mopL, mlensetA, misinst, mmt, kindD, saug, byes, e, z]
  · rw [decide_eq_false h] at z
    refine ⟨q.2, t', .inr rfl, ?_⟩
    show _ = some (D.tup [.str q.1, oS q.2], _, _)
    generalize D.str q.1 = S
    generalize oS q.2 = O
    simp [mop, ev2, ev1, evA, getA, look, slotOk, mcst, mvar, asB, mlst, mtup, mcons, mnil, mfn, mfnL, evN, evAs, getAs, mite, band, bor, bnot, mand, mor, mnot, mcall, iseq, irange1, irange2, sset, ssetO, sret, sdrop, snil, sif, gset, mmut, isL1, ssub, spar, evOs, setSls, slOf, sasg, gtup, gcons, gnil, mslice, osome, onone, mopL, mlensetA, misinst, mmt, kindD, saug, byes, e, z]
theorem made_c2 {M : List Qu} (hl : M.length ≤ 1000) {W N s3 s4 s5 s6 s8 : Sl} (t : Td) : ∃ (Q : List Qu) (t' : Td), c__law_made_2 (aE W N s3 s4 s5 s6 (.sh (qsD M)) s8) t = some (.lst (Q.map pD), aE W N s3 s4 s5 s6 (.sh (qsD M)) s8, t') ∧ Worn M Q := by
  obtain ⟨acc, t', q1, Q, rfl, q2, q3⟩ := mlc_inv (Z := td) (own := [10, 11]) (src := iseq (mvar 7)) (g := gtup 2 (gcons (gset 10) (gcons (gset 11) gnil))) (el := ce__law_made_2) (e := aE W N s3 s4 s5 s6 (.sh (qsD M)) s8) (e1 := aE W N s3 s4 s5 s6 (.sh (qsD M)) s8) (t := t) (t1 := t) (ds := M.map pD)
    (fun i acc t => ∃ Q : List Qu, acc = Q.map pD ∧ Q.length = i ∧ ∀ j, j < i → (qk Q j).1 = (qk M j).1 ∧ ((qk Q j).2 = none ∨ (qk Q j).2 = (qk M j).2)) (by unfold qsD; simp [mop, ev2, ev1, evA, getA, look, slotOk, mcst, mvar, asB, mlst, mtup, mcons, mnil, mfn, mfnL, evN, evAs, getAs, mite, band, bor, bnot, mand, mor, mnot, mcall, iseq, irange1, irange2, sset, ssetO, sret, sdrop, snil, sif, gset, mmut, isL1, ssub, spar, evOs, setSls, slOf, sasg, gtup, gcons, gnil, mslice, osome, onone, mopL, mlensetA, misinst, mmt, kindD, saug, byes]) rfl (by rw [List.length_map]; omega) ⟨[], rfl, rfl, fun j hj => absurd hj (by omega)⟩ fun i d acc t hd hi => by
      obtain ⟨Q, rfl, hx, hx2⟩ := hi
      have hk : i < M.length := by
        have := (List.getElem?_eq_some_iff.mp hd).1
        simpa using this
      have hd : d = pD (qk M i) := by
        rw [List.getElem?_map, List.getElem?_eq_getElem hk] at hd
        rw [qk_eq hk]
        simpa using hd.symm
      subst hd
      obtain ⟨c, t', hc, e⟩ := worn_st Q W N s3 s4 s5 s6 (.sh (qsD M)) s8 (qk M i) t
      refine ⟨[.sh .tape, W, N, s3, s4, s5, s6, .sh (qsD M), s8, .no, .sh (.str (qk M i).1), .sh (oS (qk M i).2)], rfl, pD ((qk M i).1, c), _, t', e, rfl, Q ++ [((qk M i).1, c)], by simp, by simp [hx], fun j hj => ?_⟩
      by_cases z : j = i
      · subst z
        rw [← hx, qk_last]
        rw [hx]
        exact ⟨rfl, hc⟩
      · rw [qk_app _ _ _ (by omega)]
        exact hx2 j (by omega)
  rw [List.length_map] at q2 q3
  exact ⟨Q, t', q1, q2, q3⟩
theorem idxOf_map (k : Nat) : ∀ m : List Nat, k ∈ m → idxOfD (nD k) (m.map nD) = some (m.idxOf k)
  | x :: m, h => by
    have e : eqvD (nD x) (nD k) = decide (x = k) := by
      simp only [eqvD]
      by_cases h : x = k
      · simp [h]
      · have : ¬ ((x : Int) = (k : Int)) := by omega
        simp [h, this]
    rw [List.map_cons]
    unfold idxOfD
    rw [e, List.idxOf_cons]
    by_cases z : x = k
    · simp [z]
    · have hm : k ∈ m := by
        rcases List.mem_cons.mp h with h | h
        · exact absurd h.symm z
        · exact h
      rw [idxOf_map k m hm]
      have zb : (x == k) = false := by simpa using z
      simp [z, zb]
theorem made_c1 {n : Nat} {mixed : List Nat} (hm : mixed.Perm (List.range n)) (hn : n ≤ 7) {W s3 s4 s5 s7 s8 : Sl} (t : Td) : c__law_made_1 (aE W (.sh (nD n)) s3 s4 s5 (.sh (.lst (mixed.map nD))) s7 s8) t = some (.lst ((ordL mixed n).map nD), aE W (.sh (nD n)) s3 s4 s5 (.sh (.lst (mixed.map nD))) s7 s8, t) := by
  unfold c__law_made_1 ordL
  rw [List.map_map]
  have len := hm.length_eq
  rw [List.length_range] at len
  refine mlc_all (Z := td) (e1 := aE W (.sh (nD n)) s3 s4 s5 (.sh (.lst (mixed.map nD))) s7 s8) (t1 := t) nD (nD ∘ fun k => mixed.idxOf k) (List.range n) (rng_src2 (by omega) rfl t) rfl (by rw [List.length_range]; omega) fun k hk => ⟨[.sh .tape, W, .sh (nD n), s3, s4, s5, .sh (.lst (mixed.map nD)), s7, s8, .sh (nD k), .no, .no], rfl, rfl, [.sh .tape, W, .sh (nD n), s3, s4, s5, .sh (.lst (mixed.map nD)), s7, s8, .sh (nD k), .no, .no], ?_, rfl⟩
  have a1 : indexG (.lst (mixed.map nD)) [nD k] = some (nD (mixed.idxOf k)) := by
    have o : okD 30 (nD k) = true := rfl
    have o2 : decide ((mixed.map nD).length ≤ 1000000) = true := decide_eq_true (by rw [List.length_map]; omega)
    simp only [indexG, seqD, o, ok_nats, o2, Bool.and_self, if_true, idxOf_map k mixed (hm.mem_iff.mpr hk), Option.map_some]
  show _ = some (nD (mixed.idxOf k), _, t)
  generalize nD (mixed.idxOf k) = X at a1 ⊢
  generalize nD k = K at a1 ⊢
  generalize nD n = N
  unfold ce__law_made_1
  generalize mixed.map nD = M at a1 ⊢
  simp [mop, ev2, ev1, evA, getA, look, slotOk, mcst, mvar, asB, mlst, mtup, mcons, mnil, mfn, mfnL, evN, evAs, getAs, mite, band, bor, bnot, mand, mor, mnot, mcall, iseq, irange1, irange2, sset, ssetO, sret, sdrop, snil, sif, gset, mmut, isL1, ssub, spar, evOs, setSls, slOf, sasg, gtup, gcons, gnil, mslice, osome, onone, mopL, mlensetA, misinst, mmt, kindD, saug, byes, a1]
/-! ### mathematics -/
structure Made (Q M : List Qu) (o : List Nat) : Prop where
  w : Worn M Q
  n1 : 1 ≤ M.length
  n7 : M.length ≤ 7
  okM : Oks M
  cat : ∀ q ∈ M, q.2 ≠ none
  ol : o.length = M.length
  ob : ∀ k ∈ o, k < M.length
  ord : ordB M o = true
theorem Made.okQ {Q M : List Qu} {o : List Nat} (h : Made Q M o) : Oks Q := by
  intro q hq
  obtain ⟨j, hj, rfl⟩ := List.mem_iff_getElem.mp hq
  have hj2 : j < M.length := by rw [← h.w.len]; exact hj
  have := h.w.f j hj2
  rw [qk_eq hj] at this
  have om := h.okM _ (qk_mem hj2)
  refine ⟨by rw [this.1]; exact om.f, fun x hx => ?_⟩
  rcases this.2 with z | z
  · rw [z] at hx; cases hx
  · exact om.c x (by rw [← z]; exact hx)
theorem Made.men {Q M : List Qu} {o : List Nat} (h : Made Q M o) : mendB Q M = true := by
  simp only [mendB, h.w.len, decide_true, Bool.true_and, List.all_eq_true]
  intro k hk
  have hk := List.mem_range.mp hk
  obtain ⟨a, b⟩ := h.w.f k hk
  have c := h.cat _ (qk_mem hk)
  unfold mB
  rw [a, decide_eq_true rfl, decide_eq_false c]
  rcases b with b | b <;> simp [b]
theorem made_ord {row : List Str} {n : Nat} {mixed : List Nat} (hm : mixed.Perm (List.range n)) (hn : 1 ≤ n) (hr : ∃ xs : List Str, row = xs ++ [("" : Str)] ∧ xs.length = n) : (ordL mixed n).length = (menL row mixed).length ∧ (∀ k ∈ ordL mixed n, k < (menL row mixed).length) ∧ ordB (menL row mixed) (ordL mixed n) = true := by
  have len := hm.length_eq
  rw [List.length_range] at len
  have nd : mixed.Nodup := hm.nodup_iff.mpr List.nodup_range
  have ml : (menL row mixed).length = n := by unfold menL; rw [List.length_map, len]
  have ol : (ordL mixed n).length = n := by unfold ordL; rw [List.length_map, List.length_range]
  have ix : ∀ k, k < n → mixed.idxOf k < mixed.length := fun k hk => List.idxOf_lt_length_iff.mpr (hm.mem_iff.mpr (List.mem_range.mpr hk))
  have ob : ∀ k ∈ ordL mixed n, k < (menL row mixed).length := by
    intro k hk
    obtain ⟨j, hj, rfl⟩ := List.mem_map.mp hk
    rw [ml, ← len]
    exact ix j (List.mem_range.mp hj)
  have get : ∀ k, k < n → qk (menL row mixed) (mixed.idxOf k) = wh row k := by
    intro k hk
    have h1 := ix k hk
    rw [qk_eq (by rw [ml, ← len]; exact h1)]
    unfold menL
    rw [List.getElem_map, List.getElem_idxOf]
  refine ⟨by rw [ol, ml], ob, ?_⟩
  have on : (ordL mixed n).Nodup := by
    unfold ordL
    unfold List.Nodup
    rw [List.pairwise_map]
    refine List.Pairwise.imp_of_mem ?_ (range_pair n)
    intro a b ha hb hab e
    have ha := List.mem_range.mp ha
    have hb := List.mem_range.mp hb
    have g1 : mixed[mixed.idxOf a]'(ix a ha) = a := List.getElem_idxOf _
    have g2 : mixed[mixed.idxOf b]'(ix b hb) = b := List.getElem_idxOf _
    have : a = b := by
      rw [← g1, ← g2]
      congr 1
    omega
  have op : (ordL mixed n).Perm (List.range n) := by
    refine (List.perm_ext_iff_of_nodup on List.nodup_range).mpr fun k => ⟨fun hk => ?_, fun hk => ?_⟩
    · have := ob k hk
      rw [ml] at this
      exact List.mem_range.mpr this
    · have hk := List.mem_range.mp hk
      have hk' : k < mixed.length := by omega
      unfold ordL
      refine List.mem_map.mpr ⟨mixed[k], hm.mem_iff.mp (List.getElem_mem _), ?_⟩
      exact nd.idxOf_getElem k hk'
  have srt : sortedB (menL row mixed).length (ordL mixed n) = true := by
    unfold sortedB
    rw [decide_eq_true_eq, ml]
    refine pair_perm_eq ((sortI_perm _).trans ?_) (sortI_pair _) (((nat_pair _).mpr (range_pair n)).imp fun h => by omega)
    unfold natI
    exact op.map _
  have ca : caught (menL row mixed) (ordL mixed n) = firsts (menL row mixed) (ordL mixed n) := by
    obtain ⟨xs, hrow, hx⟩ := hr
    unfold caught firsts ordL
    rw [List.map_map, ← List.map_drop, List.map_map]
    apply List.ext_getElem
    · simp
      omega
    · intro i h1 h2
      have hi : i < n := by simpa using h1
      rw [List.getElem_map, List.getElem_range]
      simp only [Function.comp]
      rw [get i hi]
      by_cases z : i < n - 1
      · rw [List.getElem_append_left (by simp; omega), List.getElem_map, List.getElem_drop, List.getElem_range]
        simp only [Function.comp]
        rw [get (1 + i) (by omega), Nat.add_comm 1 i]; rfl
      · rw [List.getElem_append_right (by simp; omega)]
        have e : i + 1 = n := by omega
        have r : rw_ row (i + 1) = "" := by
          unfold rw_
          rw [hrow, e, ← hx]
          simp [List.getD_eq_getElem?_getD]
        simp [wh, r]
  unfold ordB
  rw [srt, ca]; simp
end K91

namespace K91
open PySem L2 DL

theorem sset_at {Z : TSys} {m : M Z} {e e1 e2 : List Sl} {t t1 : Z.T} {d : D} {i : Nat} (h : m e t = some (d, e1, t1)) (h2 : e1.set i (.sh d) = e2) : sset i m e t = some (.nx, e2, t1) := by
  subst h2; simp only [sset, h]
theorem fn_ev {Z : TSys} {m : M Z} {g : List D → Option D} {e e1 : List Sl} {t t1 : Z.T} {d r : D} (h : m e t = some (d, e1, t1)) (h2 : g [d] = some r) : mfn g [(.e m)] e t = some (r, e1, t1) := by
  simp [mop, ev2, ev1, evA, getA, look, slotOk, mcst, mvar, asB, mlst, mtup, mcons, mnil, mfn, mfnL, evN, evAs, getAs, mite, band, bor, bnot, mand, mor, mnot, mcall, iseq, irange1, irange2, sset, ssetO, sret, sdrop, snil, sif, gset, mmut, isL1, ssub, spar, evOs, setSls, slOf, sasg, gtup, gcons, gnil, mslice, osome, onone, mopL, mlensetA, misinst, mmt, kindD, saug, byes, h, h2]
theorem add_lst1 {xs : List Str} (h : xs.length ≤ 1000) : addD (.lst (xs.map .str)) (.lst [.str ""]) = some (.lst ((xs ++ [("" : Str)]).map .str)) := by
  rw [add_lst (by simp; omega)]
  simp
theorem made_many (WS : D) (t : Td) : ∃ (n : Nat) (t' : Td), (1 ≤ n ∧ n ≤ 7) ∧ mop (Z := td) addD (.e (mcst (.int 1))) (.e (mcall 2 f__law_next (mcons (mvar 0) (mcons (mcst (.int 7)) mnil)))) (aE (.sh WS) .no .no .no .no .no .no .no) t = some (nD n, aE (.sh WS) .no .no .no .no .no .no .no, t') := by
  obtain ⟨r, t', e, hr⟩ := next_ex 7 (by omega) (by omega) t
  have e : f__law_next [.tape, .int 7] t = some (nD r, t') := e
  refine ⟨r + 1, t', by omega, ?_⟩
  have ad : addD (.int 1) (nD r) = some (nD (r + 1)) := by simp [addD]; omega
  generalize nD (r + 1) = R2 at ad ⊢
  generalize nD r = R at e ad
  obtain ⟨F, hF⟩ : ∃ z, z = f__law_next := ⟨_, rfl⟩
  rw [← hF] at e ⊢
  clear hF
  simp [mop, ev2, ev1, evA, getA, look, slotOk, mcst, mvar, asB, mlst, mtup, mcons, mnil, mfn, mfnL, evN, evAs, getAs, mite, band, bor, bnot, mand, mor, mnot, mcall, iseq, irange1, irange2, sset, ssetO, sret, sdrop, snil, sif, gset, mmut, isL1, ssub, spar, evOs, setSls, slOf, sasg, gtup, gcons, gnil, mslice, osome, onone, mopL, mlensetA, misinst, mmt, kindD, saug, byes, e, ad]
theorem made_row {WS : D} {N : Sl} {xs : List Str} {t t' : Td} (hl : xs.length ≤ 1000) (c6 : c__law_made_6 (aE (.sh WS) N .no .no .no .no .no .no) t = some (.lst (xs.map .str), aE (.sh WS) N .no .no .no .no .no .no, t')) : mop (Z := td) addD (.e c__law_made_6) (.e (mlst (mcons (mcst (.str "")) mnil))) (aE (.sh WS) N .no .no .no .no .no .no) t = some (.lst ((xs ++ [("" : Str)]).map .str), aE (.sh WS) N .no .no .no .no .no .no, t') := by
  have ad := add_lst1 hl
  generalize D.lst ((xs ++ [("" : Str)]).map .str) = R at ad ⊢
  generalize D.lst (xs.map .str) = X at c6 ad
  obtain ⟨C, hC⟩ : ∃ z, z = c__law_made_6 := ⟨_, rfl⟩
  rw [← hC] at c6 ⊢
  clear hC
  simp [mop, ev2, ev1, evA, getA, look, slotOk, mcst, mvar, asB, mlst, mtup, mcons, mnil, mfn, mfnL, evN, evAs, getAs, mite, band, bor, bnot, mand, mor, mnot, mcall, iseq, irange1, irange2, sset, ssetO, sret, sdrop, snil, sif, gset, mmut, isL1, ssub, spar, evOs, setSls, slOf, sasg, gtup, gcons, gnil, mslice, osome, onone, mopL, mlensetA, misinst, mmt, kindD, saug, byes, c6, ad]
theorem made_left {W s3 s4 : Sl} {n : Nat} (hn : n ≤ 7) (t : Td) : ssetO (Z := td) 5 1 (mlistR (mvar 2)) (aE W (.sh (nD n)) s3 s4 .no .no .no .no) t = some (.nx, aE W (.sh (nD n)) s3 s4 (.ow 1 (.lst ((List.range n).map nD))) .no .no .no, t) := by
  have b1 : (0 : Int) ≤ (n : Int) ∧ (n : Int) ≤ 1000 := by omega
  have rr := range0 n
  unfold ssetO mlistR
  simp [mop, ev2, ev1, evA, getA, look, slotOk, mcst, mvar, asB, mlst, mtup, mcons, mnil, mfn, mfnL, evN, evAs, getAs, mite, band, bor, bnot, mand, mor, mnot, mcall, iseq, irange1, irange2, sset, ssetO, sret, sdrop, snil, sif, gset, mmut, isL1, ssub, spar, evOs, setSls, slOf, sasg, gtup, gcons, gnil, mslice, osome, onone, mopL, mlensetA, misinst, mmt, kindD, saug, byes, b1, rr]
theorem made_end {W N s3 s4 s5 s6 : Sl} {Q M O : D} {L : D} {t : Td} (c1 : c__law_made_1 (aE W N s3 s4 s5 s6 (.sh M) (.sh Q)) t = some (L, aE W N s3 s4 s5 s6 (.sh M) (.sh Q), t)) (tu : tuple1 [L] = some O) : mtup (Z := td) (mcons (mvar 8) (mcons (mvar 7) (mcons (mfn tuple1 [(.e c__law_made_1)]) mnil))) (aE W N s3 s4 s5 s6 (.sh M) (.sh Q)) t = some (.tup [Q, M, O], aE W N s3 s4 s5 s6 (.sh M) (.sh Q), t) := by
  obtain ⟨C, hC⟩ : ∃ z, z = c__law_made_1 := ⟨_, rfl⟩
  rw [← hC] at c1 ⊢
  clear hC
  simp [mop, ev2, ev1, evA, getA, look, slotOk, mcst, mvar, asB, mlst, mtup, mcons, mnil, mfn, mfnL, evN, evAs, getAs, mite, band, bor, bnot, mand, mor, mnot, mcall, iseq, irange1, irange2, sset, ssetO, sret, sdrop, snil, sif, gset, mmut, isL1, ssub, spar, evOs, setSls, slOf, sasg, gtup, gcons, gnil, mslice, osome, onone, mopL, mlensetA, misinst, mmt, kindD, saug, byes, c1, tu]
theorem made_run {ws : List Str} (h : Wds ws) (t : Td) : ∃ (Q M : List Qu) (o : List Nat) (t' : Td), Made Q M o ∧ f__law_made [.tape, wsD ws] t = some (.tup [qsD Q, qsD M, isD o], t') := by
  obtain ⟨n, t1, ⟨n1, n7⟩, e1⟩ := made_many (wsD ws) t
  obtain ⟨xs, t2, e2, hx, hxs⟩ := made_c6 h n7 (s3 := .no) (s4 := .no) (s5 := .no) (s6 := .no) (s7 := .no) (s8 := .no) t1
  have e3 := made_row (by omega) e2
  obtain ⟨row, hrow⟩ : ∃ r, r = xs ++ [("" : Str)] := ⟨_, rfl⟩
  rw [← hrow] at e3
  have hr : row.length = n + 1 := by rw [hrow]; simp [hx]
  have e4 := made_c5 hr n7 (W := .sh (wsD ws)) (s4 := .no) (s5 := .no) (s6 := .no) (s7 := .no) (s8 := .no) t2
  have e5 := made_left (W := .sh (wsD ws)) (s3 := .sh (.lst (row.map .str))) (s4 := .sh (.lst ((List.range n).map fun k => pD (wh row k)))) n7 t2
  obtain ⟨mixed, t3, e6, hm⟩ := made_c4 n7 (WS := .sh (wsD ws)) (s3 := .sh (.lst (row.map .str))) (s4 := .sh (.lst ((List.range n).map fun k => pD (wh row k)))) (s6 := .no) (s7 := .no) (s8 := .no) t2
  have e7 := made_c3 (row := row) hm n7 (W := .sh (wsD ws)) (N := .sh (nD n)) (s3 := .sh (.lst (row.map .str))) (s5 := .ow 1 (.lst [])) (s7 := .no) (s8 := .no) t3
  have len := hm.length_eq
  rw [List.length_range] at len
  have ml : (menL row mixed).length = n := by unfold menL; rw [List.length_map, len]
  obtain ⟨Q, t4, e8, hw⟩ := made_c2 (M := menL row mixed) (by omega) (W := .sh (wsD ws)) (N := .sh (nD n)) (s3 := .sh (.lst (row.map .str))) (s4 := .sh (.lst ((List.range n).map fun k => pD (wh row k)))) (s5 := .ow 1 (.lst [])) (s6 := .sh (.lst (mixed.map nD))) (s8 := .no) t3
  have e9 := made_c1 hm n7 (W := .sh (wsD ws)) (s3 := .sh (.lst (row.map .str))) (s4 := .sh (.lst ((List.range n).map fun k => pD (wh row k)))) (s5 := .ow 1 (.lst [])) (s7 := .sh (qsD (menL row mixed))) (s8 := .sh (qsD Q)) t4
  have e10 := made_end (O := isD (ordL mixed n)) e9 rfl
  have e7' := fn_ev (g := tuple1) (r := qsD (menL row mixed)) e7 rfl
  have e8' := fn_ev (g := tuple1) (r := qsD Q) e8 rfl
  obtain ⟨m1, m2, m3⟩ := made_ord (row := row) hm n1 ⟨xs, hrow, hx⟩
  have mem : ∀ k, k < n → rw_ row k ∈ words6 := fun k hk => by
    unfold rw_
    rw [hrow, List.getD_eq_getElem?_getD, List.getElem?_append_left (by omega), List.getElem?_eq_getElem (by omega)]
    exact h.ok _ (hxs _ (List.getElem_mem _))
  have last : rw_ row n = "" := by
    unfold rw_
    rw [hrow, ← hx]
    simp [List.getD_eq_getElem?_getD]
  refine ⟨Q, menL row mixed, ordL mixed n, t4, ⟨hw, by omega, by omega, ?_, ?_, m1, m2, m3⟩, ?_⟩
  · intro q hq
    obtain ⟨k, hk, rfl⟩ := List.mem_map.mp hq
    have hk : k < n := List.mem_range.mp (hm.mem_iff.mp hk)
    refine ⟨mem k hk, fun x e => ?_⟩
    have e : x = rw_ row (k + 1) := by simpa [wh] using e.symm
    subst e
    by_cases z : k + 1 = n
    · rw [z]; exact .inl last
    · exact .inr (mem _ (by omega))
  · intro q hq
    obtain ⟨k, hk, rfl⟩ := List.mem_map.mp hq
    simp [wh]
  · clear m1 m2 m3 mem last hw len ml hm hr hrow hx hxs e9 e8 e7 e2
    exact runFn_at (Z := td) (e1 := aE (.sh (wsD ws)) (.sh (nD n)) (.sh (.lst (row.map .str))) (.sh (.lst ((List.range n).map fun k => pD (wh row k)))) (.ow 1 (.lst [])) (.sh (.lst (mixed.map nD))) (.sh (qsD (menL row mixed))) (.sh (qsD Q))) (aE (.sh (wsD ws)) .no .no .no .no .no .no .no) rfl
      (scons_nx (Z := td) (sset_at (e2 := aE (.sh (wsD ws)) (.sh (nD n)) .no .no .no .no .no .no) e1 rfl)
      (scons_nx (Z := td) (sset_at (e2 := aE (.sh (wsD ws)) (.sh (nD n)) (.sh (.lst (row.map .str))) .no .no .no .no .no) e3 rfl)
      (scons_nx (Z := td) (sset_at (e2 := aE (.sh (wsD ws)) (.sh (nD n)) (.sh (.lst (row.map .str))) (.sh (.lst ((List.range n).map fun k => pD (wh row k)))) .no .no .no .no) e4 rfl)
      (scons_nx (Z := td) e5
      (scons_nx (Z := td) (sset_at (e2 := aE (.sh (wsD ws)) (.sh (nD n)) (.sh (.lst (row.map .str))) (.sh (.lst ((List.range n).map fun k => pD (wh row k)))) (.ow 1 (.lst [])) (.sh (.lst (mixed.map nD))) .no .no) e6 rfl)
      (scons_nx (Z := td) (sset_at (e2 := aE (.sh (wsD ws)) (.sh (nD n)) (.sh (.lst (row.map .str))) (.sh (.lst ((List.range n).map fun k => pD (wh row k)))) (.ow 1 (.lst [])) (.sh (.lst (mixed.map nD))) (.sh (qsD (menL row mixed))) .no) e7' rfl)
      (scons_nx (Z := td) (sset_at (e2 := aE (.sh (wsD ws)) (.sh (nD n)) (.sh (.lst (row.map .str))) (.sh (.lst ((List.range n).map fun k => pD (wh row k)))) (.ow 1 (.lst [])) (.sh (.lst (mixed.map nD))) (.sh (qsD (menL row mixed))) (.sh (qsD Q))) e8' rfl)
      (sret_ev (Z := td) e10))))))))
end K91

namespace K91
open PySem L2 DL

abbrev nE (WS Q B O A W P : D) : List Sl := [.sh .tape, .sh WS, .sh Q, .sh B, .sh O, .sh A, .sh W, .sh P]
def repl (B : List Qu) (a : Nat) (p : Qu) : List Qu := B.take a ++ [p] ++ B.drop (a + 1)
theorem q_take (B : List Qu) (a : Nat) : sliceD (qsD B) none (some (a : Int)) = some (qsD (B.take a)) := by
  unfold qsD; rw [sl_take, List.map_take]
theorem q_drop (B : List Qu) (a : Nat) : sliceD (qsD B) (some (a : Int)) none = some (qsD (B.drop a)) := by
  unfold qsD; rw [sl_from, List.map_drop]
theorem o_take (B : List Nat) (a : Nat) : sliceD (isD B) none (some (a : Int)) = some (isD (B.take a)) := by
  unfold isD; rw [sl_take, List.map_take]
theorem o_drop (B : List Nat) (a : Nat) : sliceD (isD B) (some (a : Int)) none = some (isD (B.drop a)) := by
  unfold isD; rw [sl_from, List.map_drop]
theorem q_add {A B : List Qu} (h : A.length + B.length ≤ 1000) : addD (qsD A) (qsD B) = some (qsD (A ++ B)) := by
  unfold qsD; rw [add_tup (by simpa using h), List.map_append]
theorem o_add {A B : List Nat} (h : A.length + B.length ≤ 1000) : addD (isD A) (isD B) = some (isD (A ++ B)) := by
  unfold isD; rw [add_tup (by simpa using h), List.map_append]
theorem q_one {A : List Qu} {p : Qu} (h : A.length ≤ 900) : addD (qsD A) (.tup [pD p]) = some (qsD (A ++ [p])) := q_add (B := [p]) (by simp; omega)
structure GoodB (n : Nat) (B : List Qu) : Prop where
  ok : Oks B
  len : B.length = n
structure GoodO (n : Nat) (o : List Nat) : Prop where
  ok : ∀ k ∈ o, k < n
  len : o.length ≤ 7
theorem GoodB.repl {n a : Nat} {B : List Qu} {p : Qu} (h : GoodB n B) (ha : a < n) (hp : Okp p) : GoodB n (repl B a p) := by
  refine ⟨fun q hq => ?_, ?_⟩
  · unfold K91.repl at hq
    rcases List.mem_append.mp hq with hq | hq
    · rcases List.mem_append.mp hq with hq | hq
      · exact h.ok q (List.mem_of_mem_take hq)
      · rw [List.mem_singleton.mp hq]; exact hp
    · exact h.ok q (List.mem_of_mem_drop hq)
  · have := h.len
    unfold K91.repl
    simp only [List.length_append, List.length_take, List.length_drop, List.length_cons, List.length_nil]
    omega
theorem GoodO.cut {n a : Nat} {o : List Nat} (h : GoodO n o) : GoodO n (o.take a ++ o.drop (a + 1)) := by
  refine ⟨fun k hk => ?_, ?_⟩
  · rcases List.mem_append.mp hk with hk | hk
    · exact h.ok k (List.mem_of_mem_take hk)
    · exact h.ok k (List.mem_of_mem_drop hk)
  · have := h.len
    simp only [List.length_append, List.length_take, List.length_drop]
    omega
theorem GoodO.rot {n a : Nat} {o : List Nat} (h : GoodO n o) : GoodO n (o.drop a ++ o.take a) := by
  refine ⟨fun k hk => ?_, ?_⟩
  · rcases List.mem_append.mp hk with hk | hk
    · exact h.ok k (List.mem_of_mem_drop hk)
    · exact h.ok k (List.mem_of_mem_take hk)
  · have := h.len
    simp only [List.length_append, List.length_take, List.length_drop]
    omega
theorem repl_facts {n a : Nat} {B : List Qu} (h : GoodB n B) (hn : n ≤ 7) (p : Qu) : sliceD (qsD B) none (some (a : Int)) = some (qsD (B.take a)) ∧ addD (.int (a : Int)) (.int 1) = some (.int ((a + 1 : Nat) : Int)) ∧ sliceD (qsD B) (some ((a + 1 : Nat) : Int)) none = some (qsD (B.drop (a + 1))) ∧ addD (qsD (B.take a)) (.tup [pD p]) = some (qsD (B.take a ++ [p])) ∧ addD (qsD (B.take a ++ [p])) (qsD (B.drop (a + 1))) = some (qsD (repl B a p)) := by
  have := h.len
  refine ⟨q_take B a, by simp [addD], q_drop B (a + 1), q_one (by rw [List.length_take]; omega), q_add ?_⟩
  simp only [List.length_append, List.length_take, List.length_drop, List.length_cons, List.length_nil]
  omega
abbrev sb1 : SM td := (sif (asB (mop ltD (.v 6) (.e (mcst (.int 3))))) (sset 3 (mop addD (.e (mop addD (.e (mslice sliceD (.v 3) onone (osome (mvar 5)))) (.e (mtup (mcons (mvar 7) mnil))))) (.e (mslice sliceD (.v 3) (osome (mop addD (.v 5) (.e (mcst (.int 1))))) onone)))) snil)
abbrev sb2 : SM td := (sif (asB (mop eqD (.v 6) (.e (mcst (.int 3))))) (sset 3 (mop addD (.e (mop addD (.e (mslice sliceD (.v 3) onone (osome (mvar 5)))) (.e (mtup (mcons (mtup (mcons (mcall 2 f__law_pick (mcons (mvar 0) (mcons (mvar 1) mnil))) (mcons (mop idxD (.e (mop idxD (.v 3) (.v 5))) (.e (mcst (.int 1)))) mnil))) mnil))))) (.e (mslice sliceD (.v 3) (osome (mop addD (.v 5) (.e (mcst (.int 1))))) onone)))) snil)
abbrev sb3 : SM td := (sif (asB (mop eqD (.v 6) (.e (mcst (.int 4))))) (sset 3 (mop addD (.e (mop addD (.e (mslice sliceD (.v 3) onone (osome (mvar 5)))) (.e (mtup (mcons (mop idxD (.v 2) (.v 5)) mnil))))) (.e (mslice sliceD (.v 3) (osome (mop addD (.v 5) (.e (mcst (.int 1))))) onone)))) snil)
abbrev sb4 : SM td := (sif (asB (mop eqD (.v 6) (.e (mcst (.int 5))))) (sset 4 (mop addD (.e (mslice sliceD (.v 4) onone (osome (mvar 5)))) (.e (mslice sliceD (.v 4) (osome (mop addD (.v 5) (.e (mcst (.int 1))))) onone)))) snil)
abbrev sb5 : SM td := (sif (asB (mop eqD (.v 6) (.e (mcst (.int 6))))) (sset 4 (mop addD (.e (mslice sliceD (.v 4) (osome (mvar 5)) onone)) (.e (mslice sliceD (.v 4) onone (osome (mvar 5)))))) snil)
abbrev sb6 : SM td := (sif (asB (mop eqD (.v 6) (.e (mcst (.int 7))))) (sset 3 (mop addD (.v 3) (.e (mslice sliceD (.v 3) onone (osome (mcst (.int 1))))))) snil)
theorem way_lt (w : Nat) : ∃ b, ltD (nD w) (.int 3) = some (.bl b) := ⟨_, lt_nat w 3⟩
theorem way_eq (w k : Nat) : ∃ b, eqD (nD w) (.int (k : Int)) = some (.bl b) := ⟨_, eq_nat w k⟩
section
variable {n a w : Nat} {B : List Qu} {o : List Nat} {WS QQ P : D}
theorem bent_1 (h : GoodB n B) (hn : n ≤ 7) (ha : a < n) (p : Qu) (hp : Okp p) (t : Td) : ∃ B', GoodB n B' ∧ sb1 (nE WS QQ (qsD B) (isD o) (nD a) (nD w) (pD p)) t = some (.nx, nE WS QQ (qsD B') (isD o) (nD a) (nD w) (pD p), t) := by
  obtain ⟨b, e⟩ := way_lt w
  obtain ⟨f1, f2, f3, f4, f5⟩ := repl_facts (a := a) h hn p
  cases b with
  | false =>
    refine ⟨B, h, ?_⟩
    generalize nD w = W at e ⊢
    unfold sb1 nE
    simp [mop, ev2, ev1, evA, getA, look, slotOk, mcst, mvar, asB, mlst, mtup, mcons, mnil, mfn, mfnL, evN, evAs, getAs, mite, band, bor, bnot, mand, mor, mnot, mcall, iseq, irange1, irange2, sset, ssetO, sret, sdrop, snil, sif, gset, mmut, isL1, ssub, spar, evOs, setSls, slOf, sasg, gtup, gcons, gnil, mslice, osome, onone, mopL, mlensetA, misinst, mmt, kindD, saug, byes, e]
  | true =>
    refine ⟨repl B a p, h.repl ha hp, ?_⟩
    show sb1 (nE WS QQ (qsD B) (isD o) (.int (a : Int)) (nD w) (pD p)) t = some (.nx, nE WS QQ (qsD (repl B a p)) (isD o) (.int (a : Int)) (nD w) (pD p), t)
    generalize nD w = W at e ⊢
    generalize ((a + 1 : Nat) : Int) = a1 at f2 f3
    generalize (a : Int) = a0 at f1 f2 ⊢
    generalize qsD (repl B a p) = R at f5 ⊢
    generalize qsD (B.take a ++ [p]) = R1 at f4 f5
    generalize qsD (B.take a) = R2 at f1 f4
    generalize qsD (B.drop (a + 1)) = R3 at f3 f5
    generalize qsD B = BB at f1 f3 ⊢
    generalize pD p = PP at f4 ⊢
    generalize isD o = O
    unfold sb1 nE
    simp [mop, ev2, ev1, evA, getA, look, slotOk, mcst, mvar, asB, mlst, mtup, mcons, mnil, mfn, mfnL, evN, evAs, getAs, mite, band, bor, bnot, mand, mor, mnot, mcall, iseq, irange1, irange2, sset, ssetO, sret, sdrop, snil, sif, gset, mmut, isL1, ssub, spar, evOs, setSls, slOf, sasg, gtup, gcons, gnil, mslice, osome, onone, mopL, mlensetA, misinst, mmt, kindD, saug, byes, e, f1, f2, f3, f4, f5]
theorem bent_2 {ws : List Str} (hw : Wds ws) (h : GoodB n B) (hn : n ≤ 7) (ha : a < n) (t : Td) : ∃ B' t', GoodB n B' ∧ sb2 (nE (wsD ws) QQ (qsD B) (isD o) (nD a) (nD w) P) t = some (.nx, nE (wsD ws) QQ (qsD B') (isD o) (nD a) (nD w) P, t') := by
  obtain ⟨b, e⟩ := way_eq w 3
  have e : eqD (nD w) (.int 3) = some (.bl b) := e
  obtain ⟨x, t', pk, hx⟩ := pick_ws hw t
  have len := h.len
  have i1 := q_ix (Q := B) (k := a) (by omega)
  have i2 := p1 (qk B a)
  obtain ⟨f1, f2, f3, f4, f5⟩ := repl_facts (a := a) h hn (x, (qk B a).2)
  cases b with
  | false =>
    refine ⟨B, t, h, ?_⟩
    generalize nD w = W at e ⊢
    unfold sb2 nE
    simp [mop, ev2, ev1, evA, getA, look, slotOk, mcst, mvar, asB, mlst, mtup, mcons, mnil, mfn, mfnL, evN, evAs, getAs, mite, band, bor, bnot, mand, mor, mnot, mcall, iseq, irange1, irange2, sset, ssetO, sret, sdrop, snil, sif, gset, mmut, isL1, ssub, spar, evOs, setSls, slOf, sasg, gtup, gcons, gnil, mslice, osome, onone, mopL, mlensetA, misinst, mmt, kindD, saug, byes, e]
  | true =>
    refine ⟨repl B a (x, (qk B a).2), t', h.repl ha ⟨hw.ok _ hx, (h.ok _ (qk_mem (by omega))).c⟩, ?_⟩
    show sb2 (nE (wsD ws) QQ (qsD B) (isD o) (.int (a : Int)) (nD w) P) t = some (.nx, nE (wsD ws) QQ (qsD (repl B a (x, (qk B a).2))) (isD o) (.int (a : Int)) (nD w) P, t')
    have f4 : addD (qsD (B.take a)) (.tup [.tup [.str x, oS (qk B a).2]]) = some (qsD (B.take a ++ [(x, (qk B a).2)])) := f4
    have i1 : idxD (qsD B) (.int (a : Int)) = some (pD (qk B a)) := i1
    generalize wsD ws = WW at pk ⊢
    generalize nD w = W at e ⊢
    generalize ((a + 1 : Nat) : Int) = a1 at f2 f3
    generalize (a : Int) = a0 at f1 f2 i1 ⊢
    generalize qsD (repl B a (x, (qk B a).2)) = R at f5 ⊢
    generalize qsD (B.take a ++ [(x, (qk B a).2)]) = R1 at f4 f5
    generalize qsD (B.take a) = R2 at f1 f4
    generalize qsD (B.drop (a + 1)) = R3 at f3 f5
    generalize qsD B = BB at f1 f3 i1 ⊢
    generalize pD (qk B a) = PP at i1 i2
    generalize oS (qk B a).2 = OO at i2 f4
    generalize D.str x = XX at pk f4
    generalize isD o = O
    unfold sb2 nE
    obtain ⟨F, hF⟩ : ∃ z, z = f__law_pick := ⟨_, rfl⟩
    rw [← hF] at pk ⊢
    clear hF
    simp [mop, ev2, ev1, evA, getA, look, slotOk, mcst, mvar, asB, mlst, mtup, mcons, mnil, mfn, mfnL, evN, evAs, getAs, mite, band, bor, bnot, mand, mor, mnot, mcall, iseq, irange1, irange2, sset, ssetO, sret, sdrop, snil, sif, gset, mmut, isL1, ssub, spar, evOs, setSls, slOf, sasg, gtup, gcons, gnil, mslice, osome, onone, mopL, mlensetA, misinst, mmt, kindD, saug, byes, e, pk, i1, i2, f1, f2, f3, f4, f5]
theorem bent_3 {Q : List Qu} (hQ : Oks Q) (hl : Q.length = n) (h : GoodB n B) (hn : n ≤ 7) (ha : a < n) (t : Td) : ∃ B', GoodB n B' ∧ sb3 (nE WS (qsD Q) (qsD B) (isD o) (nD a) (nD w) P) t = some (.nx, nE WS (qsD Q) (qsD B') (isD o) (nD a) (nD w) P, t) := by
  obtain ⟨b, e⟩ := way_eq w 4
  have e : eqD (nD w) (.int 4) = some (.bl b) := e
  have i1 := q_ix (Q := Q) (k := a) (by omega)
  obtain ⟨f1, f2, f3, f4, f5⟩ := repl_facts (a := a) h hn (qk Q a)
  cases b with
  | false =>
    refine ⟨B, h, ?_⟩
    generalize nD w = W at e ⊢
    unfold sb3 nE
    simp [mop, ev2, ev1, evA, getA, look, slotOk, mcst, mvar, asB, mlst, mtup, mcons, mnil, mfn, mfnL, evN, evAs, getAs, mite, band, bor, bnot, mand, mor, mnot, mcall, iseq, irange1, irange2, sset, ssetO, sret, sdrop, snil, sif, gset, mmut, isL1, ssub, spar, evOs, setSls, slOf, sasg, gtup, gcons, gnil, mslice, osome, onone, mopL, mlensetA, misinst, mmt, kindD, saug, byes, e]
  | true =>
    refine ⟨repl B a (qk Q a), h.repl ha (hQ _ (qk_mem (by omega))), ?_⟩
    show sb3 (nE WS (qsD Q) (qsD B) (isD o) (.int (a : Int)) (nD w) P) t = some (.nx, nE WS (qsD Q) (qsD (repl B a (qk Q a))) (isD o) (.int (a : Int)) (nD w) P, t)
    have i1 : idxD (qsD Q) (.int (a : Int)) = some (pD (qk Q a)) := i1
    generalize nD w = W at e ⊢
    generalize ((a + 1 : Nat) : Int) = a1 at f2 f3
    generalize (a : Int) = a0 at f1 f2 i1 ⊢
    generalize qsD (repl B a (qk Q a)) = R at f5 ⊢
    generalize qsD (B.take a ++ [qk Q a]) = R1 at f4 f5
    generalize qsD (B.take a) = R2 at f1 f4
    generalize qsD (B.drop (a + 1)) = R3 at f3 f5
    generalize qsD B = BB at f1 f3 ⊢
    generalize qsD Q = QQ at i1 ⊢
    generalize pD (qk Q a) = PP at i1 f4
    generalize isD o = O
    unfold sb3 nE
    simp [mop, ev2, ev1, evA, getA, look, slotOk, mcst, mvar, asB, mlst, mtup, mcons, mnil, mfn, mfnL, evN, evAs, getAs, mite, band, bor, bnot, mand, mor, mnot, mcall, iseq, irange1, irange2, sset, ssetO, sret, sdrop, snil, sif, gset, mmut, isL1, ssub, spar, evOs, setSls, slOf, sasg, gtup, gcons, gnil, mslice, osome, onone, mopL, mlensetA, misinst, mmt, kindD, saug, byes, e, i1, f1, f2, f3, f4, f5]
theorem bent_4 {M : D} (h : GoodO n o) (hn : n ≤ 7) (t : Td) : ∃ o', GoodO n o' ∧ sb4 (nE WS QQ M (isD o) (nD a) (nD w) P) t = some (.nx, nE WS QQ M (isD o') (nD a) (nD w) P, t) := by
  obtain ⟨b, e⟩ := way_eq w 5
  have e : eqD (nD w) (.int 5) = some (.bl b) := e
  have len := h.len
  have f1 := o_take o a
  have f2 : addD (.int (a : Int)) (.int 1) = some (.int ((a + 1 : Nat) : Int)) := by simp [addD]
  have f3 := o_drop o (a + 1)
  have f4 := o_add (A := o.take a) (B := o.drop (a + 1)) (by rw [List.length_take, List.length_drop]; omega)
  cases b with
  | false =>
    refine ⟨o, h, ?_⟩
    generalize nD w = W at e ⊢
    unfold sb4 nE
    simp [mop, ev2, ev1, evA, getA, look, slotOk, mcst, mvar, asB, mlst, mtup, mcons, mnil, mfn, mfnL, evN, evAs, getAs, mite, band, bor, bnot, mand, mor, mnot, mcall, iseq, irange1, irange2, sset, ssetO, sret, sdrop, snil, sif, gset, mmut, isL1, ssub, spar, evOs, setSls, slOf, sasg, gtup, gcons, gnil, mslice, osome, onone, mopL, mlensetA, misinst, mmt, kindD, saug, byes, e]
  | true =>
    refine ⟨o.take a ++ o.drop (a + 1), h.cut, ?_⟩
    show sb4 (nE WS QQ M (isD o) (.int (a : Int)) (nD w) P) t = some (.nx, nE WS QQ M (isD (o.take a ++ o.drop (a + 1))) (.int (a : Int)) (nD w) P, t)
    generalize nD w = W at e ⊢
    generalize ((a + 1 : Nat) : Int) = a1 at f2 f3
    generalize (a : Int) = a0 at f1 f2 ⊢
    generalize isD (o.take a ++ o.drop (a + 1)) = R at f4 ⊢
    generalize isD (o.take a) = R1 at f1 f4
    generalize isD (o.drop (a + 1)) = R2 at f3 f4
    generalize isD o = O at f1 f3 ⊢
    unfold sb4 nE
    simp [mop, ev2, ev1, evA, getA, look, slotOk, mcst, mvar, asB, mlst, mtup, mcons, mnil, mfn, mfnL, evN, evAs, getAs, mite, band, bor, bnot, mand, mor, mnot, mcall, iseq, irange1, irange2, sset, ssetO, sret, sdrop, snil, sif, gset, mmut, isL1, ssub, spar, evOs, setSls, slOf, sasg, gtup, gcons, gnil, mslice, osome, onone, mopL, mlensetA, misinst, mmt, kindD, saug, byes, e, f1, f2, f3, f4]
theorem bent_5 {M : D} (h : GoodO n o) (hn : n ≤ 7) (t : Td) : ∃ o', GoodO n o' ∧ sb5 (nE WS QQ M (isD o) (nD a) (nD w) P) t = some (.nx, nE WS QQ M (isD o') (nD a) (nD w) P, t) := by
  obtain ⟨b, e⟩ := way_eq w 6
  have e : eqD (nD w) (.int 6) = some (.bl b) := e
  have len := h.len
  have f1 := o_take o a
  have f3 := o_drop o a
  have f4 := o_add (A := o.drop a) (B := o.take a) (by rw [List.length_take, List.length_drop]; omega)
  cases b with
  | false =>
    refine ⟨o, h, ?_⟩
    generalize nD w = W at e ⊢
    unfold sb5 nE
    simp [mop, ev2, ev1, evA, getA, look, slotOk, mcst, mvar, asB, mlst, mtup, mcons, mnil, mfn, mfnL, evN, evAs, getAs, mite, band, bor, bnot, mand, mor, mnot, mcall, iseq, irange1, irange2, sset, ssetO, sret, sdrop, snil, sif, gset, mmut, isL1, ssub, spar, evOs, setSls, slOf, sasg, gtup, gcons, gnil, mslice, osome, onone, mopL, mlensetA, misinst, mmt, kindD, saug, byes, e]
  | true =>
    refine ⟨o.drop a ++ o.take a, h.rot, ?_⟩
    show sb5 (nE WS QQ M (isD o) (.int (a : Int)) (nD w) P) t = some (.nx, nE WS QQ M (isD (o.drop a ++ o.take a)) (.int (a : Int)) (nD w) P, t)
    generalize nD w = W at e ⊢
    generalize (a : Int) = a0 at f1 f3 ⊢
    generalize isD (o.drop a ++ o.take a) = R at f4 ⊢
    generalize isD (o.take a) = R1 at f1 f4
    generalize isD (o.drop a) = R2 at f3 f4
    generalize isD o = O at f1 f3 ⊢
    unfold sb5 nE
    simp [mop, ev2, ev1, evA, getA, look, slotOk, mcst, mvar, asB, mlst, mtup, mcons, mnil, mfn, mfnL, evN, evAs, getAs, mite, band, bor, bnot, mand, mor, mnot, mcall, iseq, irange1, irange2, sset, ssetO, sret, sdrop, snil, sif, gset, mmut, isL1, ssub, spar, evOs, setSls, slOf, sasg, gtup, gcons, gnil, mslice, osome, onone, mopL, mlensetA, misinst, mmt, kindD, saug, byes, e, f1, f3, f4]
theorem bent_6 (h : GoodB n B) (hn : n ≤ 7) (A : D) (t : Td) : ∃ B', Oks B' ∧ (n ≤ B'.length ∧ B'.length ≤ 8) ∧ sb6 (nE WS QQ (qsD B) (isD o) A (nD w) P) t = some (.nx, nE WS QQ (qsD B') (isD o) A (nD w) P, t) := by
  obtain ⟨b, e⟩ := way_eq w 7
  have e : eqD (nD w) (.int 7) = some (.bl b) := e
  have len := h.len
  have f1 : sliceD (qsD B) none (some 1) = some (qsD (B.take 1)) := q_take B 1
  have f4 := q_add (A := B) (B := B.take 1) (by rw [List.length_take]; omega)
  cases b with
  | false =>
    refine ⟨B, h.ok, by omega, ?_⟩
    generalize nD w = W at e ⊢
    unfold sb6 nE
    simp [mop, ev2, ev1, evA, getA, look, slotOk, mcst, mvar, asB, mlst, mtup, mcons, mnil, mfn, mfnL, evN, evAs, getAs, mite, band, bor, bnot, mand, mor, mnot, mcall, iseq, irange1, irange2, sset, ssetO, sret, sdrop, snil, sif, gset, mmut, isL1, ssub, spar, evOs, setSls, slOf, sasg, gtup, gcons, gnil, mslice, osome, onone, mopL, mlensetA, misinst, mmt, kindD, saug, byes, e]
  | true =>
    refine ⟨B ++ B.take 1, fun q hq => ?_, by rw [List.length_append, List.length_take]; omega, ?_⟩
    · rcases List.mem_append.mp hq with hq | hq
      · exact h.ok q hq
      · exact h.ok q (List.mem_of_mem_take hq)
    · generalize nD w = W at e ⊢
      generalize qsD (B ++ B.take 1) = R at f4 ⊢
      generalize qsD (B.take 1) = R1 at f1 f4
      generalize qsD B = BB at f1 f4 ⊢
      generalize isD o = O
      unfold sb6 nE
      simp [mop, ev2, ev1, evA, getA, look, slotOk, mcst, mvar, asB, mlst, mtup, mcons, mnil, mfn, mfnL, evN, evAs, getAs, mite, band, bor, bnot, mand, mor, mnot, mcall, iseq, irange1, irange2, sset, ssetO, sret, sdrop, snil, sif, gset, mmut, isL1, ssub, spar, evOs, setSls, slOf, sasg, gtup, gcons, gnil, mslice, osome, onone, mopL, mlensetA, misinst, mmt, kindD, saug, byes, e, f1, f4]
end
/-! ### the draws at its head -/
theorem bent_at {WS QQ M O : D} {Q : List Qu} (hq : QQ = qsD Q) (h1 : 1 ≤ Q.length) (h8 : Q.length ≤ 8) {s6 s7 : Sl} (t : Td) : ∃ (a : Nat) (t' : Td), a < Q.length ∧ mcall 2 f__law_next (mcons (mvar 0) (mcons (mfn len1 [(.v 2)]) mnil)) [.sh .tape, .sh WS, .sh QQ, .sh M, .sh O, .no, s6, s7] t = some (nD a, [.sh .tape, .sh WS, .sh QQ, .sh M, .sh O, .no, s6, s7], t') := by
  obtain ⟨a, t', e, ha⟩ := next_ex Q.length (by omega) (by omega) t
  have l := q_len Q
  rw [← hq] at l
  refine ⟨a, t', ha, ?_⟩
  generalize nD Q.length = L at l e
  generalize nD a = A at e ⊢
  obtain ⟨F, hF⟩ : ∃ z, z = f__law_next := ⟨_, rfl⟩
  rw [← hF] at e ⊢
  clear hF
  simp [mop, ev2, ev1, evA, getA, look, slotOk, mcst, mvar, asB, mlst, mtup, mcons, mnil, mfn, mfnL, evN, evAs, getAs, mite, band, bor, bnot, mand, mor, mnot, mcall, iseq, irange1, irange2, sset, ssetO, sret, sdrop, snil, sif, gset, mmut, isL1, ssub, spar, evOs, setSls, slOf, sasg, gtup, gcons, gnil, mslice, osome, onone, mopL, mlensetA, misinst, mmt, kindD, saug, byes, e, l]
theorem bent_way {e : List Sl} (h0 : e[0]? = some (.sh .tape)) (t : Td) : ∃ (w : Nat) (t' : Td), mcall 2 f__law_next (mcons (mvar 0) (mcons (mcst (.int 8)) mnil)) e t = some (nD w, e, t') := by
  obtain ⟨w, t', q, _⟩ := next_ex 8 (by omega) (by omega) t
  have q : f__law_next [.tape, .int 8] t = some (nD w, t') := q
  refine ⟨w, t', ?_⟩
  generalize nD w = A at q ⊢
  obtain ⟨F, hF⟩ : ∃ z, z = f__law_next := ⟨_, rfl⟩
  rw [← hF] at q ⊢
  clear hF
  simp [mop, ev2, ev1, evA, getA, look, slotOk, mcst, mvar, asB, mlst, mtup, mcons, mnil, mfn, mfnL, evN, evAs, getAs, mite, band, bor, bnot, mand, mor, mnot, mcall, iseq, irange1, irange2, sset, ssetO, sret, sdrop, snil, sif, gset, mmut, isL1, ssub, spar, evOs, setSls, slOf, sasg, gtup, gcons, gnil, mslice, osome, onone, mopL, mlensetA, misinst, mmt, kindD, saug, byes, q, h0]
theorem pick_ws2 {ws : List Str} (h : Wds ws) (t : Td) : ∃ (x : Str) (t' : Td), f__law_pick [.tape, .lst ((ws ++ ([("" : Str), "zz"] : List Str)).map .str)] t = some (.str x, t') ∧ (x = "" ∨ x ∈ words6) := by
  obtain ⟨d, t', e, hd⟩ := pick_any (.lst ((ws ++ ([("" : Str), "zz"] : List Str)).map .str)) ((ws ++ ([("" : Str), "zz"] : List Str)).map .str) (.inl rfl) (by simp) (by simp; have := h.sm; omega) t
  obtain ⟨x, hx, rfl⟩ := List.mem_map.mp hd
  refine ⟨x, t', e, ?_⟩
  rcases List.mem_append.mp hx with hx | hx
  · exact .inr (h.ok x hx)
  · simp only [List.mem_cons, List.not_mem_nil, or_false] at hx
    rcases hx with rfl | rfl
    · exact .inl rfl
    · exact .inr (by decide +kernel)
theorem bent_pair {QQ O W : D} {ws : List Str} {M : List Qu} {a : Nat} (hw : Wds ws) (hM : Oks M) (ha : a < M.length) {s7 : Sl} (t : Td) : ∃ (p : Qu) (t' : Td), Okp p ∧ mtup (mcons (mop idxD (.e (mop idxD (.v 3) (.v 5))) (.e (mcst (.int 0)))) (mcons (mcall 2 f__law_pick (mcons (mvar 0) (mcons (mop addD (.v 1) (.e (mlst (mcons (mcst (.str "")) (mcons (mcst (.str "zz")) mnil))))) mnil))) mnil)) [.sh .tape, .sh (wsD ws), .sh QQ, .sh (qsD M), .sh O, .sh (nD a), .sh W, s7] t = some (pD p, [.sh .tape, .sh (wsD ws), .sh QQ, .sh (qsD M), .sh O, .sh (nD a), .sh W, s7], t') := by
  obtain ⟨x, t', pk, hx⟩ := pick_ws2 hw t
  have i1 := q_ix ha
  have i2 := p0 (qk M a)
  have ad : addD (wsD ws) (.lst [.str "", .str "zz"]) = some (.lst ((ws ++ ([("" : Str), "zz"] : List Str)).map .str)) := by
    have := hw.sm
    rw [add_lst (by simp; omega), List.map_append]; rfl
  refine ⟨((qk M a).1, some x), t', ⟨(hM _ (qk_mem ha)).f, fun y hy => by cases hy; exact hx⟩, ?_⟩
  show _ = some (D.tup [.str (qk M a).1, .str x], _, t')
  generalize D.lst ((ws ++ ([("" : Str), "zz"] : List Str)).map .str) = L at pk ad
  generalize wsD ws = WW at ad ⊢
  generalize D.str x = X at pk ⊢
  generalize D.str (qk M a).1 = Y at i2 ⊢
  generalize pD (qk M a) = PP at i1 i2
  generalize qsD M = MM at i1 ⊢
  generalize nD a = A at i1 ⊢
  obtain ⟨F, hF⟩ : ∃ z, z = f__law_pick := ⟨_, rfl⟩
  rw [← hF] at pk ⊢
  clear hF
  simp [mop, ev2, ev1, evA, getA, look, slotOk, mcst, mvar, asB, mlst, mtup, mcons, mnil, mfn, mfnL, evN, evAs, getAs, mite, band, bor, bnot, mand, mor, mnot, mcall, iseq, irange1, irange2, sset, ssetO, sret, sdrop, snil, sif, gset, mmut, isL1, ssub, spar, evOs, setSls, slOf, sasg, gtup, gcons, gnil, mslice, osome, onone, mopL, mlensetA, misinst, mmt, kindD, saug, byes, pk, i1, i2, ad]
structure Bent (n : Nat) (B : List Qu) (o : List Nat) : Prop where
  ok : Oks B
  lo : n ≤ B.length
  hi : B.length ≤ 8
  o : GoodO n o
theorem bent_run {ws : List Str} (hw : Wds ws) {Q M : List Qu} {o : List Nat} (h : Made Q M o) (t : Td) : ∃ (B : List Qu) (o' : List Nat) (t' : Td), Bent M.length B o' ∧ f__law_bent [.tape, wsD ws, qsD Q, qsD M, isD o] t = some (.tup [qsD B, isD o'], t') := by
  have n7 := h.n7
  have n1 := h.n1
  have ql := h.w.len
  obtain ⟨a, t1, ha, e1⟩ := bent_at (QQ := qsD Q) (WS := wsD ws) (M := qsD M) (O := isD o) (s6 := .no) (s7 := .no) rfl (by omega) (by omega) t
  obtain ⟨w, t2, e2⟩ := bent_way (e := [.sh .tape, .sh (wsD ws), .sh (qsD Q), .sh (qsD M), .sh (isD o), .sh (nD a), .no, .no]) rfl t1
  obtain ⟨p, t3, hp, e3⟩ := bent_pair (QQ := qsD Q) (O := isD o) (W := nD w) (a := a) hw h.okM (by omega) (s7 := .no) t2
  have g0 : GoodB M.length M := ⟨h.okM, rfl⟩
  have q0 : GoodO M.length o := ⟨h.ob, by rw [h.ol]; omega⟩
  obtain ⟨B1, g1, e4⟩ := bent_1 (WS := wsD ws) (QQ := qsD Q) (o := o) (w := w) g0 n7 (by omega : a < M.length) p hp t3
  obtain ⟨B2, t4, g2, e5⟩ := bent_2 (QQ := qsD Q) (o := o) (w := w) (P := pD p) hw g1 n7 (by omega : a < M.length) t3
  obtain ⟨B3, g3, e6⟩ := bent_3 (WS := wsD ws) (o := o) (w := w) (P := pD p) h.okQ ql g2 n7 (by omega : a < M.length) t4
  obtain ⟨o1, q1, e7⟩ := bent_4 (WS := wsD ws) (QQ := qsD Q) (M := qsD B3) (a := a) (w := w) (P := pD p) q0 n7 t4
  obtain ⟨o2, q2, e8⟩ := bent_5 (WS := wsD ws) (QQ := qsD Q) (M := qsD B3) (a := a) (w := w) (P := pD p) q1 n7 t4
  obtain ⟨B4, g4, ⟨l1, l2⟩, e9⟩ := bent_6 (WS := wsD ws) (QQ := qsD Q) (o := o2) (w := w) (P := pD p) g3 n7 (nD a) t4
  refine ⟨B4, o2, t4, ⟨g4, l1, l2, q2⟩, ?_⟩
  refine runFn_at (Z := td) (e1 := nE (wsD ws) (qsD Q) (qsD B4) (isD o2) (nD a) (nD w) (pD p)) [.sh .tape, .sh (wsD ws), .sh (qsD Q), .sh (qsD M), .sh (isD o), .no, .no, .no] rfl
    (scons_nx (Z := td) (sset_at (e2 := [.sh .tape, .sh (wsD ws), .sh (qsD Q), .sh (qsD M), .sh (isD o), .sh (nD a), .no, .no]) e1 rfl)
    (scons_nx (Z := td) (sset_at (e2 := [.sh .tape, .sh (wsD ws), .sh (qsD Q), .sh (qsD M), .sh (isD o), .sh (nD a), .sh (nD w), .no]) e2 rfl)
    (scons_nx (Z := td) (sset_at (e2 := nE (wsD ws) (qsD Q) (qsD M) (isD o) (nD a) (nD w) (pD p)) e3 rfl)
    (scons_nx (Z := td) e4 (scons_nx (Z := td) e5 (scons_nx (Z := td) e6 (scons_nx (Z := td) e7 (scons_nx (Z := td) e8 (scons_nx (Z := td) e9 (sret_ev (Z := td) ?_))))))))))
  clear e1 e2 e3 e4 e5 e6 e7 e8 e9
  generalize qsD B4 = X1
  generalize isD o2 = X2
  generalize qsD Q = X3
  generalize nD a = X4
  generalize nD w = X5
  generalize pD p = X6
  generalize wsD ws = X7
  unfold nE
  simp [mop, ev2, ev1, evA, getA, look, slotOk, mcst, mvar, asB, mlst, mtup, mcons, mnil, mfn, mfnL, evN, evAs, getAs, mite, band, bor, bnot, mand, mor, mnot, mcall, iseq, irange1, irange2, sset, ssetO, sret, sdrop, snil, sif, gset, mmut, isL1, ssub, spar, evOs, setSls, slOf, sasg, gtup, gcons, gnil, mslice, osome, onone, mopL, mlensetA, misinst, mmt, kindD, saug, byes]
end K91

namespace K91
open PySem L2 DL

def rights : List D := [.tup [.tup [.str "a", .non]], .tup (repD 40 [.tup [.str "a", .str ""]]), .tup [.tup [.str "a", .str "b"], .tup [.str "abcdefghijklmnop", .non]]]
def wrongs : List D := [.non, .tup [], .lst [.tup [.str "a", .str "b"]], .tup [.tup [.str "a"]], .tup [.tup [.str "", .str "b"]], .tup [.tup [.non, .str "b"]], .tup [.tup [.str "a", .str "B"]], .tup [.tup [.str "a", .int 0]], .tup [.lst [.str "a", .str "b"]], .tup (repD 41 [.tup [.str "a", .non]]), .tup [.str "ab"], .dic [] []]
theorem worn_right (t : Td) : ∀ d ∈ rights, f_is_worn [d] t = some (.bl true, t) := by
  intro d hd
  simp only [rights, List.mem_cons, List.not_mem_nil, or_false] at hd
  rcases hd with rfl | rfl | rfl <;> rfl
theorem worn_wrong (t : Td) : ∀ d ∈ wrongs, f_is_worn [d] t = some (.bl false, t) := by
  intro d hd
  simp only [wrongs, List.mem_cons, List.not_mem_nil, or_false] at hd
  rcases hd with rfl | rfl | rfl | rfl | rfl | rfl | rfl | rfl | rfl | rfl | rfl | rfl <;> rfl
/-! ### the loops -/
abbrev dE (Q M O : D) (s3 s4 s5 : Sl) : List Sl := [.sh Q, .sh M, .sh O, s3, s4, s5, .no]
theorem isnt_ff : isntBD (.bl false) (.bl false) = some (.bl false) := rfl
theorem odd_3 {Q M : List Qu} {o : List Nat} {s3 : Sl} (t : Td) (h : ∀ d ∈ oddOrds (isD o) (qsD M) (o.map nD) (M.map pD), f_accepts_ordered [qsD Q, d] t = some (.bl false, t)) : ∃ s, l__law_odd_3 (dE (qsD Q) (qsD M) (isD o) s3 .no .no) t = some (.nx, dE (qsD Q) (qsD M) (isD o) s .no .no, t) := by
  obtain ⟨e', t', l1, rfl, s, rfl⟩ := forL_nx (Z := td) (g := gset 3) (b := lb__law_odd_3) (ds := oddOrds (isD o) (qsD M) (o.map nD) (M.map pD)) (e := dE (qsD Q) (qsD M) (isD o) s3 .no .no) (t := t)
    (fun i e t1 => t1 = t ∧ ∃ s, e = dE (qsD Q) (qsD M) (isD o) s .no .no) ⟨rfl, _, rfl⟩ fun i d e t1 hd hi => by
      obtain ⟨rfl, s, rfl⟩ := hi
      have f := h d (List.mem_of_getElem? hd)
      refine ⟨dE (qsD Q) (qsD M) (isD o) (.sh d) .no .no, rfl, .nx, dE (qsD Q) (qsD M) (isD o) (.sh d) .no .no, t1, ?_, .inl rfl, rfl, _, rfl⟩
      generalize qsD Q = QQ at f ⊢
      generalize qsD M = MM
      generalize isD o = O
      unfold lb__law_odd_3 dE
      have n := isnt_ff
      obtain ⟨F, hF⟩ : ∃ z, z = f_accepts_ordered := ⟨_, rfl⟩
      rw [← hF] at f ⊢
      clear hF
      simp [mop, ev2, ev1, evA, getA, look, slotOk, mcst, mvar, asB, mlst, mtup, mcons, mnil, mfn, mfnL, evN, evAs, getAs, mite, band, bor, bnot, mand, mor, mnot, mcall, iseq, irange1, irange2, sset, ssetO, sret, sdrop, snil, sif, gset, mmut, isL1, ssub, spar, evOs, setSls, slOf, sasg, gtup, gcons, gnil, mslice, osome, onone, mopL, mlensetA, misinst, mmt, kindD, saug, byes, f, n]
  refine ⟨s, ?_⟩
  unfold l__law_odd_3
  refine sfor_nx (Z := td) (e1 := dE (qsD Q) (qsD M) (isD o) s3 .no .no) (t1 := t') (ds := oddOrds (isD o) (qsD M) (o.map nD) (M.map pD)) ?_ l1
  have a1 : list1 [isD o] = some (o.map nD) := rfl
  have a2 : list1 [qsD M] = some (M.map pD) := rfl
  clear l1 h
  generalize o.map nD = OL at a1 ⊢
  generalize M.map pD = ML at a2 ⊢
  generalize qsD Q = QQ
  generalize qsD M = MM at a2 ⊢
  generalize isD o = O at a1 ⊢
  unfold oddOrds dE
  simp [mop, ev2, ev1, evA, getA, look, slotOk, mcst, mvar, asB, mlst, mtup, mcons, mnil, mfn, mfnL, evN, evAs, getAs, mite, band, bor, bnot, mand, mor, mnot, mcall, iseq, irange1, irange2, sset, ssetO, sret, sdrop, snil, sif, gset, mmut, isL1, ssub, spar, evOs, setSls, slOf, sasg, gtup, gcons, gnil, mslice, osome, onone, mopL, mlensetA, misinst, mmt, kindD, saug, byes, a1, a2]
theorem odd_2 {Q M : List Qu} {o : List Nat} {s3 : Sl} (t : Td) (h : ∀ d ∈ oddBars, f_is_bar [qsD Q, d] t = some (.bl false, t)) : ∃ s, l__law_odd_2 (dE (qsD Q) (qsD M) (isD o) s3 .no .no) t = some (.nx, dE (qsD Q) (qsD M) (isD o) s .no .no, t) := by
  obtain ⟨e', t', l1, rfl, s, rfl⟩ := forL_nx (Z := td) (g := gset 3) (b := lb__law_odd_2) (ds := oddBars) (e := dE (qsD Q) (qsD M) (isD o) s3 .no .no) (t := t)
    (fun i e t1 => t1 = t ∧ ∃ s, e = dE (qsD Q) (qsD M) (isD o) s .no .no) ⟨rfl, _, rfl⟩ fun i d e t1 hd hi => by
      obtain ⟨rfl, s, rfl⟩ := hi
      have f := h d (List.mem_of_getElem? hd)
      have f2 := acc_bar t1 f
      refine ⟨dE (qsD Q) (qsD M) (isD o) (.sh d) .no .no, rfl, .nx, dE (qsD Q) (qsD M) (isD o) (.sh d) .no .no, t1, ?_, .inl rfl, rfl, _, rfl⟩
      generalize qsD Q = QQ at f f2 ⊢
      generalize qsD M = MM
      generalize isD o = O
      unfold lb__law_odd_2 dE
      have n := isnt_ff
      obtain ⟨F, hF⟩ : ∃ z, z = f_accepts_ordered := ⟨_, rfl⟩
      rw [← hF] at f2 ⊢
      clear hF
      obtain ⟨F2, hF2⟩ : ∃ z, z = f_is_bar := ⟨_, rfl⟩
      rw [← hF2] at f ⊢
      clear hF2
      simp [mop, ev2, ev1, evA, getA, look, slotOk, mcst, mvar, asB, mlst, mtup, mcons, mnil, mfn, mfnL, evN, evAs, getAs, mite, band, bor, bnot, mand, mor, mnot, mcall, iseq, irange1, irange2, sset, ssetO, sret, sdrop, snil, sif, gset, mmut, isL1, ssub, spar, evOs, setSls, slOf, sasg, gtup, gcons, gnil, mslice, osome, onone, mopL, mlensetA, misinst, mmt, kindD, saug, byes, f, f2, n]
  refine ⟨s, ?_⟩
  unfold l__law_odd_2
  refine sfor_nx (Z := td) (e1 := dE (qsD Q) (qsD M) (isD o) s3 .no .no) (t1 := t') (ds := oddBars) ?_ l1
  clear l1 h
  generalize qsD Q = QQ
  generalize qsD M = MM
  generalize isD o = O
  unfold oddBars dE
  simp [mop, ev2, ev1, evA, getA, look, slotOk, mcst, mvar, asB, mlst, mtup, mcons, mnil, mfn, mfnL, evN, evAs, getAs, mite, band, bor, bnot, mand, mor, mnot, mcall, iseq, irange1, irange2, sset, ssetO, sret, sdrop, snil, sif, gset, mmut, isL1, ssub, spar, evOs, setSls, slOf, sasg, gtup, gcons, gnil, mslice, osome, onone, mopL, mlensetA, misinst, mmt, kindD, saug, byes]
theorem odd_1 {Q M : List Qu} {o : List Nat} {s3 : Sl} {x : Str} (hl : M.length = Q.length) (h1 : 1 ≤ M.length) (h7 : M.length ≤ 7) (hx : (qk M (M.length - 1)).1 = x) (t : Td) (h : ∀ d ∈ oddMends Q M x, f_is_mending [qsD Q, d] t = some (.bl false, t)) : ∃ s, l__law_odd_1 (dE (qsD Q) (qsD M) (isD o) s3 .no .no) t = some (.nx, dE (qsD Q) (qsD M) (isD o) s .no .no, t) := by
  obtain ⟨e', t', l1, rfl, s, rfl⟩ := forL_nx (Z := td) (g := gset 3) (b := lb__law_odd_1) (ds := oddMends Q M x) (e := dE (qsD Q) (qsD M) (isD o) s3 .no .no) (t := t)
    (fun i e t1 => t1 = t ∧ ∃ s, e = dE (qsD Q) (qsD M) (isD o) s .no .no) ⟨rfl, _, rfl⟩ fun i d e t1 hd hi => by
      obtain ⟨rfl, s, rfl⟩ := hi
      have f := h d (List.mem_of_getElem? hd)
      refine ⟨dE (qsD Q) (qsD M) (isD o) (.sh d) .no .no, rfl, .nx, dE (qsD Q) (qsD M) (isD o) (.sh d) .no .no, t1, ?_, .inl rfl, rfl, _, rfl⟩
      generalize qsD Q = QQ at f ⊢
      generalize qsD M = MM
      generalize isD o = O
      unfold lb__law_odd_1 dE
      have n := isnt_ff
      obtain ⟨F, hF⟩ : ∃ z, z = f_is_mending := ⟨_, rfl⟩
      rw [← hF] at f ⊢
      clear hF
      simp [mop, ev2, ev1, evA, getA, look, slotOk, mcst, mvar, asB, mlst, mtup, mcons, mnil, mfn, mfnL, evN, evAs, getAs, mite, band, bor, bnot, mand, mor, mnot, mcall, iseq, irange1, irange2, sset, ssetO, sret, sdrop, snil, sif, gset, mmut, isL1, ssub, spar, evOs, setSls, slOf, sasg, gtup, gcons, gnil, mslice, osome, onone, mopL, mlensetA, misinst, mmt, kindD, saug, byes, f, n]
  refine ⟨s, ?_⟩
  unfold l__law_odd_1
  refine sfor_nx (Z := td) (e1 := dE (qsD Q) (qsD M) (isD o) s3 .no .no) (t1 := t') (ds := oddMends Q M x) ?_ l1
  clear l1 h
  have a2 : list1 [qsD M] = some (M.map pD) := rfl
  have s1 : sliceD (qsD M) none (some (-1)) = some (qsD (M.take (Q.length - 1))) := by
    unfold qsD
    show some (D.tup (cutD (M.map pD) none (some (-1)))) = _
    have e : HT.sIx (M.map pD).length (M.map pD).length (some (-1)) = M.length - 1 := by
      unfold HT.sIx
      simp
      omega
    unfold cutD
    rw [e, HT.sIx_none, List.drop_zero, Nat.sub_zero, ← hl, List.map_take]
  have i1 : idxD (qsD M) (.int (-1)) = some (pD (qk M (M.length - 1))) := by
    unfold qsD
    have e : ixN (M.map pD).length (-1) = some (M.length - 1) := by
      unfold ixN
      simp
      omega
    simp only [idxD, atI, e, Option.bind_some]
    rw [List.getElem?_map, List.getElem?_eq_getElem (by omega), qk_eq (by omega)]; rfl
  have i2 := p0 (qk M (M.length - 1))
  rw [hx] at i2
  have tl : (M.take (Q.length - 1)).length ≤ 7 := by rw [List.length_take]; omega
  have ad : ∀ y : D, addD (qsD (M.take (Q.length - 1))) (.tup [y]) = some (.tup ((M.take (Q.length - 1)).map pD ++ [y])) := fun y => by
    unfold qsD; rw [add_tup (by simp; omega)]
  have ad1 := ad .non
  have ad2 := ad (.tup [.str x])
  have ad3 := ad (.lst [.str x, .str ""])
  have ad4 := ad (.tup [.str x, .str "A"])
  clear ad
  unfold oddMends
  have e0 : D.tup ((M.take (Q.length - 1)).map pD) = qsD (M.take (Q.length - 1)) := rfl
  rw [e0]
  generalize D.tup ((M.take (Q.length - 1)).map pD ++ [.non]) = R1 at ad1 ⊢
  generalize D.tup ((M.take (Q.length - 1)).map pD ++ [.tup [.str x]]) = R2 at ad2 ⊢
  generalize D.tup ((M.take (Q.length - 1)).map pD ++ [.lst [.str x, .str ""]]) = R3 at ad3 ⊢
  generalize D.tup ((M.take (Q.length - 1)).map pD ++ [.tup [.str x, .str "A"]]) = R4 at ad4 ⊢
  generalize qsD (M.take (Q.length - 1)) = TK at s1 ad1 ad2 ad3 ad4 ⊢
  generalize pD (qk M (M.length - 1)) = PP at i1 i2
  generalize D.str x = X at i2 ad2 ad3 ad4
  generalize M.map pD = ML at a2 ⊢
  generalize qsD M = MM at a2 s1 i1 ⊢
  generalize qsD Q = QQ
  generalize isD o = O
  unfold dE
  simp [mop, ev2, ev1, evA, getA, look, slotOk, mcst, mvar, asB, mlst, mtup, mcons, mnil, mfn, mfnL, evN, evAs, getAs, mite, band, bor, bnot, mand, mor, mnot, mcall, iseq, irange1, irange2, sset, ssetO, sret, sdrop, snil, sif, gset, mmut, isL1, ssub, spar, evOs, setSls, slOf, sasg, gtup, gcons, gnil, mslice, osome, onone, mopL, mlensetA, misinst, mmt, kindD, saug, byes, mneg, a2, s1, i1, i2, ad1, ad2, ad3, ad4]
theorem odd_c2 {Q M O : D} {s3 s5 : Sl} (t : Td) : c__law_odd_2 (dE Q M O s3 (.sh (.lst rights)) s5) t = some (.lst ((rights.map fun _ => true).map .bl), dE Q M O s3 (.sh (.lst rights)) s5, t) := by
  unfold c__law_odd_2
  rw [List.map_map]
  have h := worn_right t
  have l : rights.length ≤ 16777216 := by decide
  generalize rights = R at h l ⊢
  refine mlc_all (Z := td) (e1 := dE Q M O s3 (.sh (.lst R)) s5) (t1 := t) (fun d => d) (fun _ => D.bl true) R ?_ rfl l fun d hd => ⟨[.sh Q, .sh M, .sh O, s3, .sh (.lst R), s5, .sh d], rfl, rfl, [.sh Q, .sh M, .sh O, s3, .sh (.lst R), s5, .sh d], ?_, rfl⟩
  · rw [List.map_id' R]
    unfold dE
    simp [mop, ev2, ev1, evA, getA, look, slotOk, mcst, mvar, asB, mlst, mtup, mcons, mnil, mfn, mfnL, evN, evAs, getAs, mite, band, bor, bnot, mand, mor, mnot, mcall, iseq, irange1, irange2, sset, ssetO, sret, sdrop, snil, sif, gset, mmut, isL1, ssub, spar, evOs, setSls, slOf, sasg, gtup, gcons, gnil, mslice, osome, onone, mopL, mlensetA, misinst, mmt, kindD, saug, byes]
  · have f := h d hd
    have b : isBD (.bl true) (.bl true) = some (.bl true) := rfl
    unfold ce__law_odd_2
    obtain ⟨F, hF⟩ : ∃ z, z = f_is_worn := ⟨_, rfl⟩
    rw [← hF] at f ⊢
    clear hF
    simp [mop, ev2, ev1, evA, getA, look, slotOk, mcst, mvar, asB, mlst, mtup, mcons, mnil, mfn, mfnL, evN, evAs, getAs, mite, band, bor, bnot, mand, mor, mnot, mcall, iseq, irange1, irange2, sset, ssetO, sret, sdrop, snil, sif, gset, mmut, isL1, ssub, spar, evOs, setSls, slOf, sasg, gtup, gcons, gnil, mslice, osome, onone, mopL, mlensetA, misinst, mmt, kindD, saug, byes, f, b]
theorem odd_c1 {Q M O : D} {s3 s4 : Sl} (t : Td) : c__law_odd_1 (dE Q M O s3 s4 (.sh (.lst wrongs))) t = some (.lst ((wrongs.map fun _ => true).map .bl), dE Q M O s3 s4 (.sh (.lst wrongs)), t) := by
  unfold c__law_odd_1
  rw [List.map_map]
  have h := worn_wrong t
  have l : wrongs.length ≤ 16777216 := by decide
  generalize wrongs = R at h l ⊢
  refine mlc_all (Z := td) (e1 := dE Q M O s3 s4 (.sh (.lst R))) (t1 := t) (fun d => d) (fun _ => D.bl true) R ?_ rfl l fun d hd => ⟨[.sh Q, .sh M, .sh O, s3, s4, .sh (.lst R), .sh d], rfl, rfl, [.sh Q, .sh M, .sh O, s3, s4, .sh (.lst R), .sh d], ?_, rfl⟩
  · rw [List.map_id' R]
    unfold dE
    simp [mop, ev2, ev1, evA, getA, look, slotOk, mcst, mvar, asB, mlst, mtup, mcons, mnil, mfn, mfnL, evN, evAs, getAs, mite, band, bor, bnot, mand, mor, mnot, mcall, iseq, irange1, irange2, sset, ssetO, sret, sdrop, snil, sif, gset, mmut, isL1, ssub, spar, evOs, setSls, slOf, sasg, gtup, gcons, gnil, mslice, osome, onone, mopL, mlensetA, misinst, mmt, kindD, saug, byes]
  · have f := h d hd
    have b : isBD (.bl false) (.bl false) = some (.bl true) := rfl
    unfold ce__law_odd_1
    obtain ⟨F, hF⟩ : ∃ z, z = f_is_worn := ⟨_, rfl⟩
    rw [← hF] at f ⊢
    clear hF
    simp [mop, ev2, ev1, evA, getA, look, slotOk, mcst, mvar, asB, mlst, mtup, mcons, mnil, mfn, mfnL, evN, evAs, getAs, mite, band, bor, bnot, mand, mor, mnot, mcall, iseq, irange1, irange2, sset, ssetO, sret, sdrop, snil, sif, gset, mmut, isL1, ssub, spar, evOs, setSls, slOf, sasg, gtup, gcons, gnil, mslice, osome, onone, mopL, mlensetA, misinst, mmt, kindD, saug, byes, f, b]
theorem odd_ret {Q M O : D} {s3 : Sl} (t : Td) : ∃ e1, scons (sset 4 (mlst (mcons (mtup (mcons (mtup (mcons (mcst (.str "a")) (mcons (mcst .non) mnil))) mnil)) (mcons (mop mulD (.e (mtup (mcons (mtup (mcons (mcst (.str "a")) (mcons (mcst (.str "")) mnil))) mnil))) (.e (mcst (.int 40)))) (mcons (mtup (mcons (mtup (mcons (mcst (.str "a")) (mcons (mcst (.str "b")) mnil))) (mcons (mtup (mcons (mcst (.str "abcdefghijklmnop")) (mcons (mcst .non) mnil))) mnil))) mnil)))))
    (scons (sset 5 (mlst (mcons (mcst .non) (mcons (mtup mnil) (mcons (mlst (mcons (mtup (mcons (mcst (.str "a")) (mcons (mcst (.str "b")) mnil))) mnil)) (mcons (mtup (mcons (mtup (mcons (mcst (.str "a")) mnil)) mnil)) (mcons (mtup (mcons (mtup (mcons (mcst (.str "")) (mcons (mcst (.str "b")) mnil))) mnil)) (mcons (mtup (mcons (mtup (mcons (mcst .non) (mcons (mcst (.str "b")) mnil))) mnil)) (mcons (mtup (mcons (mtup (mcons (mcst (.str "a")) (mcons (mcst (.str "B")) mnil))) mnil)) (mcons (mtup (mcons (mtup (mcons (mcst (.str "a")) (mcons (mcst (.int 0)) mnil))) mnil)) (mcons (mtup (mcons (mlst (mcons (mcst (.str "a")) (mcons (mcst (.str "b")) mnil))) mnil)) (mcons (mop mulD (.e (mtup (mcons (mtup (mcons (mcst (.str "a")) (mcons (mcst .non) mnil))) mnil))) (.e (mcst (.int 41)))) (mcons (mtup (mcons (mcst (.str "ab")) mnil)) (mcons (mcst (.dic [] [])) mnil))))))))))))))
    (sret (mand (mfn all1 [(.e c__law_odd_2)]) (mfn all1 [(.e c__law_odd_1)])))) (dE Q M O s3 .no .no) t = some (.rt (.bl true), e1, t) := by
  have m1 : mulD (.tup [.tup [.str "a", .str ""]]) (.int 40) = some (.tup (repD 40 [.tup [.str "a", .str ""]])) := rfl
  have m2 : mulD (.tup [.tup [.str "a", .non]]) (.int 41) = some (.tup (repD 41 [.tup [.str "a", .non]])) := rfl
  refine ⟨dE Q M O s3 (.sh (.lst rights)) (.sh (.lst wrongs)), ?_⟩
  have h1 : ∀ (x : Sl), x = .no → dE Q M O s3 .no .no = dE Q M O s3 x .no := fun _ h => by rw [h]
  refine scons_nx (Z := td) (sset_at (e1 := dE Q M O s3 .no .no) (t1 := t) (d := .lst rights) (e2 := dE Q M O s3 (.sh (.lst rights)) .no) ?_ rfl) (scons_nx (Z := td) (sset_at (e1 := dE Q M O s3 (.sh (.lst rights)) .no) (t1 := t) (d := .lst wrongs) (e2 := dE Q M O s3 (.sh (.lst rights)) (.sh (.lst wrongs))) ?_ rfl) (sret_ev (Z := td) ?_))
  · unfold rights
    generalize D.tup (repD 40 [.tup [.str "a", .str ""]]) = R at m1 ⊢
    simp [mop, ev2, ev1, evA, getA, look, slotOk, mcst, mvar, asB, mlst, mtup, mcons, mnil, mfn, mfnL, evN, evAs, getAs, mite, band, bor, bnot, mand, mor, mnot, mcall, iseq, irange1, irange2, sset, ssetO, sret, sdrop, snil, sif, gset, mmut, isL1, ssub, spar, evOs, setSls, slOf, sasg, gtup, gcons, gnil, mslice, osome, onone, mopL, mlensetA, misinst, mmt, kindD, saug, byes, m1]
  · unfold wrongs
    generalize rights = RR
    generalize D.tup (repD 41 [.tup [.str "a", .non]]) = R at m2 ⊢
    simp [mop, ev2, ev1, evA, getA, look, slotOk, mcst, mvar, asB, mlst, mtup, mcons, mnil, mfn, mfnL, evN, evAs, getAs, mite, band, bor, bnot, mand, mor, mnot, mcall, iseq, irange1, irange2, sset, ssetO, sret, sdrop, snil, sif, gset, mmut, isL1, ssub, spar, evOs, setSls, slOf, sasg, gtup, gcons, gnil, mslice, osome, onone, mopL, mlensetA, misinst, mmt, kindD, saug, byes, m2]
  · have c2 := odd_c2 (Q := Q) (M := M) (O := O) (s3 := s3) (s5 := .sh (.lst wrongs)) t
    have c1 := odd_c1 (Q := Q) (M := M) (O := O) (s3 := s3) (s4 := .sh (.lst rights)) t
    have a2 : all1 [.lst ((rights.map fun _ => true).map .bl)] = some (.bl true) := by
      rw [all1_bls]; simp
    have a1 : all1 [.lst ((wrongs.map fun _ => true).map .bl)] = some (.bl true) := by
      rw [all1_bls]; simp
    generalize D.lst ((rights.map fun _ => true).map .bl) = X2 at a2 c2
    generalize D.lst ((wrongs.map fun _ => true).map .bl) = X1 at a1 c1
    generalize rights = RR at c1 c2 ⊢
    generalize wrongs = WW at c1 c2 ⊢
    unfold dE at *
    obtain ⟨C2, hC2⟩ : ∃ z, z = c__law_odd_2 := ⟨_, rfl⟩
    rw [← hC2] at c2 ⊢
    clear hC2
    obtain ⟨C1, hC1⟩ : ∃ z, z = c__law_odd_1 := ⟨_, rfl⟩
    rw [← hC1] at c1 ⊢
    clear hC1
    simp [mop, ev2, ev1, evA, getA, look, slotOk, mcst, mvar, asB, mlst, mtup, mcons, mnil, mfn, mfnL, evN, evAs, getAs, mite, band, bor, bnot, mand, mor, mnot, mcall, iseq, irange1, irange2, sset, ssetO, sret, sdrop, snil, sif, gset, mmut, isL1, ssub, spar, evOs, setSls, slOf, sasg, gtup, gcons, gnil, mslice, osome, onone, mopL, mlensetA, misinst, mmt, kindD, saug, byes, c2, c1, a1, a2]
theorem odd_run {Q M : List Qu} {o : List Nat} (h : Made Q M o) (t : Td) : f__law_odd [qsD Q, qsD M, isD o] t = some (.bl true, t) := by
  have ql := h.w.len
  have n1 := h.n1
  have n7 := h.n7
  obtain ⟨s1, e1⟩ := odd_3 (s3 := .no) t (odd_ord (Q := Q) (B := M) (o := o) (by omega) h.okM t)
  obtain ⟨s2, e2⟩ := odd_2 (M := M) (o := o) (s3 := s1) t (odd_bar h.okQ (by omega) (by omega) t)
  have hx : (qk M (M.length - 1)).1 = (qk Q (Q.length - 1)).1 := by
    rw [ql]; exact (h.w.f _ (by omega)).1.symm
  obtain ⟨s3, e3⟩ := odd_1 (o := o) (s3 := s2) (by omega) (by omega) (by omega) hx t (odd_mend (by omega) (by omega) h.okM (by omega) t)
  obtain ⟨e', e4⟩ := odd_ret (Q := qsD Q) (M := qsD M) (O := isD o) (s3 := s3) t
  exact runFn_at (Z := td) (e1 := e') (dE (qsD Q) (qsD M) (isD o) .no .no .no) rfl (scons_nx (Z := td) e1 (scons_nx (Z := td) e2 (scons_nx (Z := td) e3 e4)))
end K91

namespace K91
open PySem L2 DL

theorem told_same (b : Bool) (t : Td) : f__law_told [.bl b, .bl b] t = some (.bl true, t) := by
  rw [told_run]; cases b <;> rfl
abbrev gE (s2 s3 s4 s5 s6 s7 s8 s9 s10 s11 s12 s13 s14 s15 s16 : Sl) : List Sl := [.no, .sh .tape, s2, s3, s4, s5, s6, s7, s8, s9, s10, s11, s12, s13, s14, s15, s16, .no, .no]
/-! ### the six bent ones -/
theorem six_a {WS Q M O B P : D} {s2 s7 s8 s9 s10 s11 s12 s13 s14 s15 s16 : Sl} {t t' : Td} (h : f__law_bent [.tape, WS, Q, M, O] t = some (.tup [B, P], t')) : sasg (Z := td) (gtup 2 (gcons (gset 8) (gcons (gset 9) gnil))) (mcall 5 f__law_bent (mcons (mvar 1) (mcons (mvar 3) (mcons (mvar 4) (mcons (mvar 5) (mcons (mvar 6) mnil)))))) (gE s2 (.sh WS) (.sh Q) (.sh M) (.sh O) s7 s8 s9 s10 s11 s12 s13 s14 s15 s16) t = some (.nx, gE s2 (.sh WS) (.sh Q) (.sh M) (.sh O) s7 (.sh B) (.sh P) s10 s11 s12 s13 s14 s15 s16, t') := by
  unfold gE
  obtain ⟨F, hF⟩ : ∃ z, z = f__law_bent := ⟨_, rfl⟩
  rw [← hF] at h ⊢
  clear hF
  simp [mop, ev2, ev1, evA, getA, look, slotOk, mcst, mvar, asB, mlst, mtup, mcons, mnil, mfn, mfnL, evN, evAs, getAs, mite, band, bor, bnot, mand, mor, mnot, mcall, iseq, irange1, irange2, sset, ssetO, sret, sdrop, snil, sif, gset, mmut, isL1, ssub, spar, evOs, setSls, slOf, sasg, gtup, gcons, gnil, mslice, osome, onone, mopL, mlensetA, misinst, mmt, kindD, saug, byes, h]
theorem six_b {WS Q M O B P : D} {s2 s7 s10 s11 s12 s13 s14 s15 s16 : Sl} {m r : Bool} {t : Td} (h1 : f__law_is_mending [Q, B] t = some (.bl m, t)) (h2 : f_is_mending [Q, B] t = some (.bl m, t)) (h3 : f_accepts_ordered [Q, .tup [.str "order", P, B]] t = some (.bl (m && r), t)) (h4 : f__law_is_order [B, P] t = some (.bl r, t)) :
    scons (Z := td) (sset 10 (mcall 2 f__law_is_mending (mcons (mvar 4) (mcons (mvar 8) mnil))))
    (scons (sif (bnot (asB (mcall 2 f__law_told (mcons (mcall 2 f_is_mending (mcons (mvar 4) (mcons (mvar 8) mnil))) (mcons (mvar 10) mnil))))) (sret (mcst (.bl false))) snil)
    (sif (bnot (asB (mcall 2 f__law_told (mcons (mcall 2 f_accepts_ordered (mcons (mvar 4) (mcons (mtup (mcons (mcst (.str "order")) (mcons (mvar 9) (mcons (mvar 8) mnil)))) mnil))) (mcons (mand (mvar 10) (mcall 2 f__law_is_order (mcons (mvar 8) (mcons (mvar 9) mnil)))) mnil))))) (sret (mcst (.bl false))) snil)) (gE s2 (.sh WS) (.sh Q) (.sh M) (.sh O) s7 (.sh B) (.sh P) s10 s11 s12 s13 s14 s15 s16) t = some (.nx, gE s2 (.sh WS) (.sh Q) (.sh M) (.sh O) s7 (.sh B) (.sh P) (.sh (.bl m)) s11 s12 s13 s14 s15 s16, t) := by
  have t1 := told_same m t
  have t2 := told_same (m && r) t
  unfold gE
  obtain ⟨F1, hF1⟩ : ∃ z, z = f__law_is_mending := ⟨_, rfl⟩
  rw [← hF1] at h1 ⊢
  clear hF1
  obtain ⟨F2, hF2⟩ : ∃ z, z = f_is_mending := ⟨_, rfl⟩
  rw [← hF2] at h2 ⊢
  clear hF2
  obtain ⟨F3, hF3⟩ : ∃ z, z = f_accepts_ordered := ⟨_, rfl⟩
  rw [← hF3] at h3 ⊢
  clear hF3
  obtain ⟨F4, hF4⟩ : ∃ z, z = f__law_is_order := ⟨_, rfl⟩
  rw [← hF4] at h4 ⊢
  clear hF4
  obtain ⟨F5, hF5⟩ : ∃ z, z = f__law_told := ⟨_, rfl⟩
  rw [← hF5] at t1 t2 ⊢
  clear hF5
  cases m <;> cases r <;> simp only [Bool.and_self, Bool.and_true, Bool.and_false, Bool.true_and, Bool.false_and] at h3 t2 <;> simp [mop, ev2, ev1, evA, getA, look, slotOk, mcst, mvar, asB, mlst, mtup, mcons, mnil, mfn, mfnL, evN, evAs, getAs, mite, band, bor, bnot, mand, mor, mnot, mcall, iseq, irange1, irange2, sset, ssetO, sret, sdrop, snil, sif, gset, mmut, isL1, ssub, spar, evOs, setSls, slOf, sasg, gtup, gcons, gnil, mslice, osome, onone, mopL, mlensetA, misinst, mmt, kindD, saug, byes, scons, h1, h2, h3, h4, t1, t2]
theorem six_run {ws : List Str} (hw : Wds ws) {Q M : List Qu} {o : List Nat} (h : Made Q M o) {s2 s7 s8 s9 s10 s11 s12 s13 s14 s15 s16 : Sl} (t : Td) : ∃ (s8' s9' s10' : Sl) (t' : Td), lb_law_2 (gE s2 (.sh (wsD ws)) (.sh (qsD Q)) (.sh (qsD M)) (.sh (isD o)) s7 s8 s9 s10 s11 s12 s13 s14 s15 s16) t = some (.nx, gE s2 (.sh (wsD ws)) (.sh (qsD Q)) (.sh (qsD M)) (.sh (isD o)) s7 s8' s9' s10' s11 s12 s13 s14 s15 s16, t') := by
  obtain ⟨B, o', t', hb, e⟩ := bent_run hw h t
  have ql := h.w.len
  have n7 := h.n7
  have hi := hb.hi
  have lo := hb.lo
  have ho : ∀ k ∈ o', k < B.length := fun k hk => Nat.lt_of_lt_of_le (hb.o.ok k hk) lo
  have ol := hb.o.len
  exact ⟨_, _, _, t', scons_nx (Z := td) (six_a e) (six_b (law_mend_run Q B (by omega) t') (mend_run (by omega) hb.ok t') (acc_run (by omega) hb.ok (by omega) ho (by omega) t') (law_order_run hb.ok (by omega) ho (by omega) t'))⟩
theorem rng_c (k : Nat) (hk : k ≤ 1000) (e : List Sl) (t : Td) : irange1 (Z := td) (mcons (mcst (.int (k : Int))) mnil) e t = some ((List.range k).map nD, e, t) := by
  have b1 : ((k : Nat) : Int) < 4611686018427387904 := by omega
  have rr := range0 k
  simp [mop, ev2, ev1, evA, getA, look, slotOk, mcst, mvar, asB, mlst, mtup, mcons, mnil, mfn, mfnL, evN, evAs, getAs, mite, band, bor, bnot, mand, mor, mnot, mcall, iseq, irange1, irange2, sset, ssetO, sret, sdrop, snil, sif, gset, mmut, isL1, ssub, spar, evOs, setSls, slOf, sasg, gtup, gcons, gnil, mslice, osome, onone, mopL, mlensetA, misinst, mmt, kindD, saug, byes, b1, rr]
theorem six_loop {ws : List Str} (hw : Wds ws) {Q M : List Qu} {o : List Nat} (h : Made Q M o) {s2 s7 s8 s9 s10 s11 s12 s13 s14 s15 s16 : Sl} (t : Td) : ∃ (s7' s8' s9' s10' : Sl) (t' : Td), l_law_2 (gE s2 (.sh (wsD ws)) (.sh (qsD Q)) (.sh (qsD M)) (.sh (isD o)) s7 s8 s9 s10 s11 s12 s13 s14 s15 s16) t = some (.nx, gE s2 (.sh (wsD ws)) (.sh (qsD Q)) (.sh (qsD M)) (.sh (isD o)) s7' s8' s9' s10' s11 s12 s13 s14 s15 s16, t') := by
  obtain ⟨e', t', l1, s7', s8', s9', s10', rfl⟩ := forL_nx (Z := td) (g := gset 7) (b := lb_law_2) (ds := (List.range 6).map nD) (e := gE s2 (.sh (wsD ws)) (.sh (qsD Q)) (.sh (qsD M)) (.sh (isD o)) s7 s8 s9 s10 s11 s12 s13 s14 s15 s16) (t := t)
    (fun i e t1 => ∃ s7' s8' s9' s10' : Sl, e = gE s2 (.sh (wsD ws)) (.sh (qsD Q)) (.sh (qsD M)) (.sh (isD o)) s7' s8' s9' s10' s11 s12 s13 s14 s15 s16) ⟨_, _, _, _, rfl⟩ fun i d e t1 hd hi => by
      obtain ⟨s7', s8', s9', s10', rfl⟩ := hi
      obtain ⟨a, b, c, t', e⟩ := six_run hw h (s2 := s2) (s7 := .sh d) (s8 := s8') (s9 := s9') (s10 := s10') (s11 := s11) (s12 := s12) (s13 := s13) (s14 := s14) (s15 := s15) (s16 := s16) t1
      exact ⟨_, rfl, .nx, _, t', e, .inl rfl, _, _, _, _, rfl⟩
  exact ⟨s7', s8', s9', s10', t', sfor_nx (Z := td) (rng_c 6 (by omega) _ t) l1⟩
end K91

namespace K91
open PySem L2 DL

/-! ### the other quires -/
theorem pick_pairs {R : List Qu} (hR : Oks R) (h0 : 0 < R.length) (hl : R.length ≤ 1000) (t : Td) : ∃ (q : Qu) (t' : Td), f__law_pick [.tape, .lst (R.map pD)] t = some (pD q, t') ∧ Okp q := by
  obtain ⟨d, t', e, hd⟩ := pick_any (.lst (R.map pD)) (R.map pD) (.inl rfl) (by rw [List.length_map]; exact h0) (by rw [List.length_map]; omega) t
  obtain ⟨q, hq, rfl⟩ := List.mem_map.mp hd
  exact ⟨q, t', e, hR q hq⟩
theorem pick_ws3 {ws : List Str} (h : Wds ws) (t : Td) : ∃ (x : Option Str) (t' : Td), f__law_pick [.tape, .lst (ws.map .str ++ [.str "", .non, .str "y"])] t = some (oS x, t') ∧ ∀ y, x = some y → y = "" ∨ y ∈ words6 := by
  obtain ⟨d, t', e, hd⟩ := pick_any (.lst (ws.map .str ++ [.str "", .non, .str "y"])) (ws.map .str ++ [.str "", .non, .str "y"]) (.inl rfl) (by simp) (by simp; have := h.sm; omega) t
  rcases List.mem_append.mp hd with hd | hd
  · obtain ⟨x, hx, rfl⟩ := List.mem_map.mp hd
    exact ⟨some x, t', e, fun y hy => by cases hy; exact .inr (h.ok x hx)⟩
  · simp only [List.mem_cons, List.not_mem_nil, or_false] at hd
    rcases hd with rfl | rfl | rfl
    · exact ⟨some "", t', e, fun y hy => by cases hy; exact .inl rfl⟩
    · exact ⟨none, t', e, fun y hy => by cases hy⟩
    · exact ⟨some "y", t', e, fun y hy => by cases hy; exact .inr (by decide +kernel)⟩
abbrev yy : Qu := ("y", some "y")
theorem yy_ok : Okp yy := ⟨by decide +kernel, fun x e => by cases e; exact .inr (by decide +kernel)⟩
theorem other_st {ws : List Str} (hw : Wds ws) {p : Qu} (hp : Okp p) {s2 s4 s5 s6 s7 s8 s9 s10 s11 s12 s13 s14 s15 s16 : Sl} (t : Td) : ∃ (q : Qu) (t' : Td), Okp q ∧ ce_law_4 [.no, .sh .tape, s2, .sh (wsD ws), s4, s5, s6, s7, s8, s9, s10, s11, s12, s13, s14, s15, s16, .sh (pD p), .no] t = some (pD q, [.no, .sh .tape, s2, .sh (wsD ws), s4, s5, s6, s7, s8, s9, s10, s11, s12, s13, s14, s15, s16, .sh (pD p), .no], t') := by
  obtain ⟨x, t1, e1, hx⟩ := pick_ws3 hw t
  have h4 : Oks [p, p, (p.1, x), yy] := by
    intro q hq
    simp only [List.mem_cons, List.not_mem_nil, or_false] at hq
    rcases hq with rfl | rfl | rfl | rfl
    · exact hp
    · exact hp
    · exact ⟨hp.f, hx⟩
    · exact yy_ok
  obtain ⟨q, t2, e2, hq⟩ := pick_pairs h4 (by simp) (by simp) t1
  refine ⟨q, t2, hq, ?_⟩
  have e2 : f__law_pick [.tape, .lst [pD p, pD p, .tup [.str p.1, oS x], .tup [.str "y", .str "y"]]] t1 = some (pD q, t2) := e2
  have i := p0 p
  have ad : addD (wsD ws) (.lst [.str "", .non, .str "y"]) = some (.lst (ws.map .str ++ [.str "", .non, .str "y"])) := by
    have := hw.sm
    rw [add_lst (by simp; omega)]
  generalize D.lst (ws.map .str ++ [.str "", .non, .str "y"]) = L at e1 ad
  generalize wsD ws = WW at ad ⊢
  generalize pD q = PQ at e2 ⊢
  generalize oS x = X at e1 e2
  generalize D.str p.1 = P1 at i e2
  generalize pD p = PP at i e2 ⊢
  unfold ce_law_4
  obtain ⟨F, hF⟩ : ∃ z, z = f__law_pick := ⟨_, rfl⟩
  rw [← hF] at e1 e2 ⊢
  clear hF
  simp [mop, ev2, ev1, evA, getA, look, slotOk, mcst, mvar, asB, mlst, mtup, mcons, mnil, mfn, mfnL, evN, evAs, getAs, mite, band, bor, bnot, mand, mor, mnot, mcall, iseq, irange1, irange2, sset, ssetO, sret, sdrop, snil, sif, gset, mmut, isL1, ssub, spar, evOs, setSls, slOf, sasg, gtup, gcons, gnil, mslice, osome, onone, mopL, mlensetA, misinst, mmt, kindD, saug, byes, e1, e2, i, ad]
theorem other_run {ws : List Str} (hw : Wds ws) {Q : List Qu} (hQ : Oks Q) (hl : Q.length ≤ 7) {s2 s5 s6 s7 s8 s9 s10 s11 s12 s13 s14 s15 s16 : Sl} (t : Td) : ∃ (R : List Qu) (t' : Td), (Oks R ∧ R.length = Q.length) ∧ c_law_4 (gE s2 (.sh (wsD ws)) (.sh (qsD Q)) s5 s6 s7 s8 s9 s10 s11 s12 s13 s14 s15 s16) t = some (.lst (R.map pD), gE s2 (.sh (wsD ws)) (.sh (qsD Q)) s5 s6 s7 s8 s9 s10 s11 s12 s13 s14 s15 s16, t') := by
  obtain ⟨acc, t', q1, R, rfl, q2, q3⟩ := mlc_inv (Z := td) (own := [17]) (src := iseq (mvar 4)) (g := gset 17) (el := ce_law_4) (e := gE s2 (.sh (wsD ws)) (.sh (qsD Q)) s5 s6 s7 s8 s9 s10 s11 s12 s13 s14 s15 s16) (e1 := gE s2 (.sh (wsD ws)) (.sh (qsD Q)) s5 s6 s7 s8 s9 s10 s11 s12 s13 s14 s15 s16) (t := t) (t1 := t) (ds := Q.map pD)
    (fun i acc t => ∃ R : List Qu, acc = R.map pD ∧ R.length = i ∧ Oks R) (by unfold qsD; simp [mop, ev2, ev1, evA, getA, look, slotOk, mcst, mvar, asB, mlst, mtup, mcons, mnil, mfn, mfnL, evN, evAs, getAs, mite, band, bor, bnot, mand, mor, mnot, mcall, iseq, irange1, irange2, sset, ssetO, sret, sdrop, snil, sif, gset, mmut, isL1, ssub, spar, evOs, setSls, slOf, sasg, gtup, gcons, gnil, mslice, osome, onone, mopL, mlensetA, misinst, mmt, kindD, saug, byes]) rfl (by rw [List.length_map]; omega) ⟨[], rfl, rfl, fun q hq => by cases hq⟩ fun i d acc t hd hi => by
      obtain ⟨R, rfl, hx, hx2⟩ := hi
      have hm := List.mem_of_getElem? hd
      obtain ⟨p, hp, rfl⟩ := List.mem_map.mp hm
      obtain ⟨q, t', hq, e⟩ := other_st hw (hQ p hp) (s2 := s2) (s4 := .sh (qsD Q)) (s5 := s5) (s6 := s6) (s7 := s7) (s8 := s8) (s9 := s9) (s10 := s10) (s11 := s11) (s12 := s12) (s13 := s13) (s14 := s14) (s15 := s15) (s16 := s16) t
      refine ⟨_, rfl, pD q, _, t', e, rfl, R ++ [q], by simp, by simp [hx], fun z hz => ?_⟩
      rcases List.mem_append.mp hz with hz | hz
      · exact hx2 z hz
      · rw [List.mem_singleton.mp hz]; exact hq
  rw [List.length_map] at q2
  exact ⟨R, t', ⟨q3, q2⟩, q1⟩
theorem ends_run {R : List Qu} (hl : R.length ≤ 100) {s2 s3 s4 s5 s6 s7 s8 s9 s10 s12 s13 s14 s15 s16 : Sl} (t : Td) : c_law_3 (gE s2 s3 s4 s5 s6 s7 s8 s9 s10 (.sh (qsD R)) s12 s13 s14 s15 s16) t = some (.lst ((endsL R).map nD), gE s2 s3 s4 s5 s6 s7 s8 s9 s10 (.sh (qsD R)) s12 s13 s14 s15 s16, t) := by
  unfold c_law_3 endsL
  refine mlc_map (Z := td) (e1 := gE s2 s3 s4 s5 s6 s7 s8 s9 s10 (.sh (qsD R)) s12 s13 s14 s15 s16) (t1 := t) nD (fun k => decide ((qk R k).2 = some ("" : Str))) nD (List.range R.length) (range_src hl rfl t) rfl (by rw [List.length_range]; omega) fun k hk => ⟨[.no, .sh .tape, s2, s3, s4, s5, s6, s7, s8, s9, s10, .sh (qsD R), s12, s13, s14, s15, s16, .no, .sh (nD k)], rfl, rfl, ?_, fun _ => ⟨[.no, .sh .tape, s2, s3, s4, s5, s6, s7, s8, s9, s10, .sh (qsD R), s12, s13, s14, s15, s16, .no, .sh (nD k)], rfl, rfl⟩⟩
  have a1 := q_ix (List.mem_range.mp hk)
  have a2 := p1 (qk R k)
  have e : eqD (oS (qk R k).2) (.str "") = some (.bl (decide ((qk R k).2 = some ("" : Str)))) := eq_oS _ (some "")
  generalize decide ((qk R k).2 = some ("" : Str)) = B at e ⊢
  generalize oS (qk R k).2 = O at a2 e
  generalize pD (qk R k) = P at a1 a2
  generalize nD k = K at a1 ⊢
  generalize qsD R = QQ at a1 ⊢
  unfold ct_law_3
  simp [mop, ev2, ev1, evA, getA, look, slotOk, mcst, mvar, asB, mlst, mtup, mcons, mnil, mfn, mfnL, evN, evAs, getAs, mite, band, bor, bnot, mand, mor, mnot, mcall, iseq, irange1, irange2, sset, ssetO, sret, sdrop, snil, sif, gset, mmut, isL1, ssub, spar, evOs, setSls, slOf, sasg, gtup, gcons, gnil, mslice, osome, onone, mopL, mlensetA, misinst, mmt, kindD, saug, byes, a1, a2, e]
theorem mlc_invT {Z : TSys} {own : List Nat} {src : ML Z} {g : G} {tt : MB Z} {el : M Z} {e e1 : List Sl} {t t1 : Z.T} {ds : List D} (Inv : Nat → List D → Z.T → Prop) (hs : src e t = some (ds, e1, t1)) (hok : ownOk e1 own = true) (hl : ds.length ≤ 16777216) (h0 : Inv 0 [] t1)
    (h : ∀ i d acc t, ds[i]? = some d → Inv i acc t → ∃ e2, g d (wipeE e1 own) = some e2 ∧ ∃ c e3 t3, tt e2 t = some (c, e3, t3) ∧ ((c = false ∧ wipeE e3 own = wipeE e1 own ∧ Inv (i + 1) acc t3) ∨ (c = true ∧ ∃ y e4 t4, el e3 t3 = some (y, e4, t4) ∧ wipeE e4 own = wipeE e1 own ∧ Inv (i + 1) (acc ++ [y]) t4))) :
    ∃ acc t', mlc own src g tt el e t = some (.lst acc, e1, t') ∧ Inv ds.length acc t' := by
  obtain ⟨acc, t', q1, q2⟩ := lcL_inv (g := g) (tt := tt) (el := el) (wipeE_wipe e1 own) Inv ds [] t1 0 h0 fun i d acc t hd hi => by
    rw [Nat.zero_add] at hi ⊢
    exact h i d acc t hd hi
  refine ⟨acc, t', ?_, by simpa using q2⟩
  unfold mlc
  have hz : (ds.length ≤ sizeLine) := Nat.le_trans hl (by decide)
  simp only [hs, hok, hz, decide_true, Bool.and_self, if_true, q1, restE_wipe]
structure Lot (n : Nat) (o : List Nat) : Prop where
  ok : ∀ k ∈ o, k < n
  len : o.length ≤ n
theorem lot_tt {e : List Sl} (h1 : e[1]? = some (.sh .tape)) (t : Td) : ∃ (c : Bool) (t' : Td), ct_law_2 e t = some (c, e, t') := by
  obtain ⟨r, t', q, _⟩ := next_ex 2 (by omega) (by omega) t
  have q : f__law_next [.tape, .int 2] t = some (nD r, t') := q
  have z := eq_z r
  refine ⟨decide (r = 0), t', ?_⟩
  generalize decide (r = 0) = C at z ⊢
  generalize nD r = R at q z
  unfold ct_law_2
  obtain ⟨F, hF⟩ : ∃ z, z = f__law_next := ⟨_, rfl⟩
  rw [← hF] at q ⊢
  clear hF
  simp [mop, ev2, ev1, evA, getA, look, slotOk, mcst, mvar, asB, mlst, mtup, mcons, mnil, mfn, mfnL, evN, evAs, getAs, mite, band, bor, bnot, mand, mor, mnot, mcall, iseq, irange1, irange2, sset, ssetO, sret, sdrop, snil, sif, gset, mmut, isL1, ssub, spar, evOs, setSls, slOf, sasg, gtup, gcons, gnil, mslice, osome, onone, mopL, mlensetA, misinst, mmt, kindD, saug, byes, q, z, h1]
theorem lot_run {R : List Qu} (hl : R.length ≤ 100) {s2 s3 s4 s5 s6 s7 s8 s9 s10 s12 s13 s14 s15 s16 : Sl} (t : Td) : ∃ (o : List Nat) (t' : Td), Lot R.length o ∧ c_law_2 (gE s2 s3 s4 s5 s6 s7 s8 s9 s10 (.sh (qsD R)) s12 s13 s14 s15 s16) t = some (.lst (o.map nD), gE s2 s3 s4 s5 s6 s7 s8 s9 s10 (.sh (qsD R)) s12 s13 s14 s15 s16, t') := by
  obtain ⟨acc, t', q1, o, rfl, q2, q3⟩ := mlc_invT (Z := td) (own := [18]) (src := irange1 (mcons (mfn len1 [(.v 11)]) mnil)) (g := gset 18) (tt := ct_law_2) (el := ce_law_2) (e := gE s2 s3 s4 s5 s6 s7 s8 s9 s10 (.sh (qsD R)) s12 s13 s14 s15 s16) (e1 := gE s2 s3 s4 s5 s6 s7 s8 s9 s10 (.sh (qsD R)) s12 s13 s14 s15 s16) (t := t) (t1 := t) (ds := (List.range R.length).map nD)
    (fun i acc t => ∃ o : List Nat, acc = o.map nD ∧ o.length ≤ i ∧ ∀ k ∈ o, k < R.length) (range_src hl rfl t) rfl (by rw [List.length_map, List.length_range]; omega) ⟨[], rfl, by simp, fun q hq => by cases hq⟩ fun i d acc t hd hi => by
      obtain ⟨o, rfl, hx, hx2⟩ := hi
      obtain ⟨hk, rfl⟩ := range_get hd
      obtain ⟨c, t', e⟩ := lot_tt (e := [.no, .sh .tape, s2, s3, s4, s5, s6, s7, s8, s9, s10, .sh (qsD R), s12, s13, s14, s15, s16, .no, .sh (nD i)]) rfl t
      refine ⟨_, rfl, c, _, t', e, ?_⟩
      cases c with
      | false => exact .inl ⟨rfl, rfl, o, rfl, by omega, hx2⟩
      | true =>
        refine .inr ⟨rfl, nD i, _, t', rfl, rfl, o ++ [i], by simp, by simp; omega, fun k hk' => ?_⟩
        rcases List.mem_append.mp hk' with h | h
        · exact hx2 k h
        · rw [List.mem_singleton.mp h]; exact hk
  rw [List.length_map, List.length_range] at q2
  exact ⟨o, t', ⟨q3, q2⟩, q1⟩
theorem eq_yy (q : Qu) (h : Okp q) : ∃ b, eqD (pD q) (.tup [.str "y", .str "y"]) = some (.bl b) := by
  have o1 : okD 30 (pD q) = true := by
    have a := (w6_ok _ h.f).1
    have b : okD 30 (oS q.2) = true := by
      cases z : q.2 with
      | none => rfl
      | some x => exact okp_str h x z
    have b : okD 29 (oS q.2) = true := by
      cases z : q.2 with
      | none => rfl
      | some x => exact okp_str h x z
    show (([D.str q.1, oS q.2] : List D).all (okD 29)) = true
    simp only [List.all_cons, List.all_nil, b, Bool.and_true]
    exact a
  have o2 : okD 30 (.tup [.str "y", .str "y"]) = true := by decide +kernel
  exact ⟨_, by simp only [eqD, o1, o2, Bool.and_self, Bool.or_true, if_true]; rfl⟩
theorem alone_run {R : List Qu} (hR : Oks R) (hl : R.length ≤ 100) {s2 s3 s4 s5 s6 s7 s8 s9 s10 s12 s13 s14 s15 s16 : Sl} (t : Td) : ∃ (o : List Nat), Lot R.length o ∧ c_law_1 (gE s2 s3 s4 s5 s6 s7 s8 s9 s10 (.sh (qsD R)) s12 s13 s14 s15 s16) t = some (.lst (o.map nD), gE s2 s3 s4 s5 s6 s7 s8 s9 s10 (.sh (qsD R)) s12 s13 s14 s15 s16, t) := by
  obtain ⟨acc, t', q1, rfl, o, rfl, q2, q3⟩ := mlc_invT (Z := td) (own := [18]) (src := irange1 (mcons (mfn len1 [(.v 11)]) mnil)) (g := gset 18) (tt := ct_law_1) (el := ce_law_1) (e := gE s2 s3 s4 s5 s6 s7 s8 s9 s10 (.sh (qsD R)) s12 s13 s14 s15 s16) (e1 := gE s2 s3 s4 s5 s6 s7 s8 s9 s10 (.sh (qsD R)) s12 s13 s14 s15 s16) (t := t) (t1 := t) (ds := (List.range R.length).map nD)
    (fun i acc t' => t' = t ∧ ∃ o : List Nat, acc = o.map nD ∧ o.length ≤ i ∧ ∀ k ∈ o, k < R.length) (range_src hl rfl t) rfl (by rw [List.length_map, List.length_range]; omega) ⟨rfl, [], rfl, by simp, fun q hq => by cases hq⟩ fun i d acc t1 hd hi => by
      obtain ⟨rfl, o, rfl, hx, hx2⟩ := hi
      obtain ⟨hk, rfl⟩ := range_get hd
      obtain ⟨c, hc⟩ := eq_yy _ (hR _ (qk_mem hk))
      refine ⟨[.no, .sh .tape, s2, s3, s4, s5, s6, s7, s8, s9, s10, .sh (qsD R), s12, s13, s14, s15, s16, .no, .sh (nD i)], rfl, c, [.no, .sh .tape, s2, s3, s4, s5, s6, s7, s8, s9, s10, .sh (qsD R), s12, s13, s14, s15, s16, .no, .sh (nD i)], t1, ?_, ?_⟩
      · have a1 := q_ix hk
        generalize pD (qk R i) = P at a1 hc
        generalize nD i = K at a1 ⊢
        generalize qsD R = QQ at a1 ⊢
        unfold ct_law_1
        simp [mop, ev2, ev1, evA, getA, look, slotOk, mcst, mvar, asB, mlst, mtup, mcons, mnil, mfn, mfnL, evN, evAs, getAs, mite, band, bor, bnot, mand, mor, mnot, mcall, iseq, irange1, irange2, sset, ssetO, sret, sdrop, snil, sif, gset, mmut, isL1, ssub, spar, evOs, setSls, slOf, sasg, gtup, gcons, gnil, mslice, osome, onone, mopL, mlensetA, misinst, mmt, kindD, saug, byes, a1, hc]
      · cases c with
        | false => exact .inl ⟨rfl, rfl, rfl, o, rfl, by omega, hx2⟩
        | true =>
          refine .inr ⟨rfl, nD i, _, t1, rfl, rfl, rfl, o ++ [i], by simp, by simp; omega, fun k hk' => ?_⟩
          rcases List.mem_append.mp hk' with h | h
          · exact hx2 k h
          · rw [List.mem_singleton.mp h]; exact hk
  rw [List.length_map, List.length_range] at q2
  exact ⟨o, ⟨q3, q2⟩, q1⟩
/-! ### the questions about bars -/
structure Case (R : List Qu) (K : Str) (W : D) : Prop where
  ex : ∃ b : Bool, ∀ t : Td, f_is_bar [qsD R, .tup [.str K, W]] t = some (.bl b, t) ∧ f__law_is_bar [qsD R, .str K, W] t = some (.bl b, t)
theorem case_ends {R : List Qu} (hl : R.length ≤ 8) {o : List Nat} (ho : Lot R.length o) : Case R "ends" (isD o) := ⟨endsB R o, fun t => ⟨bar_ends_run hl ho.ok (by have := ho.len; omega) t, by rw [← ends_eq]; exact law_ends_run (by omega) t⟩⟩
theorem case_word {R : List Qu} (hl : R.length ≤ 8) {w : Str} (hw : w ∈ words6) : Case R "word" (.str w) := ⟨wordB R w, fun t => ⟨bar_word_run hw hl t, by rw [← word_eq]; exact law_word_run (w6_ok w hw).2 (by omega) t⟩⟩
theorem case_lot {R : List Qu} (hR : Oks R) (hl : R.length ≤ 8) {o : List Nat} (ho : Lot R.length o) : Case R "lot" (isD o) := ⟨lotB R o, fun t => ⟨bar_lot_run hR hl ho.ok (by have := ho.len; omega) t, by rw [← lot_eq ho.ok]; exact law_lot_run hR hl ho.ok (by have := ho.len; omega) t⟩⟩
end K91

namespace K91
open PySem L2 DL

theorem pick_ws4 {ws : List Str} (h : Wds ws) (t : Td) : ∃ (x : Str) (t' : Td), f__law_pick [.tape, .lst (ws.map .str ++ [.str "y"])] t = some (.str x, t') ∧ x ∈ words6 := by
  obtain ⟨d, t', e, hd⟩ := pick_any (.lst (ws.map .str ++ [.str "y"])) (ws.map .str ++ [.str "y"]) (.inl rfl) (by simp) (by simp; have := h.sm; omega) t
  rcases List.mem_append.mp hd with hd | hd
  · obtain ⟨x, hx, rfl⟩ := List.mem_map.mp hd
    exact ⟨x, t', e, h.ok x hx⟩
  · rw [List.mem_singleton] at hd
    subst hd
    exact ⟨"y", t', e, by decide +kernel⟩
theorem kind_run {ws : List Str} (hw : Wds ws) {R : List Qu} (hR : Oks R) (hl : R.length ≤ 7) {E O A : List Nat} (hE : Lot R.length E) (hO : Lot R.length O) (hA : Lot R.length A) {s2 s4 s5 s6 s7 s8 s9 s10 s15 s16 : Sl} (t : Td) : ∃ (K : Str) (W : D) (t' : Td), Case R K W ∧
    sasg (Z := td) (gtup 2 (gcons (gset 15) (gcons (gset 16) gnil))) (mcall 2 f__law_pick (mcons (mvar 1) (mcons (mlst (mcons (mtup (mcons (mcst (.str "ends")) (mcons (mvar 12) mnil))) (mcons (mtup (mcons (mcst (.str "ends")) (mcons (mvar 13) mnil))) (mcons (mtup (mcons (mcst (.str "word")) (mcons (mcall 2 f__law_pick (mcons (mvar 1) (mcons (mop addD (.v 3) (.e (mlst (mcons (mcst (.str "y")) mnil)))) mnil))) mnil))) (mcons (mtup (mcons (mcst (.str "lot")) (mcons (mvar 13) mnil))) (mcons (mtup (mcons (mcst (.str "lot")) (mcons (mvar 14) mnil))) (mcons (mtup (mcons (mcst (.str "lot")) (mcons (mrev (mvar 14)) mnil))) mnil))))))) mnil)))
      (gE s2 (.sh (wsD ws)) s4 s5 s6 s7 s8 s9 s10 (.sh (qsD R)) (.sh (isD E)) (.sh (isD O)) (.sh (isD A)) s15 s16) t = some (.nx, gE s2 (.sh (wsD ws)) s4 s5 s6 s7 s8 s9 s10 (.sh (qsD R)) (.sh (isD E)) (.sh (isD O)) (.sh (isD A)) (.sh (.str K)) (.sh W), t') := by
  obtain ⟨x, t1, e1, hx⟩ := pick_ws4 hw t
  have hA2 : Lot R.length A.reverse := ⟨fun k hk => hA.ok k (List.mem_reverse.mp hk), by rw [List.length_reverse]; exact hA.len⟩
  obtain ⟨d, t2, e2, hd⟩ := pick_any (.lst [.tup [.str "ends", isD E], .tup [.str "ends", isD O], .tup [.str "word", .str x], .tup [.str "lot", isD O], .tup [.str "lot", isD A], .tup [.str "lot", isD A.reverse]]) _ (.inl rfl) (by simp) (by simp) t1
  obtain ⟨K, W, rfl, hc⟩ : ∃ (K : Str) (W : D), d = .tup [.str K, W] ∧ Case R K W := by
    simp only [List.mem_cons, List.not_mem_nil, or_false] at hd
    rcases hd with rfl | rfl | rfl | rfl | rfl | rfl
    · exact ⟨_, _, rfl, case_ends (by omega) hE⟩
    · exact ⟨_, _, rfl, case_ends (by omega) hO⟩
    · exact ⟨_, _, rfl, case_word (by omega) hx⟩
    · exact ⟨_, _, rfl, case_lot hR (by omega) hO⟩
    · exact ⟨_, _, rfl, case_lot hR (by omega) hA⟩
    · exact ⟨_, _, rfl, case_lot hR (by omega) hA2⟩
  refine ⟨K, W, t2, hc, ?_⟩
  have ad : addD (wsD ws) (.lst [.str "y"]) = some (.lst (ws.map .str ++ [.str "y"])) := by
    have := hw.sm
    rw [add_lst (by simp; omega)]
  have rv : isD A.reverse = .tup (A.map nD).reverse := by unfold isD; rw [List.map_reverse]
  rw [rv] at e2
  have ia : isD A = .tup (A.map nD) := rfl
  rw [ia] at e2 ⊢
  generalize D.lst (ws.map .str ++ [.str "y"]) = L at e1 ad
  generalize wsD ws = WW at ad ⊢
  generalize A.map nD = AA at e2 ⊢
  generalize isD E = EE at e2 ⊢
  generalize isD O = OO at e2 ⊢
  generalize D.str x = X at e1 e2
  generalize D.str K = KK at e2 ⊢
  generalize qsD R = RR
  unfold gE
  obtain ⟨F, hF⟩ : ∃ z, z = f__law_pick := ⟨_, rfl⟩
  rw [← hF] at e1 e2 ⊢
  clear hF
  simp [mop, ev2, ev1, evA, getA, look, slotOk, mcst, mvar, asB, mlst, mtup, mcons, mnil, mfn, mfnL, evN, evAs, getAs, mite, band, bor, bnot, mand, mor, mnot, mcall, iseq, irange1, irange2, sset, ssetO, sret, sdrop, snil, sif, gset, mmut, isL1, ssub, spar, evOs, setSls, slOf, sasg, gtup, gcons, gnil, mslice, osome, onone, mopL, mlensetA, misinst, mmt, kindD, saug, byes, mrev, e1, e2, ad]
theorem ask_run {R : List Qu} {K : Str} {W : D} (h : Case R K W) {s2 s3 s4 s5 s6 s7 s8 s9 s10 s12 s13 s14 : Sl} (t : Td) :
    scons (Z := td) (sif (bnot (asB (mcall 2 f__law_told (mcons (mcall 2 f_is_bar (mcons (mvar 11) (mcons (mtup (mcons (mvar 15) (mcons (mvar 16) mnil))) mnil))) (mcons (mcall 3 f__law_is_bar (mcons (mvar 11) (mcons (mvar 15) (mcons (mvar 16) mnil)))) mnil))))) (sret (mcst (.bl false))) snil)
    (sif (bnot (asB (mcall 2 f__law_told (mcons (mcall 2 f_accepts_ordered (mcons (mvar 11) (mcons (mtup (mcons (mcst (.str "bar")) (mcons (mtup (mcons (mvar 15) (mcons (mvar 16) mnil))) mnil))) mnil))) (mcons (mcall 3 f__law_is_bar (mcons (mvar 11) (mcons (mvar 15) (mcons (mvar 16) mnil)))) mnil))))) (sret (mcst (.bl false))) snil)
      (gE s2 s3 s4 s5 s6 s7 s8 s9 s10 (.sh (qsD R)) s12 s13 s14 (.sh (.str K)) (.sh W)) t = some (.nx, gE s2 s3 s4 s5 s6 s7 s8 s9 s10 (.sh (qsD R)) s12 s13 s14 (.sh (.str K)) (.sh W), t) := by
  obtain ⟨b, hb⟩ := h.ex
  obtain ⟨h1, h2⟩ := hb t
  have h3 := acc_bar t h1
  have tb := told_same b t
  generalize D.str K = KK at h1 h2 h3 ⊢
  generalize qsD R = RR at h1 h2 h3 ⊢
  generalize D.bl b = B at h1 h2 h3 tb
  unfold gE
  obtain ⟨F1, hF1⟩ : ∃ z, z = f_is_bar := ⟨_, rfl⟩
  rw [← hF1] at h1 ⊢
  clear hF1
  obtain ⟨F2, hF2⟩ : ∃ z, z = f__law_is_bar := ⟨_, rfl⟩
  rw [← hF2] at h2 ⊢
  clear hF2
  obtain ⟨F3, hF3⟩ : ∃ z, z = f_accepts_ordered := ⟨_, rfl⟩
  rw [← hF3] at h3 ⊢
  clear hF3
  obtain ⟨F4, hF4⟩ : ∃ z, z = f__law_told := ⟨_, rfl⟩
  rw [← hF4] at tb ⊢
  clear hF4
  simp [mop, ev2, ev1, evA, getA, look, slotOk, mcst, mvar, asB, mlst, mtup, mcons, mnil, mfn, mfnL, evN, evAs, getAs, mite, band, bor, bnot, mand, mor, mnot, mcall, iseq, irange1, irange2, sset, ssetO, sret, sdrop, snil, sif, gset, mmut, isL1, ssub, spar, evOs, setSls, slOf, sasg, gtup, gcons, gnil, mslice, osome, onone, mopL, mlensetA, misinst, mmt, kindD, saug, byes, scons, h1, h2, h3, tb]
theorem eight_run {ws : List Str} (hw : Wds ws) {R : List Qu} (hR : Oks R) (hl : R.length ≤ 7) {E : List Nat} (hE : Lot R.length E) {s2 s4 s5 s6 s7 s8 s9 s10 s13 s14 s15 s16 : Sl} (t : Td) : ∃ (s13' s14' s15' s16' : Sl) (t' : Td),
    lb_law_1 (gE s2 (.sh (wsD ws)) s4 s5 s6 s7 s8 s9 s10 (.sh (qsD R)) (.sh (isD E)) s13 s14 s15 s16) t = some (.nx, gE s2 (.sh (wsD ws)) s4 s5 s6 s7 s8 s9 s10 (.sh (qsD R)) (.sh (isD E)) s13' s14' s15' s16', t') := by
  obtain ⟨O, t1, hO, e1⟩ := lot_run (R := R) (by omega) (s2 := s2) (s3 := .sh (wsD ws)) (s4 := s4) (s5 := s5) (s6 := s6) (s7 := s7) (s8 := s8) (s9 := s9) (s10 := s10) (s12 := .sh (isD E)) (s13 := s13) (s14 := s14) (s15 := s15) (s16 := s16) t
  have e1' := fn_ev (g := tuple1) (r := isD O) e1 rfl
  obtain ⟨A, hA, e2⟩ := alone_run hR (by omega) (s2 := s2) (s3 := .sh (wsD ws)) (s4 := s4) (s5 := s5) (s6 := s6) (s7 := s7) (s8 := s8) (s9 := s9) (s10 := s10) (s12 := .sh (isD E)) (s13 := .sh (isD O)) (s14 := s14) (s15 := s15) (s16 := s16) t1
  have e2' := fn_ev (g := tuple1) (r := isD A) e2 rfl
  obtain ⟨K, W, t2, hc, e3⟩ := kind_run hw hR hl hE hO hA (s2 := s2) (s4 := s4) (s5 := s5) (s6 := s6) (s7 := s7) (s8 := s8) (s9 := s9) (s10 := s10) (s15 := s15) (s16 := s16) t1
  have e4 := ask_run hc (s2 := s2) (s3 := .sh (wsD ws)) (s4 := s4) (s5 := s5) (s6 := s6) (s7 := s7) (s8 := s8) (s9 := s9) (s10 := s10) (s12 := .sh (isD E)) (s13 := .sh (isD O)) (s14 := .sh (isD A)) t2
  refine ⟨.sh (isD O), .sh (isD A), .sh (.str K), .sh W, t2, ?_⟩
  unfold lb_law_1
  exact scons_nx (Z := td) (sset_at (e2 := gE s2 (.sh (wsD ws)) s4 s5 s6 s7 s8 s9 s10 (.sh (qsD R)) (.sh (isD E)) (.sh (isD O)) s14 s15 s16) e1' rfl) (scons_nx (Z := td) (sset_at (e2 := gE s2 (.sh (wsD ws)) s4 s5 s6 s7 s8 s9 s10 (.sh (qsD R)) (.sh (isD E)) (.sh (isD O)) (.sh (isD A)) s15 s16) e2' rfl) (scons_nx (Z := td) e3 e4))
theorem eight_loop {ws : List Str} (hw : Wds ws) {R : List Qu} (hR : Oks R) (hl : R.length ≤ 7) {E : List Nat} (hE : Lot R.length E) {s2 s4 s5 s6 s7 s8 s9 s10 s13 s14 s15 s16 : Sl} (t : Td) : ∃ (s7' s13' s14' s15' s16' : Sl) (t' : Td),
    l_law_1 (gE s2 (.sh (wsD ws)) s4 s5 s6 s7 s8 s9 s10 (.sh (qsD R)) (.sh (isD E)) s13 s14 s15 s16) t = some (.nx, gE s2 (.sh (wsD ws)) s4 s5 s6 s7' s8 s9 s10 (.sh (qsD R)) (.sh (isD E)) s13' s14' s15' s16', t') := by
  obtain ⟨e', t', l1, s7', a, b, c, d, rfl⟩ := forL_nx (Z := td) (g := gset 7) (b := lb_law_1) (ds := (List.range 8).map nD) (e := gE s2 (.sh (wsD ws)) s4 s5 s6 s7 s8 s9 s10 (.sh (qsD R)) (.sh (isD E)) s13 s14 s15 s16) (t := t)
    (fun i e t1 => ∃ s7' a b c d : Sl, e = gE s2 (.sh (wsD ws)) s4 s5 s6 s7' s8 s9 s10 (.sh (qsD R)) (.sh (isD E)) a b c d) ⟨_, _, _, _, _, rfl⟩ fun i d e t1 hd hi => by
      obtain ⟨s7', a, b, c, d', rfl⟩ := hi
      obtain ⟨a2, b2, c2, d2, t', e⟩ := eight_run hw hR hl hE (s2 := s2) (s4 := s4) (s5 := s5) (s6 := s6) (s7 := .sh d) (s8 := s8) (s9 := s9) (s10 := s10) (s13 := a) (s14 := b) (s15 := c) (s16 := d') t1
      exact ⟨_, rfl, .nx, _, t', e, .inl rfl, _, _, _, _, _, rfl⟩
  exact ⟨s7', a, b, c, d, t', sfor_nx (Z := td) (rng_c 8 (by omega) _ t) l1⟩
/-! ### a turn -/
theorem abcd_wds (r : Nat) (hr : r < 4) : Wds ((["a", "b", "c", "d"] : List Str).take (r + 1)) := by
  refine ⟨fun x hx => ?_, ?_, ?_⟩
  · have := List.mem_of_mem_take hx
    simp only [List.mem_cons, List.not_mem_nil, or_false] at this
    rcases this with rfl | rfl | rfl | rfl <;> decide +kernel
  · rw [List.length_take]; simp; omega
  · rw [List.length_take]; simp; omega
theorem turn_words {e : List Sl} (h1 : e[1]? = some (.sh .tape)) (t : Td) : ∃ (ws : List Str) (t' : Td), Wds ws ∧ mslice sliceD (.e (mlst (mcons (mcst (.str "a")) (mcons (mcst (.str "b")) (mcons (mcst (.str "c")) (mcons (mcst (.str "d")) mnil)))))) onone (osome (mop addD (.e (mcst (.int 1))) (.e (mcall 2 f__law_next (mcons (mvar 1) (mcons (mcst (.int 4)) mnil)))))) e t = some (wsD ws, e, t') := by
  obtain ⟨r, t', q, hr⟩ := next_ex 4 (by omega) (by omega) t
  have q : f__law_next [.tape, .int 4] t = some (nD r, t') := q
  refine ⟨_, t', abcd_wds r hr, ?_⟩
  have ad : addD (.int 1) (nD r) = some (.int ((r + 1 : Nat) : Int)) := by simp [addD]; omega
  have sl : sliceD (.lst [.str "a", .str "b", .str "c", .str "d"]) none (some ((r + 1 : Nat) : Int)) = some (wsD ((["a", "b", "c", "d"] : List Str).take (r + 1))) := by
    show some (D.lst (cutD _ none _)) = _
    rw [cut_take]
    unfold wsD
    rw [List.map_take]; rfl
  generalize wsD ((["a", "b", "c", "d"] : List Str).take (r + 1)) = WW at sl ⊢
  generalize ((r + 1 : Nat) : Int) = r1 at ad sl
  generalize nD r = R at q ad
  obtain ⟨F, hF⟩ : ∃ z, z = f__law_next := ⟨_, rfl⟩
  rw [← hF] at q ⊢
  clear hF
  simp [mop, ev2, ev1, evA, getA, look, slotOk, mcst, mvar, asB, mlst, mtup, mcons, mnil, mfn, mfnL, evN, evAs, getAs, mite, band, bor, bnot, mand, mor, mnot, mcall, iseq, irange1, irange2, sset, ssetO, sret, sdrop, snil, sif, gset, mmut, isL1, ssub, spar, evOs, setSls, slOf, sasg, gtup, gcons, gnil, mslice, osome, onone, mopL, mlensetA, misinst, mmt, kindD, saug, byes, q, ad, sl, h1]
theorem turn_made {WS Q M O : D} {s2 s4 s5 s6 s7 s8 s9 s10 s11 s12 s13 s14 s15 s16 : Sl} {t t' : Td} (h : f__law_made [.tape, WS] t = some (.tup [Q, M, O], t')) : sasg (Z := td) (gtup 3 (gcons (gset 4) (gcons (gset 5) (gcons (gset 6) gnil)))) (mcall 2 f__law_made (mcons (mvar 1) (mcons (mvar 3) mnil))) (gE s2 (.sh WS) s4 s5 s6 s7 s8 s9 s10 s11 s12 s13 s14 s15 s16) t = some (.nx, gE s2 (.sh WS) (.sh Q) (.sh M) (.sh O) s7 s8 s9 s10 s11 s12 s13 s14 s15 s16, t') := by
  unfold gE
  obtain ⟨F, hF⟩ : ∃ z, z = f__law_made := ⟨_, rfl⟩
  rw [← hF] at h ⊢
  clear hF
  simp [mop, ev2, ev1, evA, getA, look, slotOk, mcst, mvar, asB, mlst, mtup, mcons, mnil, mfn, mfnL, evN, evAs, getAs, mite, band, bor, bnot, mand, mor, mnot, mcall, iseq, irange1, irange2, sset, ssetO, sret, sdrop, snil, sif, gset, mmut, isL1, ssub, spar, evOs, setSls, slOf, sasg, gtup, gcons, gnil, mslice, osome, onone, mopL, mlensetA, misinst, mmt, kindD, saug, byes, h]
theorem turn_ask {Q M O : D} {s2 s3 s7 s8 s9 s10 s11 s12 s13 s14 s15 s16 : Sl} {t : Td} (h1 : f_accepts_ordered [Q, .tup [.str "order", O, M]] t = some (.bl true, t)) (h2 : f__law_odd [Q, M, O] t = some (.bl true, t)) : sif (Z := td) (bor (asB (mop isntBD (.e (mcall 2 f_accepts_ordered (mcons (mvar 4) (mcons (mtup (mcons (mcst (.str "order")) (mcons (mvar 6) (mcons (mvar 5) mnil)))) mnil)))) (.e (mcst (.bl true))))) (bnot (asB (mcall 3 f__law_odd (mcons (mvar 4) (mcons (mvar 5) (mcons (mvar 6) mnil))))))) (sret (mcst (.bl false))) snil (gE s2 s3 (.sh Q) (.sh M) (.sh O) s7 s8 s9 s10 s11 s12 s13 s14 s15 s16) t = some (.nx, gE s2 s3 (.sh Q) (.sh M) (.sh O) s7 s8 s9 s10 s11 s12 s13 s14 s15 s16, t) := by
  have b : isntBD (.bl true) (.bl true) = some (.bl false) := rfl
  unfold gE
  obtain ⟨F1, hF1⟩ : ∃ z, z = f_accepts_ordered := ⟨_, rfl⟩
  rw [← hF1] at h1 ⊢
  clear hF1
  obtain ⟨F2, hF2⟩ : ∃ z, z = f__law_odd := ⟨_, rfl⟩
  rw [← hF2] at h2 ⊢
  clear hF2
  simp [mop, ev2, ev1, evA, getA, look, slotOk, mcst, mvar, asB, mlst, mtup, mcons, mnil, mfn, mfnL, evN, evAs, getAs, mite, band, bor, bnot, mand, mor, mnot, mcall, iseq, irange1, irange2, sset, ssetO, sret, sdrop, snil, sif, gset, mmut, isL1, ssub, spar, evOs, setSls, slOf, sasg, gtup, gcons, gnil, mslice, osome, onone, mopL, mlensetA, misinst, mmt, kindD, saug, byes, h1, h2, b]
theorem turn_run {s2 s3 s4 s5 s6 s7 s8 s9 s10 s11 s12 s13 s14 s15 s16 : Sl} (t : Td) : ∃ (s3' s4' s5' s6' s7' s8' s9' s10' s11' s12' s13' s14' s15' s16' : Sl) (t' : Td), lb_law_3 (gE s2 s3 s4 s5 s6 s7 s8 s9 s10 s11 s12 s13 s14 s15 s16) t = some (.nx, gE s2 s3' s4' s5' s6' s7' s8' s9' s10' s11' s12' s13' s14' s15' s16', t') := by
  obtain ⟨ws, t1, hw, e1⟩ := turn_words (e := gE s2 s3 s4 s5 s6 s7 s8 s9 s10 s11 s12 s13 s14 s15 s16) rfl t
  obtain ⟨Q, M, o, t2, hm, e2⟩ := made_run hw t1
  have ql := hm.w.len
  have n7 := hm.n7
  have ol := hm.ol
  have a := acc_run (Q := Q) (by omega) hm.okM (by omega) hm.ob (by omega) t2
  rw [hm.men, hm.ord] at a
  have e3 := turn_ask (s2 := s2) (s3 := .sh (wsD ws)) (s7 := s7) (s8 := s8) (s9 := s9) (s10 := s10) (s11 := s11) (s12 := s12) (s13 := s13) (s14 := s14) (s15 := s15) (s16 := s16) a (odd_run hm t2)
  obtain ⟨s7', s8', s9', s10', t3, e4⟩ := six_loop hw hm (s2 := s2) (s7 := s7) (s8 := s8) (s9 := s9) (s10 := s10) (s11 := s11) (s12 := s12) (s13 := s13) (s14 := s14) (s15 := s15) (s16 := s16) t2
  obtain ⟨R, t4, ⟨hR, rl⟩, e5⟩ := other_run hw hm.okQ (by omega) (s2 := s2) (s5 := .sh (qsD M)) (s6 := .sh (isD o)) (s7 := s7') (s8 := s8') (s9 := s9') (s10 := s10') (s11 := s11) (s12 := s12) (s13 := s13) (s14 := s14) (s15 := s15) (s16 := s16) t3
  have e5' := fn_ev (g := tuple1) (r := qsD R) e5 rfl
  have e6 := ends_run (R := R) (by omega) (s2 := s2) (s3 := .sh (wsD ws)) (s4 := .sh (qsD Q)) (s5 := .sh (qsD M)) (s6 := .sh (isD o)) (s7 := s7') (s8 := s8') (s9 := s9') (s10 := s10') (s12 := s12) (s13 := s13) (s14 := s14) (s15 := s15) (s16 := s16) t4
  have e6' := fn_ev (g := tuple1) (r := isD (endsL R)) e6 rfl
  have hE : Lot R.length (endsL R) := ⟨fun k hk => (mem_ends.mp hk).1, by
    unfold endsL
    exact Nat.le_trans (List.length_filter_le _ _) (by rw [List.length_range]; omega)⟩
  obtain ⟨s7'', a13, a14, a15, a16, t5, e7⟩ := eight_loop hw hR (by omega) hE (s2 := s2) (s4 := .sh (qsD Q)) (s5 := .sh (qsD M)) (s6 := .sh (isD o)) (s7 := s7') (s8 := s8') (s9 := s9') (s10 := s10') (s13 := s13) (s14 := s14) (s15 := s15) (s16 := s16) t4
  refine ⟨.sh (wsD ws), .sh (qsD Q), .sh (qsD M), .sh (isD o), s7'', s8', s9', s10', .sh (qsD R), .sh (isD (endsL R)), a13, a14, a15, a16, t5, ?_⟩
  unfold lb_law_3
  exact scons_nx (Z := td) (sset_at (e2 := gE s2 (.sh (wsD ws)) s4 s5 s6 s7 s8 s9 s10 s11 s12 s13 s14 s15 s16) e1 rfl)
    (scons_nx (Z := td) (turn_made e2)
    (scons_nx (Z := td) e3
    (scons_nx (Z := td) e4
    (scons_nx (Z := td) (sset_at (e2 := gE s2 (.sh (wsD ws)) (.sh (qsD Q)) (.sh (qsD M)) (.sh (isD o)) s7' s8' s9' s10' (.sh (qsD R)) s12 s13 s14 s15 s16) e5' rfl)
    (scons_nx (Z := td) (sset_at (e2 := gE s2 (.sh (wsD ws)) (.sh (qsD Q)) (.sh (qsD M)) (.sh (isD o)) s7' s8' s9' s10' (.sh (qsD R)) (.sh (isD (endsL R))) s13 s14 s15 s16) e6' rfl) e7)))))
theorem plain : ∀ ns : List Int, ns.length ≤ 63 → ∃ T' e', m_law (.no :: .sh .tape :: List.replicate 17 .no) (startD 91 ns) = some (.rt (.bl true), e', T') := by
  intro ns _
  obtain ⟨e', t', l1, s2, s3, s4, s5, s6, s7, s8, s9, s10, s11, s12, s13, s14, s15, s16, rfl⟩ := forL_nx (Z := td) (g := gset 2) (b := lb_law_3) (ds := (List.range 4).map nD) (e := gE .no .no .no .no .no .no .no .no .no .no .no .no .no .no .no) (t := startD 91 ns)
    (fun i e t1 => ∃ s2 s3 s4 s5 s6 s7 s8 s9 s10 s11 s12 s13 s14 s15 s16 : Sl, e = gE s2 s3 s4 s5 s6 s7 s8 s9 s10 s11 s12 s13 s14 s15 s16) ⟨_, _, _, _, _, _, _, _, _, _, _, _, _, _, _, rfl⟩ fun i d e t1 hd hi => by
      obtain ⟨s2, s3, s4, s5, s6, s7, s8, s9, s10, s11, s12, s13, s14, s15, s16, rfl⟩ := hi
      obtain ⟨b3, b4, b5, b6, b7, b8, b9, b10, b11, b12, b13, b14, b15, b16, t', e⟩ := turn_run (s2 := .sh d) (s3 := s3) (s4 := s4) (s5 := s5) (s6 := s6) (s7 := s7) (s8 := s8) (s9 := s9) (s10 := s10) (s11 := s11) (s12 := s12) (s13 := s13) (s14 := s14) (s15 := s15) (s16 := s16) t1
      exact ⟨_, rfl, .nx, _, t', e, .inl rfl, _, _, _, _, _, _, _, _, _, _, _, _, _, _, _, rfl⟩
  have hl : l_law_3 (gE .no .no .no .no .no .no .no .no .no .no .no .no .no .no .no) (startD 91 ns) = some (.nx, gE s2 s3 s4 s5 s6 s7 s8 s9 s10 s11 s12 s13 s14 s15 s16, t') := sfor_nx (Z := td) (rng_c 4 (by omega) _ _) l1
  refine ⟨t', gE s2 s3 s4 s5 s6 s7 s8 s9 s10 s11 s12 s13 s14 s15 s16, ?_⟩
  show m_law (gE .no .no .no .no .no .no .no .no .no .no .no .no .no .no .no) (startD 91 ns) = _
  exact scons_nx (Z := td) hl rfl
end K91

open PySem PySem.W PySem.Calls PyProof.Rows in
theorem PySem.Challenge.cw_elderfolios_k91_worn_quires_judged_holds : PySem.Challenge.rw_elderfolios_k91_worn_quires_judged.Holds := by
  w_on; o_law
  refine HandSHeadRun.head_any (r := OpenLaw.row PySem.Challenge.rw_elderfolios_k91_worn_quires_judged) (q := view (OpenLaw.row PySem.Challenge.rw_elderfolios_k91_worn_quires_judged).prog [28]) (H := K91.hk) (ob := K91.ob) (M := 2000) (loose := K91.names) (d := HandSHeadRun.topDef (OpenLaw.row PySem.Challenge.rw_elderfolios_k91_worn_quires_judged).prog 28) (kwd := []) K91.ob_eq
    (by kernel_rfl) (fun s => by kernel_rfl) K91.run (by kernel_rfl) (by kernel_rfl) (by kernel_rfl) (by rfl) (by first | assumption | decide +kernel) (by decide +kernel) ⟨rfl, rfl, rfl, rfl, rfl, by decide +kernel⟩ ?hw ?hc
  case hw => w_witness2
  case hc =>
    refine L2.walk_ofE (l := PySem.Challenge.rw_elderfolios_k91_worn_quires_judged) (n := 63) (k := 6) (x := "script") (CX := L2.CX0) rfl (by decide) (by kernel_rfl) ⟨rfl, by decide, by decide⟩ ?F (fun _ _ _ _ z => z)
    intro w mg fa h Y G hmg0
    obtain ⟨K, KX, c⟩ := Y
    have hmg : mg ("law" : PySem.Str) = some (.ref fa) := by
      have e : (HandSHeadRun.topDef (OpenLaw.row PySem.Challenge.rw_elderfolios_k91_worn_quires_judged).prog 28).name = ("law" : PySem.Str) := by kernel_rfl
      rw [← e]
      exact hmg0
    obtain ⟨fd, hb, hF⟩ := K91.facts K91.plain (P := (PySem.Challenge.rw_elderfolios_k91_worn_quires_judged).prog) (w := w) KX G hmg c
    exact ⟨K, fd, DL.spLaw K, KX, hb, fun H a ns hl _ hS => ⟨a, ns, rfl, hS, hl, fun _ => rfl⟩, hF⟩
#print axioms PySem.Challenge.cw_elderfolios_k91_worn_quires_judged_holds

