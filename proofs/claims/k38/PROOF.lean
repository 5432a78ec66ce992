import PyProof.Rows.All
import Wide.All
import OpenK.AllK
import Wide.FinOn
import HandS.ForMost
import HandS.Deep
import HandS.TupAny
import HandS.TupMul
import HandS.IsInst
import HandS.More
import PyProof.SeqIndex
import HandS.Style
import HandS.SortInts
import PyProof.Rows.SetFrom
import PyProof.Rows.SetListFold
import KE.KStateDown
import Lean
import HandS.Ends
import HandS.Words
import HandS.WordsExc
import HandS.Defaults
import HandS.Head0
import HandS.Head1
import HandS.Head2
import HandS.HeadEnd
import HandS.HeadHook1
import HandS.HeadHook2
import PySem.Challenge.RW_elderfolios_k38_whole_scribes_change_rea
set_option Elab.async false
set_option maxRecDepth 100000
set_option linter.unusedVariables false
set_option linter.unusedSimpArgs false
set_option linter.unnecessarySimpa false
/-! The data layer, 1: trees of data, what holds them, ownership, the step relation. -/
namespace DL
open PySem L2

/-- a tree of data -/
inductive D where
  | non | bl (b : Bool) | int (i : Int) | str (x : Str)
  | tup (xs : List D) | lst (xs : List D)
  | dic (ks vs : List D) | set (xs : List D) | tape

/-- a slot of a def: nothing known, shared data, a list that the slot alone owns (to a depth) -/
inductive Sl where
  | no | sh (d : D) | ow (n : Nat) (d : D)

/-- the draws' tape: objects at fixed addresses -/
structure TSys where
  T : Type
  Ad : Type
  addrs : Ad → List Addr
  root : Ad → V
  At : Ad → T → Hp → Prop
  loc : ∀ {a t} {H H' : Hp}, At a t H → (∀ b ∈ addrs a, H' b = H b) → At a t H'
  has : ∀ {a t} {H : Hp} {b}, At a t H → b ∈ addrs a → ∃ o, H b = some o

/-- a key of a dict -/
def keyD : D → Option Key
  | .int i => some (.inl i)
  | .str x => some (.inr x)
  | _ => none
def keysD : List D → Option (List Key)
  | [] => some []
  | d :: ds => do
    let k ← keyD d
    let ks ← keysD ds
    some (k :: ks)
def keyTD : D → Option (List Key)
  | .tup ds => keysD ds
  | _ => none
def keysTD : List D → Option (List (List Key))
  | [] => some []
  | d :: ds => do
    let k ← keyTD d
    let ks ← keysTD ds
    some (k :: ks)

/-- a plain tuple at a: its object is known, it has no dict -/
def TupF (F : Hp) (a : Addr) (vs : List V) : Prop := ∃ o : Obj, F a = some (.frz o (.tup vs)) ∧ o.dict = none
theorem TupF.mono {F G : Hp} {a : Addr} {vs : List V} (s : Same F G) (h : TupF F a vs) : TupF G a vs := let ⟨o, e, d⟩ := h; ⟨o, s _ _ e, d⟩
theorem TupF.sq {K : PySem.W.Frag} {F : Hp} {a : Addr} {vs : List V} (h : TupF F a vs) : SqT K F a vs := let ⟨o, e, _⟩ := h; .inl (.inr ⟨o, e⟩)
mutual
def Holds (rt : V) (F : Hp) : D → V → Prop
  | .non, v => v = .non
  | .bl b, v => v = .bl b
  | .int i, v => v = .int i
  | .str x, v => v = .str x
  | .tup ds, v => ∃ a vs, v = .ref a ∧ TupF F a vs ∧ HoldsL rt F ds vs
  | .lst ds, v => ∃ a vs, v = .ref a ∧ F a = some (.lst vs) ∧ HoldsL rt F ds vs
  | .dic ks ds, v => ∃ a vs, v = .ref a ∧ HoldsL rt F ds vs ∧ ((∃ kk, keysD ks = some kk ∧ kk.length = vs.length ∧ F a = some (.dK (kk.zip vs))) ∨ (∃ kk, keysTD ks = some kk ∧ kk.length = vs.length ∧ F a = some (.dT (kk.zip vs))))
  | .set _, _ => False
  | .tape, v => v = rt
def HoldsL (rt : V) (F : Hp) : List D → List V → Prop
  | [], vs => vs = []
  | d :: ds, vs => ∃ v r, vs = v :: r ∧ Holds rt F d v ∧ HoldsL rt F ds r
end

mutual
theorem Holds.mono {rt : V} {F G : Hp} (s : Same F G) : ∀ {d : D} {v : V}, Holds rt F d v → Holds rt G d v
  | .non, _, h => by simpa only [Holds] using h
  | .bl _, _, h => by simpa only [Holds] using h
  | .int _, _, h => by simpa only [Holds] using h
  | .str _, _, h => by simpa only [Holds] using h
  | .tape, _, h => by simpa only [Holds] using h
  | .set _, _, h => by simp only [Holds] at h
  | .tup ds, _, h => by
    simp only [Holds] at h ⊢
    obtain ⟨a, vs, e, f, l⟩ := h
    exact ⟨a, vs, e, f.mono s, HoldsL.mono s l⟩
  | .lst ds, _, h => by
    simp only [Holds] at h ⊢
    obtain ⟨a, vs, e, f, l⟩ := h
    exact ⟨a, vs, e, s _ _ f, HoldsL.mono s l⟩
  | .dic ks ds, _, h => by
    simp only [Holds] at h ⊢
    obtain ⟨a, vs, e, l, f⟩ := h
    refine ⟨a, vs, e, HoldsL.mono s l, ?_⟩
    rcases f with ⟨kk, f1, f2, f3⟩ | ⟨kk, f1, f2, f3⟩
    · exact .inl ⟨kk, f1, f2, s _ _ f3⟩
    · exact .inr ⟨kk, f1, f2, s _ _ f3⟩
theorem HoldsL.mono {rt : V} {F G : Hp} (s : Same F G) : ∀ {ds : List D} {vs : List V}, HoldsL rt F ds vs → HoldsL rt G ds vs
  | [], _, h => by simpa only [HoldsL] using h
  | d :: ds, _, h => by
    simp only [HoldsL] at h ⊢
    obtain ⟨v, r, e, h1, h2⟩ := h
    exact ⟨v, r, e, h1.mono s, h2.mono s⟩
end
theorem HoldsL.length {rt : V} {F : Hp} : ∀ {ds : List D} {vs : List V}, HoldsL rt F ds vs → vs.length = ds.length
  | [], _, h => by simp only [HoldsL] at h; rw [h]; rfl
  | d :: ds, _, h => by
    simp only [HoldsL] at h
    obtain ⟨v, r, rfl, _, h2⟩ := h
    simp only [List.length_cons, h2.length]
theorem HoldsL.get {rt : V} {F : Hp} : ∀ {ds : List D} {vs : List V} {i : Nat} {d : D}, HoldsL rt F ds vs → ds[i]? = some d → ∃ v, vs[i]? = some v ∧ Holds rt F d v
  | [], _, _, _, _, e => by simp at e
  | d :: ds, _, 0, x, h, e => by
    simp only [HoldsL] at h
    obtain ⟨v, r, rfl, h1, _⟩ := h
    simp at e; subst e
    exact ⟨v, rfl, h1⟩
  | d :: ds, _, i + 1, x, h, e => by
    simp only [HoldsL] at h
    obtain ⟨v, r, rfl, _, h2⟩ := h
    obtain ⟨w, e1, e2⟩ := h2.get (i := i) (by simpa using e)
    exact ⟨w, by simpa using e1, e2⟩
theorem HoldsL.app {rt : V} {F : Hp} : ∀ {ds es : List D} {vs us : List V}, HoldsL rt F ds vs → HoldsL rt F es us → HoldsL rt F (ds ++ es) (vs ++ us)
  | [], _, _, _, h, k => by simp only [HoldsL] at h; subst h; exact k
  | d :: ds, _, _, _, h, k => by
    simp only [HoldsL, List.cons_append] at h ⊢
    obtain ⟨v, r, rfl, h1, h2⟩ := h
    exact ⟨v, _, rfl, h1, h2.app k⟩
theorem HoldsL.nil {rt : V} {F : Hp} : HoldsL rt F [] [] := by simp only [HoldsL]
theorem HoldsL.one {rt : V} {F : Hp} {d : D} {v : V} (h : Holds rt F d v) : HoldsL rt F [d] [v] := by
  simp only [HoldsL]; exact ⟨v, [], rfl, h, rfl⟩
theorem HoldsL.cons {rt : V} {F : Hp} {d : D} {v : V} {ds : List D} {vs : List V} (h : Holds rt F d v) (k : HoldsL rt F ds vs) : HoldsL rt F (d :: ds) (v :: vs) := by
  simp only [HoldsL]; exact ⟨v, vs, rfl, h, k⟩
theorem HoldsL.of_get {rt : V} {F : Hp} : ∀ {ds : List D} {vs : List V}, vs.length = ds.length → (∀ (i : Nat) (d : D) (v : V), ds[i]? = some d → vs[i]? = some v → Holds rt F d v) → HoldsL rt F ds vs
  | [], [], _, _ => .nil
  | [], _ :: _, e, _ => by simp at e
  | _ :: _, [], e, _ => by simp at e
  | d :: ds, v :: vs, e, h => .cons (h 0 d v rfl rfl) (HoldsL.of_get (by simpa using e) fun i x y h1 h2 => h (i + 1) x y (by simpa using h1) (by simpa using h2))
theorem HoldsL.take {rt : V} {F : Hp} {ds : List D} {vs : List V} (h : HoldsL rt F ds vs) (n : Nat) : HoldsL rt F (ds.take n) (vs.take n) := by
  refine .of_get (by rw [List.length_take, List.length_take, h.length]) fun i d v h1 h2 => ?_
  rw [List.getElem?_take] at h1 h2
  split at h1
  · rename_i q
    rw [if_pos q] at h2
    obtain ⟨w, e1, e2⟩ := h.get h1
    rw [h2] at e1; cases e1; exact e2
  · cases h1
theorem HoldsL.drop {rt : V} {F : Hp} {ds : List D} {vs : List V} (h : HoldsL rt F ds vs) (n : Nat) : HoldsL rt F (ds.drop n) (vs.drop n) := by
  refine .of_get (by rw [List.length_drop, List.length_drop, h.length]) fun i d v h1 h2 => ?_
  rw [List.getElem?_drop] at h1 h2
  obtain ⟨w, e1, e2⟩ := h.get h1
  rw [h2] at e1; cases e1; exact e2
theorem HoldsL.set {rt : V} {F : Hp} {ds : List D} {vs : List V} (h : HoldsL rt F ds vs) (n : Nat) {d : D} {v : V} (k : Holds rt F d v) : HoldsL rt F (ds.set n d) (vs.set n v) := by
  refine .of_get (by rw [List.length_set, List.length_set, h.length]) fun i x y h1 h2 => ?_
  by_cases e : n = i
  · subst e
    rw [List.getElem?_set] at h1 h2
    simp only [if_true] at h1 h2
    split at h1
    · split at h2
      · cases h1; cases h2; exact k
      · cases h2
    · cases h1
  · rw [List.getElem?_set_ne e] at h1 h2
    obtain ⟨w, e1, e2⟩ := h.get h1
    rw [h2] at e1; cases e1; exact e2
theorem HoldsL.eraseIdx {rt : V} {F : Hp} : ∀ {ds : List D} {vs : List V} (n : Nat), HoldsL rt F ds vs → HoldsL rt F (ds.eraseIdx n) (vs.eraseIdx n)
  | [], _, n, h => by simp only [HoldsL] at h; subst h; exact .nil
  | d :: ds, _, 0, h => by
    simp only [HoldsL] at h
    obtain ⟨v, r, rfl, _, h2⟩ := h
    exact h2
  | d :: ds, _, n + 1, h => by
    simp only [HoldsL] at h
    obtain ⟨v, r, rfl, h1, h2⟩ := h
    exact .cons h1 (h2.eraseIdx n)

/-! ### ownership -/
section
variable (rt : V) (F H : Hp)
def OwnL (P : D → V → List Addr → Prop) : List D → List V → List Addr → Prop
  | [], vs, A => vs = [] ∧ A = []
  | d :: ds, vs, A => ∃ v r A1 A2, vs = v :: r ∧ A = A1 ++ A2 ∧ P d v A1 ∧ OwnL P ds r A2
/-- the one object at p, its items held by P -/
def OwnAt (P : D → V → List Addr → Prop) (p : Addr) : D → List Addr → Prop
  | .lst ds, A => ∃ vs, H p = some (.lst vs) ∧ OwnL P ds vs A
  | .dic ks ds, A => A = [] ∧ ∃ vs, HoldsL rt F ds vs ∧ ((∃ kk, keysD ks = some kk ∧ kk.length = vs.length ∧ H p = some (.dK (kk.zip vs))) ∨ (∃ kk, keysTD ks = some kk ∧ kk.length = vs.length ∧ H p = some (.dT (kk.zip vs))))
  | _, _ => False
def Own : Nat → D → V → List Addr → Prop
  | 0, d, v, A => A = [] ∧ Holds rt F d v
  | n + 1, d, v, A => ∃ p B, v = .ref p ∧ F p = none ∧ A = p :: B ∧ OwnAt rt F H (Own n) p d B
def SlotR : Sl → Option V → List Addr → Prop
  | .no, _, A => A = []
  | .sh d, o, A => A = [] ∧ ∃ v, o = some v ∧ Holds rt F d v
  | .ow n d, o, A => ∃ v, o = some v ∧ Own rt F H n d v A
def EnvR : List Sl → L2.St → List Addr → Prop
  | [], σ, A => σ = [] ∧ A = []
  | s :: ss, σ, A => ∃ o r A1 A2, σ = o :: r ∧ A = A1 ++ A2 ∧ SlotR rt F H s o A1 ∧ EnvR ss r A2
end
section
variable {rt : V} {F H F' H' : Hp}
theorem OwnL.imp {P Q : D → V → List Addr → Prop} : ∀ {ds : List D} {vs : List V} {A : List Addr}, OwnL P ds vs A → (∀ d v B, (∀ a ∈ B, a ∈ A) → P d v B → Q d v B) → OwnL Q ds vs A
  | [], _, _, h, _ => h
  | d :: ds, _, _, h, f => by
    obtain ⟨v, r, A1, A2, e1, e2, h1, h2⟩ := h
    subst e1 e2
    exact ⟨v, r, A1, A2, rfl, rfl, f _ _ _ (fun a ha => List.mem_append_left _ ha) h1, h2.imp fun d v B hB => f d v B fun a ha => List.mem_append_right _ (hB a ha)⟩
/-- what is owned stays where its objects stay -/
theorem Own.keep (s : Same F F') : ∀ {n : Nat} {d : D} {v : V} {A : List Addr}, Own rt F H n d v A → (∀ a ∈ A, H' a = H a ∧ F' a = none) → Own rt F' H' n d v A
  | 0, _, _, _, h, _ => ⟨h.1, h.2.mono s⟩
  | n + 1, d, v, A, h, k => by
    obtain ⟨p, B, e, f, eA, q⟩ := h
    subst eA
    obtain ⟨k1, k2⟩ := k p List.mem_cons_self
    refine ⟨p, B, e, k2, rfl, ?_⟩
    cases d with
    | lst ds =>
      obtain ⟨vs, h1, h2⟩ := q
      exact ⟨vs, k1.trans h1, h2.imp fun d v C hC hP => hP.keep s fun a ha => k a (List.mem_cons_of_mem _ (hC a ha))⟩
    | dic ks ds =>
      obtain ⟨e0, vs, l, f⟩ := q
      refine ⟨e0, vs, l.mono s, ?_⟩
      rcases f with ⟨kk, f1, f2, f3⟩ | ⟨kk, f1, f2, f3⟩
      · exact .inl ⟨kk, f1, f2, k1.trans f3⟩
      · exact .inr ⟨kk, f1, f2, k1.trans f3⟩
    | _ => exact q.elim
theorem SlotR.keep (s : Same F F') {x : Sl} {o : Option V} {A : List Addr} (h : SlotR rt F H x o A) (k : ∀ a ∈ A, H' a = H a ∧ F' a = none) : SlotR rt F' H' x o A := by
  cases x with
  | no => exact h
  | sh d => obtain ⟨e, v, e2, q⟩ := h; exact ⟨e, v, e2, q.mono s⟩
  | ow n d => obtain ⟨v, e, q⟩ := h; exact ⟨v, e, q.keep s k⟩
theorem EnvR.keep (s : Same F F') : ∀ {ss : List Sl} {σ : L2.St} {A : List Addr}, EnvR rt F H ss σ A → (∀ a ∈ A, H' a = H a ∧ F' a = none) → EnvR rt F' H' ss σ A
  | [], _, _, h, _ => h
  | x :: ss, _, _, h, k => by
    obtain ⟨o, r, A1, A2, e1, e2, h1, h2⟩ := h
    subst e1 e2
    exact ⟨o, r, A1, A2, rfl, rfl, h1.keep s fun a ha => k a (List.mem_append_left _ ha), h2.keep s fun a ha => k a (List.mem_append_right _ ha)⟩
/-- what is owned stands, and is not frozen -/
theorem Own.at : ∀ {n : Nat} {d : D} {v : V} {A : List Addr}, Own rt F H n d v A → ∀ a ∈ A, F a = none ∧ ∃ o, H a = some o
  | 0, _, _, _, h, a, ha => by rw [h.1] at ha; cases ha
  | n + 1, d, v, A, h, a, ha => by
    obtain ⟨p, B, e, f, eA, q⟩ := h
    subst eA
    have hl : ∀ {ds : List D} {vs : List V} {B : List Addr}, OwnL (Own rt F H n) ds vs B → ∀ a ∈ B, F a = none ∧ ∃ o, H a = some o := by
      intro ds
      induction ds with
      | nil => intro vs B h a ha; rw [h.2] at ha; cases ha
      | cons d ds ih =>
        intro vs B h a ha
        obtain ⟨v, r, A1, A2, e1, e2, h1, h2⟩ := h
        subst e2
        rcases List.mem_append.mp ha with z | z
        · exact Own.at h1 a z
        · exact ih h2 a z
    cases d with
    | lst ds =>
      obtain ⟨vs, h1, h2⟩ := q
      rcases List.mem_cons.mp ha with z | z
      · subst z; exact ⟨f, _, h1⟩
      · exact hl h2 a z
    | dic ks ds =>
      obtain ⟨e0, vs, l, g⟩ := q
      subst e0
      have e1 : a = p := by simpa using ha
      subst e1
      refine ⟨f, ?_⟩
      rcases g with ⟨kk, f1, f2, f3⟩ | ⟨kk, f1, f2, f3⟩
      · exact ⟨_, f3⟩
      · exact ⟨_, f3⟩
    | _ => exact q.elim
theorem SlotR.at {x : Sl} {o : Option V} {A : List Addr} (h : SlotR rt F H x o A) : ∀ a ∈ A, F a = none ∧ ∃ o, H a = some o := by
  cases x with
  | no => intro a ha; rw [show A = [] from h] at ha; cases ha
  | sh d => intro a ha; rw [h.1] at ha; cases ha
  | ow n d => obtain ⟨v, e, q⟩ := h; exact q.at
theorem EnvR.at : ∀ {ss : List Sl} {σ : L2.St} {A : List Addr}, EnvR rt F H ss σ A → ∀ a ∈ A, F a = none ∧ ∃ o, H a = some o
  | [], _, _, h, a, ha => by rw [h.2] at ha; cases ha
  | x :: ss, _, _, h, a, ha => by
    obtain ⟨o, r, A1, A2, e1, e2, h1, h2⟩ := h
    subst e1 e2
    rcases List.mem_append.mp ha with z | z
    · exact h1.at a z
    · exact h2.at a z
theorem EnvR.length : ∀ {ss : List Sl} {σ : L2.St} {A : List Addr}, EnvR rt F H ss σ A → σ.length = ss.length
  | [], _, _, h => by rw [h.1]; rfl
  | x :: ss, _, _, h => by
    obtain ⟨o, r, A1, A2, e1, e2, h1, h2⟩ := h
    subst e1
    simp only [List.length_cons, h2.length]
/-- one slot taken out -/
theorem EnvR.split : ∀ {ss : List Sl} {σ : L2.St} {A : List Addr} {i : Nat} {x : Sl}, EnvR rt F H ss σ A → ss[i]? = some x →
    ∃ o A0 A1 A2, σ[i]? = some o ∧ A = A0 ++ A1 ++ A2 ∧ SlotR rt F H x o A1 ∧
      ∀ {F' H' : Hp} {y : Sl} {o' : Option V} {B : List Addr}, Same F F' → (∀ a ∈ A0 ++ A2, H' a = H a ∧ F' a = none) → SlotR rt F' H' y o' B → EnvR rt F' H' (ss.set i y) (σ.set i o') (A0 ++ B ++ A2)
  | [], _, _, _, _, _, e => by simp at e
  | s :: ss, _, _, 0, x, h, e => by
    obtain ⟨o, r, A1, A2, e1, e2, h1, h2⟩ := h
    subst e1 e2
    simp at e; subst e
    refine ⟨o, [], A1, A2, rfl, rfl, h1, fun {F' H' y o' B} sm k hy => ?_⟩
    exact ⟨o', r, B, A2, rfl, rfl, hy, h2.keep sm fun a ha => k a (by simpa using ha)⟩
  | s :: ss, _, _, i + 1, x, h, e => by
    obtain ⟨o, r, A1, A2, e1, e2, h1, h2⟩ := h
    subst e1 e2
    obtain ⟨o2, B0, B1, B2, q1, q2, q3, q4⟩ := h2.split (i := i) (by simpa using e)
    subst q2
    refine ⟨o2, A1 ++ B0, B1, B2, by simpa using q1, by simp [List.append_assoc], q3, fun {F' H' y o' B} sm k hy => ?_⟩
    refine ⟨o, r.set i o', A1, B0 ++ B ++ B2, rfl, by simp [List.append_assoc], h1.keep sm fun a ha => k a (by simp [ha]), q4 sm (fun a ha => k a ?_) hy⟩
    rcases List.mem_append.mp ha with z | z
    · simp [z]
    · simp [z]
end

/-! ### the state relation -/
structure Rel (Z : TSys) (ad : Z.Ad) (env : List Sl) (T : Z.T) (F : Hp) (σ : L2.St) (H : Hp) (A : List Addr) : Prop where
  same : Same F H
  env : EnvR (Z.root ad) F H env σ A
  nd : A.Nodup
  tp : Z.At ad T H
  tf : ∀ a ∈ Z.addrs ad, F a = none ∧ a ∉ A
/-- what a piece of code may do: F grows by new objects and owned ones, A by new ones; nothing vanishes; all else stands -/
structure Stp (Z : TSys) (ad : Z.Ad) (A : List Addr) (F H : Hp) (A' : List Addr) (F' H' : Hp) : Prop where
  sF : Same F F'
  nF : ∀ a, F' a ≠ none → F a ≠ none ∨ a ∈ A ∨ H a = none
  nA : ∀ a ∈ A', a ∈ A ∨ H a = none
  fr : ∀ a o, H a = some o → a ∉ A → a ∉ Z.addrs ad → H' a = some o
  ex : ∀ a o, H a = some o → ∃ o', H' a = some o'
section
variable {Z : TSys} {ad : Z.Ad} {A A1 A2 : List Addr} {F H F1 H1 F2 H2 : Hp}
theorem Stp.refl : Stp Z ad A F H A F H := ⟨Same.refl _, fun _ h => .inl h, fun _ h => .inl h, fun _ _ h _ _ => h, fun _ o h => ⟨o, h⟩⟩
theorem Stp.none (a : Stp Z ad A F H A1 F1 H1) {p : Addr} (h : H1 p = none) : H p = none := by
  cases q : H p with
  | none => rfl
  | some o => obtain ⟨o', e⟩ := a.ex p o q; rw [h] at e; cases e
theorem Stp.trans (a : Stp Z ad A F H A1 F1 H1) (b : Stp Z ad A1 F1 H1 A2 F2 H2) : Stp Z ad A F H A2 F2 H2 := by
  refine ⟨a.sF.trans b.sF, fun x hx => ?_, fun x hx => ?_, fun x o e hA hx => ?_, fun x o e => ?_⟩
  · rcases b.nF x hx with q | q | q
    · exact a.nF x q
    · exact .inr (a.nA x q)
    · exact .inr (.inr (a.none q))
  · rcases b.nA x hx with q | q
    · exact a.nA x q
    · exact .inr (a.none q)
  · refine b.fr x o (a.fr x o e hA hx) (fun z => ?_) hx
    rcases a.nA x z with q | q
    · exact hA q
    · rw [e] at q; cases q
  · obtain ⟨o1, e1⟩ := a.ex x o e
    exact b.ex x o1 e1
end
end DL

/-! The data layer, 2: combinators and their judgements. -/
namespace DL
open PySem L2

/-! ### expressions -/
abbrev M (Z : TSys) := List Sl → Z.T → Option (D × List Sl × Z.T)
abbrev ML (Z : TSys) := List Sl → Z.T → Option (List D × List Sl × Z.T)
abbrev MB (Z : TSys) := List Sl → Z.T → Option (Bool × List Sl × Z.T)

def den (Z : TSys) (m : M Z) : TE := fun σ H Q => ∃ (ad : Z.Ad) (env : List Sl) (T : Z.T) (F : Hp) (A : List Addr) (r : D) (env' : List Sl) (T' : Z.T),
  Rel Z ad env T F σ H A ∧ m env T = some (r, env', T') ∧ ∀ v H' F' A', Rel Z ad env' T' F' σ H' A' → Stp Z ad A F H A' F' H' → Holds (Z.root ad) F' r v → Q v H'
def denB (Z : TSys) (m : MB Z) : TT := fun σ H Q => ∃ (ad : Z.Ad) (env : List Sl) (T : Z.T) (F : Hp) (A : List Addr) (r : Bool) (env' : List Sl) (T' : Z.T),
  Rel Z ad env T F σ H A ∧ m env T = some (r, env', T') ∧ ∀ H' F' A', Rel Z ad env' T' F' σ H' A' → Stp Z ad A F H A' F' H' → Q r H'
def denL (Z : TSys) (m : ML Z) : TA := fun σ H Q => ∃ (ad : Z.Ad) (env : List Sl) (T : Z.T) (F : Hp) (A : List Addr) (r : List D) (env' : List Sl) (T' : Z.T),
  Rel Z ad env T F σ H A ∧ m env T = some (r, env', T') ∧ ∀ v H' F' A', Rel Z ad env' T' F' σ H' A' → Stp Z ad A F H A' F' H' → HoldsL (Z.root ad) F' r v → Q v H'
/-- a value whose list the new address p alone bears (n: to which depth) -/
def denO (Z : TSys) (n : Nat) (m : M Z) : TE := fun σ H Q => ∃ (ad : Z.Ad) (env : List Sl) (T : Z.T) (F : Hp) (A : List Addr) (r : D) (env' : List Sl) (T' : Z.T),
  Rel Z ad env T F σ H A ∧ m env T = some (r, env', T') ∧ ∀ v H' F' A' B, Rel Z ad env' T' F' σ H' A' → Stp Z ad A F H A' F' H' → Own (Z.root ad) F' H' n r v B → B.Nodup → (∀ a ∈ B, a ∉ A' ∧ H a = none ∧ a ∉ Z.addrs ad) → Q v H'

structure IsE (Z : TSys) (X : Cx) (e : Expr) (m : M Z) : Prop where
  pe : PE X e (den Z m)
structure IsO (Z : TSys) (n : Nat) (X : Cx) (e : Expr) (m : M Z) : Prop where
  pe : PE X e (denO Z n m)
structure IsT (Z : TSys) (X : Cx) (e : Expr) (m : MB Z) : Prop where
  pt : PT X e (denB Z m)
structure IsL (Z : TSys) (X : Cx) (es : List Expr) (m : ML Z) : Prop where
  pa : PA X es (denL Z m)

section
variable {X : Cx} {e : Expr} {es : List Expr}
theorem PE.imp {t u : TE} (h : PE X e t) (f : ∀ σ H Q, u σ H Q → t σ H Q) : PE X e u := ⟨fun pins s σ H Q I q => h.run pins s σ H Q I (f _ _ _ q)⟩
theorem PT.imp {t u : TT} (h : PT X e t) (f : ∀ σ H Q, u σ H Q → t σ H Q) : PT X e u := ⟨fun pins s σ H Q I q => h.run pins s σ H Q I (f _ _ _ q)⟩
theorem PA.imp {t u : TA} (h : PA X es t) (f : ∀ σ H Q, u σ H Q → t σ H Q) : PA X es u := ⟨fun pos pins s σ H Q I q => h.run pos pins s σ H Q I (f _ _ _ q)⟩
theorem PW.imp {t u : TT} (h : PW X e t) (f : ∀ σ H Q, u σ H Q → t σ H Q) : PW X e u := ⟨fun w pins s σ H Q I q => h.run w pins s σ H Q I (f _ _ _ q)⟩
end

/-! ### what a pure operation may do -/
structure New (F H F' H' : Hp) : Prop where
  sF : Same F F'
  sH : Same H H'
  fh : Same F' H'
  nF : ∀ a, F' a ≠ none → F a ≠ none ∨ H a = none
theorem New.refl {F H : Hp} (s : Same F H) : New F H F H := ⟨Same.refl _, Same.refl _, s, fun _ h => .inl h⟩
theorem New.upd {F H : Hp} (s : Same F H) {p : Addr} (hp : H p = none) (o : HO) : New F H (upd F p o) (upd H p o) := by
  have fp : F p = none := s.free hp
  refine ⟨fun a x e => ?_, fun a x e => ?_, fun a x e => ?_, fun a e => ?_⟩
  · rw [upd_ne (ne_of_none e fp)]; exact e
  · rw [upd_ne (ne_of_none e hp)]; exact e
  · by_cases q : a = p
    · subst q; rw [upd_same] at e ⊢; exact e
    · rw [upd_ne q] at e ⊢; exact s _ _ e
  · by_cases q : a = p
    · subst q; exact .inr hp
    · rw [upd_ne q] at e; exact .inl e
section
variable {Z : TSys} {ad : Z.Ad} {env : List Sl} {T : Z.T} {F H F' H' : Hp} {σ : L2.St} {A : List Addr}
theorem Rel.at (R : Rel Z ad env T F σ H A) : ∀ a ∈ A, F a = none ∧ ∃ o, H a = some o := R.env.at
theorem Rel.new (R : Rel Z ad env T F σ H A) (n : New F H F' H') : Rel Z ad env T F' σ H' A ∧ Stp Z ad A F H A F' H' := by
  have keep : ∀ a, F a = none → (∃ o, H a = some o) → H' a = H a ∧ F' a = none := fun a fa ⟨o, ho⟩ => by
    refine ⟨(n.sH _ _ ho).trans ho.symm, ?_⟩
    cases q : F' a with
    | none => rfl
    | some x =>
      rcases n.nF a (by rw [q]; exact fun z => by cases z) with z | z
      · exact absurd fa z
      · rw [ho] at z; cases z
  refine ⟨⟨n.fh, R.env.keep n.sF fun a ha => ?_, R.nd, Z.loc R.tp fun b hb => ?_, fun b hb => ?_⟩, n.sF, fun a h => ?_, fun a h => .inl h, fun a o h _ _ => n.sH _ _ h, fun a o h => ⟨o, n.sH _ _ h⟩⟩
  · obtain ⟨f, o⟩ := R.at a ha; exact keep a f o
  · exact (keep b (R.tf b hb).1 (Z.has R.tp hb)).1
  · exact ⟨(keep b (R.tf b hb).1 (Z.has R.tp hb)).2, (R.tf b hb).2⟩
  · rcases n.nF a h with z | z
    · exact .inl z
    · exact .inr (.inr z)
theorem Rel.upd (R : Rel Z ad env T F σ H A) {p : Addr} (hp : H p = none) (o : HO) : Rel Z ad env T (upd F p o) σ (upd H p o) A ∧ Stp Z ad A F H A (L2.upd F p o) (L2.upd H p o) := R.new (New.upd R.same hp o)
/-- a new object that is not frozen -/
theorem Rel.own (R : Rel Z ad env T F σ H A) {p : Addr} (hp : H p = none) (o : HO) : Rel Z ad env T F σ (L2.upd H p o) A ∧ Stp Z ad A F H A F (L2.upd H p o) := by
  have sm : Same H (L2.upd H p o) := fun a x e => by rw [upd_ne (ne_of_none e hp)]; exact e
  exact R.new ⟨Same.refl _, sm, R.same.trans sm, fun a h => .inl h⟩
theorem Rel.notin (R : Rel Z ad env T F σ H A) {p : Addr} (hp : H p = none) : p ∉ A ∧ p ∉ Z.addrs ad := by
  refine ⟨fun z => ?_, fun z => ?_⟩
  · obtain ⟨_, o, e⟩ := R.at p z; rw [hp] at e; cases e
  · obtain ⟨o, e⟩ := Z.has R.tp z; rw [hp] at e; cases e
theorem Rel.st (R : Rel Z ad env T F σ H A) {A0 : List Addr} {F0 H0 : Hp} (a : Stp Z ad A0 F0 H0 A F H) {A1 : List Addr} {F1 H1 : Hp} {env1 : List Sl} {T1 : Z.T} {σ1 : L2.St} (b : Stp Z ad A F H A1 F1 H1) (R1 : Rel Z ad env1 T1 F1 σ1 H1 A1) : Stp Z ad A0 F0 H0 A1 F1 H1 :=
  a.trans b
end

/-! ### borrowed values: the outer object may be one that a slot owns -/
def HB (rt : V) (F H : Hp) : D → V → Prop
  | .lst ds, v => ∃ a vs, v = .ref a ∧ H a = some (.lst vs) ∧ HoldsL rt F ds vs
  | .dic ks ds, v => ∃ a vs, v = .ref a ∧ HoldsL rt F ds vs ∧ ((∃ kk, keysD ks = some kk ∧ kk.length = vs.length ∧ H a = some (.dK (kk.zip vs))) ∨ (∃ kk, keysTD ks = some kk ∧ kk.length = vs.length ∧ H a = some (.dT (kk.zip vs))))
  | d, v => Holds rt F d v
def HBL (rt : V) (F H : Hp) : List D → List V → Prop
  | [], vs => vs = []
  | d :: ds, vs => ∃ v r, vs = v :: r ∧ HB rt F H d v ∧ HBL rt F H ds r
section
variable {rt : V} {F H F' H' : Hp}
theorem HB.of (s : Same F H) : ∀ {d : D} {v : V}, Holds rt F d v → HB rt F H d v
  | .non, _, h => h
  | .bl _, _, h => h
  | .int _, _, h => h
  | .str _, _, h => h
  | .tup _, _, h => h
  | .tape, _, h => h
  | .set _, _, h => h
  | .lst ds, _, h => by
    simp only [Holds] at h
    obtain ⟨a, vs, e, f, l⟩ := h
    exact ⟨a, vs, e, s _ _ f, l⟩
  | .dic ks ds, _, h => by
    simp only [Holds] at h
    obtain ⟨a, vs, e, l, f⟩ := h
    refine ⟨a, vs, e, l, ?_⟩
    rcases f with ⟨kk, f1, f2, f3⟩ | ⟨kk, f1, f2, f3⟩
    · exact .inl ⟨kk, f1, f2, s _ _ f3⟩
    · exact .inr ⟨kk, f1, f2, s _ _ f3⟩
theorem HBL.of (s : Same F H) : ∀ {ds : List D} {vs : List V}, HoldsL rt F ds vs → HBL rt F H ds vs
  | [], _, h => by simp only [HoldsL] at h; exact h
  | d :: ds, _, h => by
    simp only [HoldsL] at h
    obtain ⟨v, r, e, h1, h2⟩ := h
    exact ⟨v, r, e, HB.of s h1, HBL.of s h2⟩
theorem OwnL.zero : ∀ {ds : List D} {vs : List V} {A : List Addr}, OwnL (Own rt F H 0) ds vs A → HoldsL rt F ds vs ∧ A = []
  | [], _, _, h => by obtain ⟨e1, e2⟩ := h; subst e1 e2; exact ⟨.nil, rfl⟩
  | d :: ds, _, _, h => by
    obtain ⟨v, r, A1, A2, e1, e2, h1, h2⟩ := h
    obtain ⟨q1, q2⟩ := OwnL.zero h2
    obtain ⟨q3, q4⟩ := h1
    subst e1 e2 q2 q3
    exact ⟨.cons q4 q1, rfl⟩
theorem OwnL.ofHolds : ∀ {ds : List D} {vs : List V}, HoldsL rt F ds vs → OwnL (Own rt F H 0) ds vs []
  | [], _, h => ⟨by simpa only [HoldsL] using h, rfl⟩
  | d :: ds, _, h => by
    simp only [HoldsL] at h
    obtain ⟨v, r, e, h1, h2⟩ := h
    exact ⟨v, r, [], [], e, rfl, ⟨rfl, h1⟩, OwnL.ofHolds h2⟩
theorem HB.own1 {d : D} {v : V} {A : List Addr} (h : Own rt F H 1 d v A) : HB rt F H d v := by
  obtain ⟨p, B, e, f, eA, q⟩ := h
  cases d with
  | lst ds =>
    obtain ⟨vs, h1, h2⟩ := q
    exact ⟨p, vs, e, h1, (OwnL.zero h2).1⟩
  | dic ks ds =>
    obtain ⟨e0, vs, l, g⟩ := q
    exact ⟨p, vs, e, l, g⟩
  | _ => exact q.elim
theorem HB.own0 (s : Same F H) {d : D} {v : V} {A : List Addr} (h : Own rt F H 0 d v A) : HB rt F H d v := HB.of s h.2
/-- a tree that is read in H -/
theorem HB.inH (s : Same F H) : ∀ {d : D} {v : V}, HB rt F H d v → Holds rt H d v
  | .non, _, h => Holds.mono s h
  | .bl _, _, h => Holds.mono s h
  | .int _, _, h => Holds.mono s h
  | .str _, _, h => Holds.mono s h
  | .tup _, _, h => Holds.mono s h
  | .tape, _, h => Holds.mono s h
  | .set _, _, h => Holds.mono s h
  | .lst ds, _, h => by
    obtain ⟨a, vs, e, f, l⟩ := h
    simp only [Holds]
    exact ⟨a, vs, e, f, l.mono s⟩
  | .dic ks ds, _, h => by
    obtain ⟨a, vs, e, l, f⟩ := h
    simp only [Holds]
    exact ⟨a, vs, e, l.mono s, f⟩
theorem HB.new {d : D} {v : V} (n : New F H F' H') (h : HB rt F H d v) : HB rt F' H' d v := by
  cases d with
  | lst ds =>
    obtain ⟨a, vs, e, f, l⟩ := h
    exact ⟨a, vs, e, n.sH _ _ f, l.mono n.sF⟩
  | dic ks ds =>
    obtain ⟨a, vs, e, l, f⟩ := h
    refine ⟨a, vs, e, l.mono n.sF, ?_⟩
    rcases f with ⟨kk, f1, f2, f3⟩ | ⟨kk, f1, f2, f3⟩
    · exact .inl ⟨kk, f1, f2, n.sH _ _ f3⟩
    · exact .inr ⟨kk, f1, f2, n.sH _ _ f3⟩
  | _ => exact Holds.mono n.sF h
end

/-! ### operands: a slot is looked at when the operation is done -/
inductive Arg (Z : TSys) where
  | v (i : Nat)
  | e (m : M Z)
def look (env : List Sl) (i : Nat) : Option D := match env[i]? with
  | some (.sh d) => some d
  | some (.ow 1 d) => some d
  | _ => none
def evA {Z : TSys} : Arg Z → List Sl → Z.T → Option (Option D × List Sl × Z.T)
  | .v _, e, t => some (none, e, t)
  | .e m, e, t => match m e t with
    | some (d, e', t') => some (some d, e', t')
    | none => none
/-- what stands at an operand behind all evaluations -/
def getA {Z : TSys} (a : Arg Z) (o : Option D) (env : List Sl) : Option D := match a with
  | .v i => look env i
  | .e _ => o
inductive IsA (Z : TSys) (X : Cx) : Expr → Arg Z → Prop
  | v {i : Nat} {x : Str} {pos : Pos} : PE X (.Name x pos) (tVar i) → IsA Z X (.Name x pos) (.v i)
  | e {ex : Expr} {m : M Z} : IsE Z X ex m → IsA Z X ex (.e m)
section
variable {Z : TSys} {ad : Z.Ad} {env : List Sl} {T : Z.T} {F H : Hp} {σ : L2.St} {A : List Addr}
/-- a slot looked at -/
theorem Rel.look (R : Rel Z ad env T F σ H A) {i : Nat} {d : D} (h : look env i = some d) : ∃ v, σ[i]? = some (some v) ∧ HB (Z.root ad) F H d v := by
  unfold DL.look at h
  cases q : env[i]? with
  | none => rw [q] at h; cases h
  | some x =>
    rw [q] at h
    obtain ⟨o, A0, A1, A2, e1, _, e3, _⟩ := R.env.split q
    cases x with
    | no => cases h
    | sh d' =>
      simp at h; subst h
      obtain ⟨_, v, e, hv⟩ := e3
      exact ⟨v, by rw [e1, e], HB.of R.same hv⟩
    | ow n d' =>
      match n, h with
      | 1, h =>
        simp at h; subst h
        obtain ⟨v, e, hv⟩ := e3
        exact ⟨v, by rw [e1, e], HB.own1 hv⟩
/-- an operand's value, known behind -/
def ArgV (Z : TSys) (ad : Z.Ad) (a : Arg Z) (o : Option D) (F : Hp) (σ : L2.St) (v : V) : Prop := match a with
  | .v i => σ[i]? = some (some v)
  | .e _ => ∃ d, o = some d ∧ Holds (Z.root ad) F d v
theorem ArgV.get {a : Arg Z} {o : Option D} {v : V} {d : D} (R : Rel Z ad env T F σ H A) (h : ArgV Z ad a o F σ v) (g : getA a o env = some d) : HB (Z.root ad) F H d v := by
  cases a with
  | v i =>
    obtain ⟨w, e, q⟩ := R.look (i := i) g
    have h' : σ[i]? = some (some v) := h
    rw [h'] at e; cases e; exact q
  | e m =>
    obtain ⟨d', e, q⟩ := h
    have g' : o = some d := g
    rw [g'] at e; cases e
    exact HB.of R.same q
theorem ArgV.mono {a : Arg Z} {o : Option D} {v : V} {F' : Hp} (s : Same F F') (h : ArgV Z ad a o F σ v) : ArgV Z ad a o F' σ v := by
  cases a with
  | v i => exact h
  | e m => obtain ⟨d, e, q⟩ := h; exact ⟨d, e, q.mono s⟩
end
def denA (Z : TSys) (a : Arg Z) : TE := fun σ H Q => ∃ (ad : Z.Ad) (env : List Sl) (T : Z.T) (F : Hp) (A : List Addr) (o : Option D) (env' : List Sl) (T' : Z.T),
  Rel Z ad env T F σ H A ∧ evA a env T = some (o, env', T') ∧ (∀ i, a = .v i → ∃ v, σ[i]? = some (some v)) ∧ ∀ v H' F' A', Rel Z ad env' T' F' σ H' A' → Stp Z ad A F H A' F' H' → ArgV Z ad a o F' σ v → Q v H'
theorem IsA.pe {Z : TSys} {X : Cx} {e : Expr} {a : Arg Z} (h : IsA Z X e a) : PE X e (denA Z a) := by
  cases h with
  | v h =>
    refine PE.imp h fun σ H Q ⟨ad, env, T, F, A, o, env', T', R, ev, hs, k⟩ => ?_
    obtain ⟨v, e⟩ := hs _ rfl
    simp only [evA, Option.some.injEq, Prod.mk.injEq] at ev
    obtain ⟨_, rfl, rfl⟩ := ev
    exact ⟨v, e, k v H F A R Stp.refl e⟩
  | @e _ m h =>
    refine PE.imp h.pe fun σ H Q ⟨ad, env, T, F, A, o, env', T', R, ev, hs, k⟩ => ?_
    simp only [evA] at ev
    cases q : m env T with
    | none => rw [q] at ev; cases ev
    | some x =>
      obtain ⟨d, e1, t1⟩ := x
      rw [q] at ev
      simp only [Option.some.injEq, Prod.mk.injEq] at ev
      obtain ⟨rfl, rfl, rfl⟩ := ev
      exact ⟨ad, env, T, F, A, d, e1, t1, R, q, fun v H' F' A' R' S' hv => k v H' F' A' R' S' ⟨d, rfl, hv⟩⟩
/-- a slot that is looked at later stands now -/
def slotOk {Z : TSys} (a : Arg Z) (env : List Sl) : Bool := match a with
  | .v i => match env[i]? with
    | some (.sh _) => true
    | some (.ow _ _) => true
    | _ => false
  | .e _ => true
theorem slotOk.has {Z : TSys} {ad : Z.Ad} {env : List Sl} {T : Z.T} {F H : Hp} {σ : L2.St} {A : List Addr} {a : Arg Z} (R : Rel Z ad env T F σ H A) (h : slotOk a env = true) : ∀ i, a = .v i → ∃ v, σ[i]? = some (some v) := by
  rintro i rfl
  dsimp only [slotOk] at h
  cases q : env[i]? with
  | none => rw [q] at h; cases h
  | some x =>
    rw [q] at h
    obtain ⟨o, A0, A1, A2, e1, _, e3, _⟩ := R.env.split q
    cases x with
    | no => cases h
    | sh d' => obtain ⟨_, v, e, hv⟩ := e3; exact ⟨v, by rw [e1, e]⟩
    | ow n d' => obtain ⟨v, e, hv⟩ := e3; exact ⟨v, by rw [e1, e]⟩

/-! ### one operand, two operands -/
def ev1 {Z : TSys} (a : Arg Z) (env : List Sl) (T : Z.T) : Option (D × List Sl × Z.T) :=
  if slotOk a env then match evA a env T with
    | some (o, e1, t1) => match getA a o e1 with
      | some d => some (d, e1, t1)
      | none => none
    | none => none
  else none
def ev2 {Z : TSys} (a b : Arg Z) (env : List Sl) (T : Z.T) : Option (D × D × List Sl × Z.T) :=
  if slotOk a env then match evA a env T with
    | some (o, e1, t1) => if slotOk b e1 then match evA b e1 t1 with
      | some (o2, e2, t2) => match getA a o e2, getA b o2 e2 with
        | some d, some d2 => some (d, d2, e2, t2)
        | _, _ => none
      | none => none
      else none
    | none => none
  else none
section
variable {Z : TSys} {X : Cx}
theorem ev1_run {a : Arg Z} {env : List Sl} {T : Z.T} {d : D} {env' : List Sl} {T' : Z.T} (h : ev1 a env T = some (d, env', T')) {ad : Z.Ad} {F H : Hp} {σ : L2.St} {A : List Addr} (R : Rel Z ad env T F σ H A) {Q : VK}
    (k : ∀ v H' F' A', Rel Z ad env' T' F' σ H' A' → Stp Z ad A F H A' F' H' → HB (Z.root ad) F' H' d v → Q v H') : denA Z a σ H Q := by
  unfold ev1 at h
  by_cases hs : slotOk a env = true
  · rw [if_pos hs] at h
    cases q : evA a env T with
    | none => rw [q] at h; cases h
    | some x =>
      obtain ⟨o, e1, t1⟩ := x
      rw [q] at h
      simp only at h
      cases g : getA a o e1 with
      | none => rw [g] at h; cases h
      | some d' =>
        rw [g] at h
        simp only [Option.some.injEq, Prod.mk.injEq] at h
        obtain ⟨rfl, rfl, rfl⟩ := h
        exact ⟨ad, env, T, F, A, o, e1, t1, R, q, slotOk.has R hs, fun v H' F' A' R' S' hv => k v H' F' A' R' S' (hv.get R' g)⟩
  · rw [if_neg hs] at h; cases h
theorem ev2_run {a b : Arg Z} {env : List Sl} {T : Z.T} {d d2 : D} {env' : List Sl} {T' : Z.T} (h : ev2 a b env T = some (d, d2, env', T')) {ad : Z.Ad} {F H : Hp} {σ : L2.St} {A : List Addr} (R : Rel Z ad env T F σ H A) {Q : V → V → Hp → Prop}
    (k : ∀ v u H' F' A', Rel Z ad env' T' F' σ H' A' → Stp Z ad A F H A' F' H' → HB (Z.root ad) F' H' d v → HB (Z.root ad) F' H' d2 u → Q v u H') : denA Z a σ H fun x H1 => denA Z b σ H1 fun y H2 => Q x y H2 := by
  unfold ev2 at h
  by_cases hs : slotOk a env = true
  · rw [if_pos hs] at h
    cases q : evA a env T with
    | none => rw [q] at h; cases h
    | some x =>
      obtain ⟨o, e1, t1⟩ := x
      rw [q] at h
      simp only at h
      by_cases hs2 : slotOk b e1 = true
      · rw [if_pos hs2] at h
        cases q2 : evA b e1 t1 with
        | none => rw [q2] at h; cases h
        | some x2 =>
          obtain ⟨o2, e2, t2⟩ := x2
          rw [q2] at h
          simp only at h
          cases g : getA a o e2 with
          | none => rw [g] at h; cases h
          | some d' =>
            cases g2 : getA b o2 e2 with
            | none => rw [g, g2] at h; cases h
            | some d2' =>
              rw [g, g2] at h
              simp only [Option.some.injEq, Prod.mk.injEq] at h
              obtain ⟨rfl, rfl, rfl, rfl⟩ := h
              refine ⟨ad, env, T, F, A, o, e1, t1, R, q, slotOk.has R hs, fun v H' F' A' R' S' hv => ?_⟩
              exact ⟨ad, e1, t1, F', A', o2, e2, t2, R', q2, slotOk.has R' hs2, fun u H2 F2 A2 R2 S2 hu => k v u H2 F2 A2 R2 (R'.st S' S2 R2) ((hv.mono S2.sF).get R2 g) (hu.get R2 g2)⟩
      · rw [if_neg hs2] at h; cases h
  · rw [if_neg hs] at h; cases h
end

/-! ### pure rules of operators -/
def OpD (r : R2) (g : D → D → Option D) : Prop := ∀ (rt : V) (F H : Hp) (dx dy d : D) (x y : V) (Q : VK), Same F H → HB rt F H dx x → HB rt F H dy y → g dx dy = some d →
  (∀ v F' H', New F H F' H' → Holds rt F' d v → Q v H') → r x y H Q
/-- .. that give a new list -/
def OpN (r : R2) (g : D → D → Option (List D)) : Prop := ∀ (rt : V) (F H : Hp) (dx dy : D) (ds : List D) (x y : V) (Q : VK), Same F H → HB rt F H dx x → HB rt F H dy y → g dx dy = some ds →
  (∀ p vs, H p = none → HoldsL rt F ds vs → Q (.ref p) (upd H p (.lst vs))) → r x y H Q
def CallD (r : List V → Hp → VK → Prop) (g : List D → Option D) : Prop := ∀ (rt : V) (F H : Hp) (ds : List D) (d : D) (vs : List V) (Q : VK), Same F H → HBL rt F H ds vs → g ds = some d →
  (∀ v F' H', New F H F' H' → Holds rt F' d v → Q v H') → r vs H Q
def CallN (r : List V → Hp → VK → Prop) (g : List D → Option (List D)) : Prop := ∀ (rt : V) (F H : Hp) (ds : List D) (d : List D) (vs : List V) (Q : VK), Same F H → HBL rt F H ds vs → g ds = some d →
  (∀ p us, H p = none → HoldsL rt F d us → Q (.ref p) (upd H p (.lst us))) → r vs H Q
theorem OpN.toD {r : R2} {g : D → D → Option (List D)} (h : OpN r g) : OpD r fun x y => (g x y).map .lst := by
  intro rt F H dx dy d x y Q s hx hy e k
  dsimp only at e
  cases q : g dx dy with
  | none => rw [q] at e; cases e
  | some ds =>
    rw [q] at e
    simp only [Option.map_some, Option.some.injEq] at e
    subst e
    refine h rt F H dx dy ds x y Q s hx hy q fun p vs hp hl => ?_
    exact k _ _ _ (New.upd s hp _) (by
      simp only [Holds]
      exact ⟨p, vs, rfl, upd_same, hl.mono (New.upd s hp _).sF⟩)
theorem CallN.toD {r : List V → Hp → VK → Prop} {g : List D → Option (List D)} (h : CallN r g) : CallD r fun x => (g x).map .lst := by
  intro rt F H ds d vs Q s hx e k
  dsimp only at e
  cases q : g ds with
  | none => rw [q] at e; cases e
  | some us =>
    rw [q] at e
    simp only [Option.map_some, Option.some.injEq] at e
    subst e
    refine h rt F H ds us vs Q s hx q fun p vs hp hl => ?_
    exact k _ _ _ (New.upd s hp _) (by
      simp only [Holds]
      exact ⟨p, vs, rfl, upd_same, hl.mono (New.upd s hp _).sF⟩)
theorem OpD.or {r r' : R2} {g g' : D → D → Option D} (h : OpD r g) (h' : OpD r' g') : OpD (fun x y H Q => r x y H Q ∨ r' x y H Q) fun x y => match g x y with
    | some d => some d
    | none => g' x y := by
  intro rt F H dx dy d x y Q s hx hy e k
  dsimp only at e
  cases q : g dx dy with
  | some d' => rw [q] at e; cases e; exact .inl (h rt F H dx dy d x y Q s hx hy q k)
  | none => rw [q] at e; exact .inr (h' rt F H dx dy d x y Q s hx hy e k)

def mop {Z : TSys} (g : D → D → Option D) (a b : Arg Z) : M Z := fun e t => match ev2 a b e t with
  | some (x, y, e', t') => match g x y with
    | some d => some (d, e', t')
    | none => none
  | none => none
section
variable {Z : TSys} {X : Cx} {a b : Expr} {A B : Arg Z} {pos : Pos} {r : R2} {g : D → D → Option D}
theorem mop_inv {e : List Sl} {t : Z.T} {d : D} {e' : List Sl} {t' : Z.T} (h : mop g A B e t = some (d, e', t')) : ∃ x y, ev2 A B e t = some (x, y, e', t') ∧ g x y = some d := by
  unfold mop at h
  cases q : ev2 A B e t with
  | none => rw [q] at h; cases h
  | some z =>
    obtain ⟨x, y, e1, t1⟩ := z
    rw [q] at h
    simp only at h
    cases q2 : g x y with
    | none => rw [q2] at h; cases h
    | some d' =>
      rw [q2] at h
      simp only [Option.some.injEq, Prod.mk.injEq] at h
      obtain ⟨rfl, rfl, rfl⟩ := h
      exact ⟨x, y, rfl, q2⟩
theorem op_core (hd : OpD r g) {σ : L2.St} {H : Hp} {Q : VK} (h : den Z (mop g A B) σ H Q) : tOp r (denA Z A) (denA Z B) σ H Q := by
  obtain ⟨ad, env, T, F, A0, d, env', T', R, e, k⟩ := h
  obtain ⟨x, y, e1, e2⟩ := mop_inv e
  refine ev2_run (Q := fun x y H2 => r x y H2 Q) e1 R fun v u H' F' A' R' S' hv hu => ?_
  refine hd _ F' H' x y d v u Q R'.same hv hu e2 fun w F2 H2 n hw => ?_
  obtain ⟨R2, S2⟩ := R'.new n
  exact k w H2 F2 A' R2 (R'.st S' S2 R2) hw
theorem ie_op {op : Operator} (ho : OpR X (binaryOp op) r) (hd : OpD r g) (ha : IsA Z X a A) (hb : IsA Z X b B) : IsE Z X (.BinOp a op b pos) (mop g A B) :=
  ⟨PE.imp (pe_op ho ha.pe hb.pe) fun _ _ _ h => op_core hd h⟩
theorem ie_cmp {op : CmpOp} (ho : OpR X (compareOp op) r) (hd : OpD r g) (ha : IsA Z X a A) (hb : IsA Z X b B) (hm : behindInMarks op b = false) : IsE Z X (.Compare a [op] [b] pos) (mop g A B) :=
  ⟨PE.imp (pe_cmpR ho ha.pe hb.pe hm) fun _ _ _ h => op_core hd h⟩
end
/-- a value as a test -/
def asB {Z : TSys} (m : M Z) : MB Z := fun e t => match m e t with
  | some (.bl b, e', t') => some (b, e', t')
  | _ => none
theorem asB_inv {Z : TSys} {m : M Z} {e : List Sl} {t : Z.T} {b : Bool} {e' : List Sl} {t' : Z.T} (h : asB m e t = some (b, e', t')) : m e t = some (.bl b, e', t') := by
  unfold asB at h
  split at h
  · rename_i q
    simp only [Option.some.injEq, Prod.mk.injEq] at h
    obtain ⟨rfl, rfl, rfl⟩ := h
    exact q
  · cases h
section
variable {Z : TSys} {X : Cx} {a b : Expr} {A B : Arg Z} {pos : Pos} {r : R2} {g : D → D → Option D}
theorem asB_core {t : TE} {m : M Z} (h : ∀ σ H Q, den Z m σ H Q → t σ H Q) {σ : L2.St} {H : Hp} {Q : Bool → Hp → Prop} (q : denB Z (asB m) σ H Q) : t σ H fun x H1 => ∃ c, x = .bl c ∧ Q c H1 := by
  obtain ⟨ad, env, T, F, A0, d, env', T', R, e, k⟩ := q
  refine h _ _ _ ⟨ad, env, T, F, A0, .bl d, env', T', R, asB_inv e, fun v H' F' A' R' S' hv => ?_⟩
  exact ⟨d, by simpa only [Holds] using hv, k H' F' A' R' S'⟩
theorem it_cmp {op : CmpOp} (ho : OpR X (compareOp op) r) (hd : OpD r g) (ha : IsA Z X a A) (hb : IsA Z X b B) (hm : behindInMarks op b = false) : IsT Z X (.Compare a [op] [b] pos) (asB (mop g A B)) :=
  ⟨PT.imp (pt_cmpR ho ha.pe hb.pe hm) fun _ _ _ h => asB_core (t := tOp r (denA Z A) (denA Z B)) (m := mop g A B) (fun _ _ _ h' => op_core hd h') h⟩
theorem it_val {e : Expr} {m : M Z} (h : IsE Z X e m) (he : ∀ whole, isTrue e X.env whole = (do let v ← whole; standAt e.pos; holding [v] (truthy v)) := by intro _; rfl) : IsT Z X e (asB m) :=
  ⟨PT.imp (pt_val h.pe he) fun _ _ _ q => asB_core (t := den Z m) (m := m) (fun _ _ _ h' => h') q⟩
end
end DL

/-! The data layer, 3: expressions. -/
namespace DL
open PySem L2

/-! ### constants -/
def mcst {Z : TSys} (d : D) : M Z := fun e t => some (d, e, t)
section
variable {Z : TSys} {X : Cx} {pos : Pos}
theorem ie_cst {e : Expr} {v : V} {d : D} (h : PE X e (tC v)) (hv : ∀ rt F, Holds rt F d v) : IsE Z X e (mcst d) := ⟨PE.imp h fun σ H Q ⟨ad, env, T, F, A, r, env', T', R, e, k⟩ => by
  simp only [mcst, Option.some.injEq, Prod.mk.injEq] at e
  obtain ⟨rfl, rfl, rfl⟩ := e
  exact k v H F A R Stp.refl (hv _ _)⟩
theorem ie_int {i j} : IsE Z X (.Constant (.int i) j pos) (mcst (.int i)) := ie_cst pe_int fun _ _ => by simp only [Holds]
theorem ie_bl {b j} : IsE Z X (.Constant (.bool b) j pos) (mcst (.bl b)) := ie_cst pe_bl fun _ _ => by simp only [Holds]
theorem ie_non {j} : IsE Z X (.Constant .none j pos) (mcst .non) := ie_cst pe_non fun _ _ => by simp only [Holds]
theorem ie_str {x j} : IsE Z X (.Constant (.str x) j pos) (mcst (.str x)) := ie_cst pe_str fun _ _ => by simp only [Holds]
theorem ie_gint {x : Str} {i : Int} {t : Tok} (hg : Gl X x) (hm : X.mg x = some (.int i t)) (hd : (x == ("__debug__" : Str)) = false := by decide) : IsE Z X (.Name x pos) (mcst (.int i)) := ie_cst (v := .int i) (pe_glob hg hm (show RelV (.int i) _ from ⟨t, rfl⟩) hd) fun _ _ => by simp only [Holds]
end

/-! ### a slot as a value: what it owns is frozen -/
def mvar {Z : TSys} (i : Nat) : M Z := fun e t => match e[i]? with
  | some (.sh d) => some (d, e, t)
  | some (.ow _ d) => some (d, e.set i (.sh d), t)
  | _ => none
section
variable {rt : V} {F H F' : Hp}
theorem Own.frz (s : Same F F') : ∀ {n : Nat} {d : D} {v : V} {A : List Addr}, Own rt F H n d v A → (∀ a ∈ A, F' a = H a) → Holds rt F' d v
  | 0, _, _, _, h, _ => h.2.mono s
  | n + 1, d, v, A, h, k => by
    obtain ⟨p, B, e, f, eA, q⟩ := h
    subst eA
    have kp := k p List.mem_cons_self
    have hl : ∀ {ds : List D} {vs : List V} {B : List Addr}, OwnL (Own rt F H n) ds vs B → (∀ a ∈ B, F' a = H a) → HoldsL rt F' ds vs := by
      intro ds
      induction ds with
      | nil => intro vs B h _; rw [h.1]; exact .nil
      | cons d ds ih =>
        intro vs B h kb
        obtain ⟨v, r, A1, A2, e1, e2, h1, h2⟩ := h
        subst e1 e2
        exact .cons (Own.frz s h1 fun a ha => kb a (List.mem_append_left _ ha)) (ih h2 fun a ha => kb a (List.mem_append_right _ ha))
    cases d with
    | lst ds =>
      obtain ⟨vs, h1, h2⟩ := q
      simp only [Holds]
      exact ⟨p, vs, e, kp.trans h1, hl h2 fun a ha => k a (List.mem_cons_of_mem _ ha)⟩
    | dic ks ds =>
      obtain ⟨e0, vs, l, g⟩ := q
      simp only [Holds]
      refine ⟨p, vs, e, l.mono s, ?_⟩
      rcases g with ⟨kk, f1, f2, f3⟩ | ⟨kk, f1, f2, f3⟩
      · exact .inl ⟨kk, f1, f2, kp.trans f3⟩
      · exact .inr ⟨kk, f1, f2, kp.trans f3⟩
    | _ => exact q.elim
end
/-- the frozen heap with what is owned at A -/
def frzH (A : List Addr) (F H : Hp) : Hp := fun a => if a ∈ A then H a else F a
section
variable {Z : TSys} {ad : Z.Ad} {env : List Sl} {T : Z.T} {F H : Hp} {σ : L2.St} {A : List Addr}
theorem set_self {α : Type} : ∀ {l : List α} {i : Nat} {x : α}, l[i]? = some x → l.set i x = l
  | _ :: _, 0, _, h => by simp at h; subst h; rfl
  | _ :: _, i + 1, _, h => by simp only [List.set_cons_succ]; rw [set_self (by simpa using h)]
  | [], _, _, h => by simp at h
theorem Rel.freeze (R : Rel Z ad env T F σ H A) {i n : Nat} {d : D} (hi : env[i]? = some (.ow n d)) :
    ∃ v F' A', σ[i]? = some (some v) ∧ Rel Z ad (env.set i (.sh d)) T F' σ H A' ∧ Stp Z ad A F H A' F' H ∧ Holds (Z.root ad) F' d v := by
  obtain ⟨o, A0, A1, A2, e1, eA, ⟨v, eo, hv⟩, re⟩ := R.env.split hi
  subst eA eo
  have at1 := hv.at
  have nd := R.nd
  have sF : Same F (frzH A1 F H) := fun a x e => by
    unfold frzH
    by_cases q : a ∈ A1
    · rw [(at1 a q).1] at e; cases e
    · rw [if_neg q]; exact e
  have fH : Same (frzH A1 F H) H := fun a x e => by
    unfold frzH at e
    by_cases q : a ∈ A1
    · rw [if_pos q] at e; exact e
    · rw [if_neg q] at e; exact R.same _ _ e
  have dis : ∀ a ∈ A0 ++ A2, a ∉ A1 := fun a ha hb => by
    rw [List.nodup_append, List.nodup_append] at nd
    rcases List.mem_append.mp ha with z | z
    · exact nd.1.2.2 a z a hb rfl
    · exact nd.2.2 a (List.mem_append_right _ hb) a z rfl
  have hold := hv.frz (F' := frzH A1 F H) sF fun a ha => by unfold frzH; rw [if_pos ha]
  refine ⟨v, frzH A1 F H, A0 ++ [] ++ A2, e1, ⟨fH, ?_, ?_, R.tp, fun b hb => ?_⟩, ⟨sF, fun a h => ?_, fun a h => .inl ?_, fun a o h _ _ => h, fun a o h => ⟨o, h⟩⟩, hold⟩
  · have := re (F' := frzH A1 F H) (H' := H) (y := .sh d) (o' := some v) (B := []) sF (fun a ha => ⟨rfl, ?_⟩) ⟨rfl, v, rfl, hold⟩
    · rw [set_self e1] at this; exact this
    · unfold frzH
      rw [if_neg (dis a ha)]
      refine (R.at a ?_).1
      rcases List.mem_append.mp ha with z | z
      · simp [z]
      · simp [z]
  · rw [List.append_nil]
    rw [List.nodup_append, List.nodup_append] at nd
    rw [List.nodup_append]
    exact ⟨nd.1.1, nd.2.1, fun a h1 b h2 => nd.2.2 a (List.mem_append_left _ h1) b h2⟩
  · obtain ⟨t1, t2⟩ := R.tf b hb
    refine ⟨?_, fun z => t2 ?_⟩
    · unfold frzH
      rw [if_neg fun z => t2 (by simp [z])]
      exact t1
    · rw [List.append_nil] at z
      rcases List.mem_append.mp z with z | z
      · simp [z]
      · simp [z]
  · unfold frzH at h
    by_cases q : a ∈ A1
    · exact .inr (.inl (by simp [q]))
    · rw [if_neg q] at h; exact .inl h
  · rw [List.append_nil] at h
    rcases List.mem_append.mp h with z | z
    · simp [z]
    · simp [z]
theorem ie_var {X : Cx} {i : Nat} {x : Str} {pos : Pos} (h : PE X (.Name x pos) (tVar i)) : IsE Z X (.Name x pos) (mvar i) := ⟨PE.imp h fun σ H Q ⟨ad, env, T, F, A, r, env', T', R, e, k⟩ => by
  unfold mvar at e
  cases q : env[i]? with
  | none => rw [q] at e; cases e
  | some s =>
    rw [q] at e
    cases s with
    | no => cases e
    | sh d =>
      simp only [Option.some.injEq, Prod.mk.injEq] at e
      obtain ⟨rfl, rfl, rfl⟩ := e
      obtain ⟨o, A0, A1, A2, e1, eA, ⟨_, v, eo, hv⟩, _⟩ := R.env.split q
      subst eo
      exact ⟨v, e1, k v H F A R Stp.refl hv⟩
    | ow n d =>
      simp only [Option.some.injEq, Prod.mk.injEq] at e
      obtain ⟨rfl, rfl, rfl⟩ := e
      obtain ⟨v, F', A', e1, R', S', hv⟩ := R.freeze q
      exact ⟨v, e1, k v H F' A' R' S' hv⟩⟩
end

/-! ### owned results become shared ones -/
section
variable {Z : TSys} {ad : Z.Ad} {env : List Sl} {T : Z.T} {F H : Hp} {σ : L2.St} {A : List Addr}
theorem Rel.frzB (R : Rel Z ad env T F σ H A) {n : Nat} {d : D} {v : V} {B : List Addr} (hv : Own (Z.root ad) F H n d v B) (hB : ∀ a ∈ B, a ∉ A ∧ a ∉ Z.addrs ad) :
    Rel Z ad env T (frzH B F H) σ H A ∧ Same F (frzH B F H) ∧ Holds (Z.root ad) (frzH B F H) d v ∧ ∀ a, frzH B F H a ≠ none → F a ≠ none ∨ a ∈ B := by
  have at1 := hv.at
  have sF : Same F (frzH B F H) := fun a x e => by
    unfold frzH
    by_cases q : a ∈ B
    · rw [(at1 a q).1] at e; cases e
    · rw [if_neg q]; exact e
  have fH : Same (frzH B F H) H := fun a x e => by
    unfold frzH at e
    by_cases q : a ∈ B
    · rw [if_pos q] at e; exact e
    · rw [if_neg q] at e; exact R.same _ _ e
  refine ⟨⟨fH, R.env.keep sF fun a ha => ⟨rfl, ?_⟩, R.nd, R.tp, fun b hb => ⟨?_, (R.tf b hb).2⟩⟩, sF, hv.frz sF fun a ha => by unfold frzH; rw [if_pos ha], fun a h => ?_⟩
  · unfold frzH
    rw [if_neg fun z => (hB a z).1 ha]
    exact (R.at a ha).1
  · unfold frzH
    rw [if_neg fun z => (hB b z).2 hb]
    exact (R.tf b hb).1
  · unfold frzH at h
    by_cases q : a ∈ B
    · exact .inr q
    · rw [if_neg q] at h; exact .inl h
theorem IsO.toE {n : Nat} {X : Cx} {e : Expr} {m : M Z} (h : IsO Z n X e m) : IsE Z X e m := ⟨PE.imp h.pe fun σ H Q ⟨ad, env, T, F, A, r, env', T', R, e, k⟩ => by
  refine ⟨ad, env, T, F, A, r, env', T', R, e, fun v H' F' A' B R' S' ho nd hB => ?_⟩
  obtain ⟨R2, s2, h2, n2⟩ := R'.frzB ho fun a ha => ⟨(hB a ha).1, (hB a ha).2.2⟩
  refine k v H' _ A' R2 ⟨S'.sF.trans s2, fun a ha => ?_, S'.nA, S'.fr, S'.ex⟩ h2
  rcases n2 a ha with z | z
  · exact S'.nF a z
  · exact .inr (.inr (hB a z).2.1)⟩
end

/-! ### not, and, or, if else -/
def bnot {Z : TSys} (m : MB Z) : MB Z := fun e t => match m e t with
  | some (b, e', t') => some (!b, e', t')
  | none => none
def band {Z : TSys} (m n : MB Z) : MB Z := fun e t => match m e t with
  | some (true, e', t') => n e' t'
  | some (false, e', t') => some (false, e', t')
  | none => none
def bor {Z : TSys} (m n : MB Z) : MB Z := fun e t => match m e t with
  | some (true, e', t') => some (true, e', t')
  | some (false, e', t') => n e' t'
  | none => none
def mite {Z : TSys} (c : MB Z) (m n : M Z) : M Z := fun e t => match c e t with
  | some (true, e', t') => m e' t'
  | some (false, e', t') => n e' t'
  | none => none
def mbool {Z : TSys} (m : MB Z) : M Z := fun e t => match m e t with
  | some (b, e', t') => some (.bl b, e', t')
  | none => none
structure IsW (Z : TSys) (X : Cx) (e : Expr) (m : MB Z) : Prop where
  pw : PW X e (denB Z m)
section
variable {Z : TSys} {X : Cx} {a b c : Expr} {rest : List Expr} {pos : Pos}
theorem denB_bind {m : MB Z} {f : Bool → MB Z} {σ : L2.St} {H : Hp} {Q : Bool → Hp → Prop}
    (h : denB Z (fun e t => match m e t with | some (b, e', t') => f b e' t' | none => none) σ H Q) : denB Z m σ H fun b H1 => denB Z (f b) σ H1 Q := by
  obtain ⟨ad, env, T, F, A, r, env', T', R, e, k⟩ := h
  cases q : m env T with
  | none => simp only [q] at e; cases e
  | some z =>
    obtain ⟨b, e1, t1⟩ := z
    simp only [q] at e
    exact ⟨ad, env, T, F, A, b, e1, t1, R, q, fun H' F' A' R' S' => ⟨ad, e1, t1, F', A', r, env', T', R', e, fun H2 F2 A2 R2 S2 => k H2 F2 A2 R2 (R'.st S' S2 R2)⟩⟩
theorem denBM_bind {m : MB Z} {f : Bool → M Z} {σ : L2.St} {H : Hp} {Q : VK}
    (h : den Z (fun e t => match m e t with | some (b, e', t') => f b e' t' | none => none) σ H Q) : denB Z m σ H fun b H1 => den Z (f b) σ H1 Q := by
  obtain ⟨ad, env, T, F, A, r, env', T', R, e, k⟩ := h
  cases q : m env T with
  | none => simp only [q] at e; cases e
  | some z =>
    obtain ⟨b, e1, t1⟩ := z
    simp only [q] at e
    exact ⟨ad, env, T, F, A, b, e1, t1, R, q, fun H' F' A' R' S' => ⟨ad, e1, t1, F', A', r, env', T', R', e, fun v H2 F2 A2 R2 S2 => k v H2 F2 A2 R2 (R'.st S' S2 R2)⟩⟩
theorem denB_pure {b : Bool} {σ : L2.St} {H : Hp} {Q : Bool → Hp → Prop} (h : denB Z (fun e t => some (b, e, t)) σ H Q) : Q b H := by
  obtain ⟨ad, env, T, F, A, r, env', T', R, e, k⟩ := h
  simp only [Option.some.injEq, Prod.mk.injEq] at e
  obtain ⟨rfl, rfl, rfl⟩ := e
  exact k H F A R Stp.refl
theorem band_eq {m n : MB Z} : band m n = fun e t => match m e t with | some (b, e', t') => (if b then n else fun e t => some (false, e, t)) e' t' | none => none := by
  funext e t
  unfold band
  cases m e t with
  | none => rfl
  | some z => obtain ⟨b, e1, t1⟩ := z; cases b <;> rfl
theorem bor_eq {m n : MB Z} : bor m n = fun e t => match m e t with | some (b, e', t') => (if b then (fun e t => some (true, e, t)) else n) e' t' | none => none := by
  funext e t
  unfold bor
  cases m e t with
  | none => rfl
  | some z => obtain ⟨b, e1, t1⟩ := z; cases b <;> rfl
theorem bnot_eq {m : MB Z} : bnot m = fun e t => match m e t with | some (b, e', t') => (fun e t => some (!b, e, t) : MB Z) e' t' | none => none := rfl
theorem mite_eq {c : MB Z} {m n : M Z} : mite c m n = fun e t => match c e t with | some (b, e', t') => (if b then m else n) e' t' | none => none := by
  funext e t
  unfold mite
  cases c e t with
  | none => rfl
  | some z => obtain ⟨b, e1, t1⟩ := z; cases b <;> rfl
theorem IsW.t {e : Expr} {m : MB Z} (h : IsW Z X e m) : IsT Z X e m := ⟨h.pw.pt⟩
theorem iw_and1 {m : MB Z} (h : IsT Z X a m) : IsW Z X (.BoolOp .And [a] pos) m := ⟨pw_and1 h.pt⟩
theorem iw_or1 {m : MB Z} (h : IsT Z X a m) : IsW Z X (.BoolOp .Or [a] pos) m := ⟨pw_or1 h.pt⟩
theorem iw_and {m n : MB Z} (ha : IsT Z X a m) (hb : IsW Z X (.BoolOp .And (b :: rest) pos) n) : IsW Z X (.BoolOp .And (a :: b :: rest) pos) (band m n) := ⟨PW.imp (pw_and ha.pt hb.pw) fun σ H Q h => by
  rw [band_eq] at h
  show denB Z m σ H fun c H1 => if c = true then denB Z n σ H1 Q else Q false H1
  obtain ⟨ad, env, T, F, A, r, env', T', R, e, k⟩ := denB_bind (f := fun b => if b then n else fun e t => some (false, e, t)) h
  refine ⟨ad, env, T, F, A, r, env', T', R, e, fun H' F' A' R' S' => ?_⟩
  have q := k H' F' A' R' S'
  cases r with
  | true => exact q
  | false => exact denB_pure q⟩
theorem iw_or {m n : MB Z} (ha : IsT Z X a m) (hb : IsW Z X (.BoolOp .Or (b :: rest) pos) n) : IsW Z X (.BoolOp .Or (a :: b :: rest) pos) (bor m n) := ⟨PW.imp (pw_or ha.pt hb.pw) fun σ H Q h => by
  rw [bor_eq] at h
  show denB Z m σ H fun c H1 => if c = true then Q true H1 else denB Z n σ H1 Q
  obtain ⟨ad, env, T, F, A, r, env', T', R, e, k⟩ := denB_bind (f := fun b => if b then (fun e t => some (true, e, t)) else n) h
  refine ⟨ad, env, T, F, A, r, env', T', R, e, fun H' F' A' R' S' => ?_⟩
  have q := k H' F' A' R' S'
  cases r with
  | true => exact denB_pure q
  | false => exact q⟩
theorem it_not {m : MB Z} (h : IsT Z X a m) : IsT Z X (.UnaryOp .Not a pos) (bnot m) := ⟨PT.imp (pt_not h.pt) fun σ H Q q => by
  rw [bnot_eq] at q
  obtain ⟨ad, env, T, F, A, r, env', T', R, e, k⟩ := denB_bind (f := fun b e t => some (!b, e, t)) q
  exact ⟨ad, env, T, F, A, r, env', T', R, e, fun H' F' A' R' S' => denB_pure (k H' F' A' R' S')⟩⟩
theorem ie_ite {k : MB Z} {m n : M Z} (hc : IsT Z X c k) (ha : IsE Z X a m) (hb : IsE Z X b n) : IsE Z X (.IfExp c a b pos) (mite k m n) := ⟨PE.imp (pe_ifExp hc.pt ha.pe hb.pe) fun σ H Q h => by
  rw [mite_eq] at h
  obtain ⟨ad, env, T, F, A, r, env', T', R, e, k⟩ := denBM_bind (f := fun b => if b then m else n) h
  refine ⟨ad, env, T, F, A, r, env', T', R, e, fun H' F' A' R' S' => ?_⟩
  have q := k H' F' A' R' S'
  cases r with
  | true => exact q
  | false => exact q⟩
theorem den_bool {m : M Z} {f : Bool → M Z} {σ : L2.St} {H : Hp} {Q : VK} (h : den Z (fun e t => match asB m e t with | some (b, e', t') => f b e' t' | none => none) σ H Q) :
    den Z m σ H fun x H1 => ∃ c, x = .bl c ∧ den Z (f c) σ H1 Q := by
  obtain ⟨ad, env, T, F, A, r, env', T', R, e, k⟩ := denBM_bind h
  exact ⟨ad, env, T, F, A, .bl r, env', T', R, asB_inv e, fun v H' F' A' R' S' hv => ⟨r, by simpa only [Holds] using hv, k H' F' A' R' S'⟩⟩
theorem den_pure {d : D} {v : V} {σ : L2.St} {H : Hp} {Q : VK} (hv : ∀ rt F, Holds rt F d v) (h : den Z (fun e t => some (d, e, t)) σ H Q) : Q v H := by
  obtain ⟨ad, env, T, F, A, r, env', T', R, e, k⟩ := h
  simp only [Option.some.injEq, Prod.mk.injEq] at e
  obtain ⟨rfl, rfl, rfl⟩ := e
  exact k v H F A R Stp.refl (hv _ _)
/-- as values -/
def mand {Z : TSys} (m n : M Z) : M Z := fun e t => match asB m e t with
  | some (b, e', t') => (if b then n else fun e t => some (.bl false, e, t)) e' t'
  | none => none
def mor {Z : TSys} (m n : M Z) : M Z := fun e t => match asB m e t with
  | some (b, e', t') => (if b then (fun e t => some (.bl true, e, t)) else n) e' t'
  | none => none
def mnot {Z : TSys} (m : M Z) : M Z := fun e t => match asB m e t with
  | some (b, e', t') => (fun e t => some (.bl (!b), e, t) : M Z) e' t'
  | none => none
theorem ie_one {op} {m : M Z} (h : IsE Z X a m) : IsE Z X (.BoolOp op [a] pos) m := ⟨pe_one h.pe⟩
theorem ie_and {m n : M Z} (ha : IsE Z X a m) (hb : IsE Z X (.BoolOp .And (b :: rest) pos) n) : IsE Z X (.BoolOp .And (a :: b :: rest) pos) (mand m n) := ⟨PE.imp (pe_and ha.pe hb.pe) fun σ H Q h => by
  obtain ⟨ad, env, T, F, A, r, env', T', R, e, k⟩ := den_bool (f := fun b => if b then n else fun e t => some (.bl false, e, t)) h
  refine ⟨ad, env, T, F, A, r, env', T', R, e, fun v H' F' A' R' S' hv => ?_⟩
  obtain ⟨c, ec, q⟩ := k v H' F' A' R' S' hv
  refine ⟨c, ec, ?_⟩
  cases c with
  | true => exact q
  | false => exact den_pure (fun _ _ => by simp only [Holds]) q⟩
theorem ie_or {m n : M Z} (ha : IsE Z X a m) (hb : IsE Z X (.BoolOp .Or (b :: rest) pos) n) : IsE Z X (.BoolOp .Or (a :: b :: rest) pos) (mor m n) := ⟨PE.imp (pe_or ha.pe hb.pe) fun σ H Q h => by
  obtain ⟨ad, env, T, F, A, r, env', T', R, e, k⟩ := den_bool (f := fun b => if b then (fun e t => some (.bl true, e, t)) else n) h
  refine ⟨ad, env, T, F, A, r, env', T', R, e, fun v H' F' A' R' S' hv => ?_⟩
  obtain ⟨c, ec, q⟩ := k v H' F' A' R' S' hv
  refine ⟨c, ec, ?_⟩
  cases c with
  | true => exact den_pure (fun _ _ => by simp only [Holds]) q
  | false => exact q⟩
theorem ie_not {m : M Z} (ha : IsE Z X a m) : IsE Z X (.UnaryOp .Not a pos) (mnot m) := ⟨PE.imp (pe_not ha.pe) fun σ H Q h => by
  obtain ⟨ad, env, T, F, A, r, env', T', R, e, k⟩ := den_bool (f := fun b e t => some (.bl (!b), e, t)) h
  refine ⟨ad, env, T, F, A, r, env', T', R, e, fun v H' F' A' R' S' hv => ?_⟩
  obtain ⟨c, ec, q⟩ := k v H' F' A' R' S' hv
  exact ⟨c, ec, den_pure (fun _ _ => by simp only [Holds]) q⟩⟩
end

/-! ### argument lists, displays -/
def mnil {Z : TSys} : ML Z := fun e t => some ([], e, t)
def mcons {Z : TSys} (m : M Z) (l : ML Z) : ML Z := fun e t => match m e t with
  | some (d, e1, t1) => match l e1 t1 with
    | some (ds, e2, t2) => some (d :: ds, e2, t2)
    | none => none
  | none => none
def mtup {Z : TSys} (l : ML Z) : M Z := fun e t => match l e t with
  | some (ds, e1, t1) => if ds.length ≤ 1000 then some (.tup ds, e1, t1) else none
  | none => none
def mlst {Z : TSys} (l : ML Z) : M Z := fun e t => match l e t with
  | some (ds, e1, t1) => if ds.length ≤ 1000 then some (.lst ds, e1, t1) else none
  | none => none
theorem sz1000 {n : Nat} (h : n ≤ 1000) : n ≤ sizeLine := Nat.le_trans h (by decide)
section
variable {Z : TSys} {X : Cx} {a : Expr} {es : List Expr} {pos : Pos}
theorem il_nil : IsL Z X [] mnil := ⟨PA.imp pa_nil fun σ H Q ⟨ad, env, T, F, A, r, env', T', R, e, k⟩ => by
  simp only [mnil, Option.some.injEq, Prod.mk.injEq] at e
  obtain ⟨rfl, rfl, rfl⟩ := e
  exact k [] H F A R Stp.refl .nil⟩
theorem il_cons {m : M Z} {l : ML Z} (ha : IsE Z X a m) (hl : IsL Z X es l) (hs : starEach (a :: es) X.env = (false, eval a X.env) :: starEach es X.env := by rfl) : IsL Z X (a :: es) (mcons m l) := ⟨PA.imp (pa_cons ha.pe hl.pa hs) fun σ H Q ⟨ad, env, T, F, A, r, env', T', R, e, k⟩ => by
  unfold mcons at e
  cases q : m env T with
  | none => rw [q] at e; cases e
  | some z =>
    obtain ⟨d, e1, t1⟩ := z
    rw [q] at e
    simp only at e
    cases q2 : l e1 t1 with
    | none => rw [q2] at e; cases e
    | some z2 =>
      obtain ⟨ds, e2, t2⟩ := z2
      rw [q2] at e
      simp only [Option.some.injEq, Prod.mk.injEq] at e
      obtain ⟨rfl, rfl, rfl⟩ := e
      refine ⟨ad, env, T, F, A, d, e1, t1, R, q, fun v H' F' A' R' S' hv => ?_⟩
      exact ⟨ad, e1, t1, F', A', ds, e2, t2, R', q2, fun vs H2 F2 A2 R2 S2 hvs => k (v :: vs) H2 F2 A2 R2 (R'.st S' S2 R2) (.cons (hv.mono S2.sF) hvs)⟩⟩
/-- a new tuple, its object known -/
def tTupF (t : TA) : TE := fun σ H Q => t σ H fun xs H1 => xs.length ≤ sizeLine ∧ ∀ p o, H1 p = none → o.dict = none → Q (.ref p) (upd H1 p (.frz o (.tup xs)))
theorem laidT {X : Cx} {pins : List (Addr × Obj)} {σ : L2.St} {H : Hp} {s : Shared} {xs : List V} {us : List Value} (I : Inv X pins σ H s) (r : Vals xs us) (z : xs.length ≤ sizeLine) (t : Nat) :
    Inv X pins σ (upd H s.heap.objs.size (.frz { cls := .type "tuple", data := .seq us.toArray } (.tup xs))) { s with heap := s.heap.push { cls := .type "tuple", data := .seq us.toArray }, toks := t } :=
  I.laid (t' := t) (fun b u e => Heap.get?_push_of_some _ e) (Nat.le_refl _) ⟨Heap.get?_push_size _ rfl, z, us, r, ⟨_, Heap.get?_push_size _ rfl, rfl, _, rfl⟩⟩
theorem pe_tupF {t : TA} {x1} (h : PA X es t) : PE X (.Tuple es x1 pos) (tTupF t) := by
  refine ⟨fun pins s σ H Q I hq => ?_⟩
  refine wpAny_Tuple_spliced (thn (h.run pos pins s σ H _ I hq) fun us s1 ⟨xs, H1, I1, r, z, q⟩ => ⟨by rw [← r.length]; exact z, ?_⟩)
  have hf : H1 s1.heap.objs.size = none := I1.hok.fresh (Nat.le_refl _)
  exact ⟨.ref s1.heap.objs.size, _, laidT I1 r z s1.toks, rfl, q _ _ hf rfl⟩
theorem ie_tup {l : ML Z} {x1} (h : IsL Z X es l) : IsE Z X (.Tuple es x1 pos) (mtup l) := ⟨PE.imp (pe_tupF h.pa) fun σ H Q ⟨ad, env, T, F, A, r, env', T', R, e, k⟩ => by
  unfold mtup at e
  cases q : l env T with
  | none => rw [q] at e; cases e
  | some z =>
    obtain ⟨ds, e1, t1⟩ := z
    rw [q] at e
    simp only at e
    by_cases hz : ds.length ≤ 1000
    · rw [if_pos hz] at e
      simp only [Option.some.injEq, Prod.mk.injEq] at e
      obtain ⟨rfl, rfl, rfl⟩ := e
      refine ⟨ad, env, T, F, A, ds, e1, t1, R, q, fun vs H' F' A' R' S' hv => ⟨by rw [hv.length]; exact sz1000 hz, fun p o hp ho => ?_⟩⟩
      obtain ⟨R2, S2⟩ := R'.upd hp (.frz o (.tup vs))
      refine k _ _ _ _ R2 (R'.st S' S2 R2) ?_
      simp only [Holds]
      exact ⟨p, vs, rfl, ⟨o, upd_same, ho⟩, hv.mono S2.sF⟩
    · rw [if_neg hz] at e; cases e⟩
theorem io_lst {l : ML Z} (h : IsL Z X es l) : IsO Z 1 X (.List es pos) (mlst l) := ⟨PE.imp (pe_lst h.pa) fun σ H Q ⟨ad, env, T, F, A, r, env', T', R, e, k⟩ => by
  unfold mlst at e
  cases q : l env T with
  | none => rw [q] at e; cases e
  | some z =>
    obtain ⟨ds, e1, t1⟩ := z
    rw [q] at e
    simp only at e
    by_cases hz : ds.length ≤ 1000
    · rw [if_pos hz] at e
      simp only [Option.some.injEq, Prod.mk.injEq] at e
      obtain ⟨rfl, rfl, rfl⟩ := e
      refine ⟨ad, env, T, F, A, ds, e1, t1, R, q, fun vs H' F' A' R' S' hv => ⟨by rw [hv.length]; exact sz1000 hz, fun p hp => ?_⟩⟩
      obtain ⟨R2, S2⟩ := R'.own hp (.lst vs)
      obtain ⟨n1, n2⟩ := R'.notin hp
      refine k _ _ F' A' [p] R2 (R'.st S' S2 R2) ⟨p, [], rfl, R'.same.free hp, rfl, vs, upd_same, OwnL.ofHolds hv⟩ (by simp) fun a ha => ?_
      have ea : a = p := by simpa using ha
      subst ea
      exact ⟨n1, S'.none hp, n2⟩
    · rw [if_neg hz] at e; cases e⟩
end
end DL

/-! The data layer, 4: calls, methods, subscripts, slices, chains. -/
namespace DL
open PySem L2

/-! ### operand lists -/
def evAs {Z : TSys} : List (Arg Z) → List Sl → Z.T → Option (List (Option D) × List Sl × Z.T)
  | [], e, t => some ([], e, t)
  | a :: as, e, t => if slotOk a e then match evA a e t with
    | some (o, e1, t1) => match evAs as e1 t1 with
      | some (os, e2, t2) => some (o :: os, e2, t2)
      | none => none
    | none => none
    else none
def getAs {Z : TSys} : List (Arg Z) → List (Option D) → List Sl → Option (List D)
  | [], _, _ => some []
  | a :: as, o :: os, e => match getA a o e with
    | some d => match getAs as os e with
      | some ds => some (d :: ds)
      | none => none
    | none => none
  | _ :: _, [], _ => none
def evN {Z : TSys} (as : List (Arg Z)) : ML Z := fun e t => match evAs as e t with
  | some (os, e1, t1) => match getAs as os e1 with
    | some ds => some (ds, e1, t1)
    | none => none
  | none => none
def ArgVs (Z : TSys) (ad : Z.Ad) (F : Hp) (σ : L2.St) : List (Arg Z) → List (Option D) → List V → Prop
  | [], _, vs => vs = []
  | a :: as, o :: os, vs => ∃ v r, vs = v :: r ∧ ArgV Z ad a o F σ v ∧ ArgVs Z ad F σ as os r
  | _ :: _, [], _ => False
def denAs (Z : TSys) (as : List (Arg Z)) : TA := fun σ H Q => ∃ (ad : Z.Ad) (env : List Sl) (T : Z.T) (F : Hp) (A : List Addr) (os : List (Option D)) (env' : List Sl) (T' : Z.T),
  Rel Z ad env T F σ H A ∧ evAs as env T = some (os, env', T') ∧ ∀ vs H' F' A', Rel Z ad env' T' F' σ H' A' → Stp Z ad A F H A' F' H' → ArgVs Z ad F' σ as os vs → Q vs H'
inductive IsAs (Z : TSys) (X : Cx) : List Expr → List (Arg Z) → Prop
  | nil : IsAs Z X [] []
  | cons {e : Expr} {es : List Expr} {a : Arg Z} {as : List (Arg Z)} : IsA Z X e a → IsAs Z X es as → (starEach (e :: es) X.env = (false, eval e X.env) :: starEach es X.env) → IsAs Z X (e :: es) (a :: as)
theorem ia_cons {Z : TSys} {X : Cx} {e : Expr} {es : List Expr} {a : Arg Z} {as : List (Arg Z)} (h : IsA Z X e a) (hs : IsAs Z X es as) (hq : starEach (e :: es) X.env = (false, eval e X.env) :: starEach es X.env := by rfl) : IsAs Z X (e :: es) (a :: as) := .cons h hs hq
theorem ArgVs.mono {Z : TSys} {ad : Z.Ad} {F F' : Hp} {σ : L2.St} (s : Same F F') : ∀ {as : List (Arg Z)} {os : List (Option D)} {vs : List V}, ArgVs Z ad F σ as os vs → ArgVs Z ad F' σ as os vs
  | [], _, _, h => h
  | _ :: _, [], _, h => h.elim
  | a :: as, o :: os, _, h => by
    obtain ⟨v, r, e, h1, h2⟩ := h
    exact ⟨v, r, e, h1.mono s, h2.mono s⟩
theorem ArgVs.get {Z : TSys} {ad : Z.Ad} {env : List Sl} {T : Z.T} {F H : Hp} {σ : L2.St} {A : List Addr} (R : Rel Z ad env T F σ H A) : ∀ {as : List (Arg Z)} {os : List (Option D)} {vs : List V} {ds : List D}, ArgVs Z ad F σ as os vs → getAs as os env = some ds → HBL (Z.root ad) F H ds vs
  | [], _, _, _, h, g => by simp only [getAs, Option.some.injEq] at g; subst g; exact h
  | _ :: _, [], _, _, h, _ => h.elim
  | a :: as, o :: os, _, ds, h, g => by
    obtain ⟨v, r, e, h1, h2⟩ := h
    subst e
    simp only [getAs] at g
    cases q : getA a o env with
    | none => rw [q] at g; cases g
    | some d =>
      cases q2 : getAs as os env with
      | none => rw [q, q2] at g; cases g
      | some ds' =>
        rw [q, q2] at g
        simp only [Option.some.injEq] at g
        subst g
        exact ⟨v, r, rfl, h1.get R q, ArgVs.get R h2 q2⟩
theorem IsAs.pa {Z : TSys} {X : Cx} : ∀ {es : List Expr} {as : List (Arg Z)}, IsAs Z X es as → PA X es (denAs Z as)
  | _, _, .nil => PA.imp pa_nil fun σ H Q ⟨ad, env, T, F, A, r, env', T', R, e, k⟩ => by
    simp only [evAs, Option.some.injEq, Prod.mk.injEq] at e
    obtain ⟨rfl, rfl, rfl⟩ := e
    exact k [] H F A R Stp.refl rfl
  | _, _, .cons (a := a) (as := as) h hs hq => PA.imp (pa_cons h.pe (IsAs.pa hs) hq) fun σ H Q ⟨ad, env, T, F, A, r, env', T', R, e, k⟩ => by
    simp only [evAs] at e
    by_cases so : slotOk a env = true
    · rw [if_pos so] at e
      cases q : evA a env T with
      | none => rw [q] at e; cases e
      | some z =>
        obtain ⟨o, e1, t1⟩ := z
        rw [q] at e
        simp only at e
        cases q2 : evAs as e1 t1 with
        | none => rw [q2] at e; cases e
        | some z2 =>
          obtain ⟨os, e2, t2⟩ := z2
          rw [q2] at e
          simp only [Option.some.injEq, Prod.mk.injEq] at e
          obtain ⟨rfl, rfl, rfl⟩ := e
          refine ⟨ad, env, T, F, A, o, e1, t1, R, q, slotOk.has R so, fun v H' F' A' R' S' hv => ?_⟩
          exact ⟨ad, e1, t1, F', A', os, e2, t2, R', q2, fun vs H2 F2 A2 R2 S2 hvs => k (v :: vs) H2 F2 A2 R2 (R'.st S' S2 R2) ⟨v, vs, rfl, hv.mono S2.sF, hvs⟩⟩
    · rw [if_neg so] at e; cases e
theorem evN_run {Z : TSys} {as : List (Arg Z)} {env : List Sl} {T : Z.T} {ds : List D} {env' : List Sl} {T' : Z.T} (h : evN as env T = some (ds, env', T')) {ad : Z.Ad} {F H : Hp} {σ : L2.St} {A : List Addr} (R : Rel Z ad env T F σ H A) {Q : List V → Hp → Prop}
    (k : ∀ vs H' F' A', Rel Z ad env' T' F' σ H' A' → Stp Z ad A F H A' F' H' → HBL (Z.root ad) F' H' ds vs → Q vs H') : denAs Z as σ H Q := by
  unfold evN at h
  cases q : evAs as env T with
  | none => rw [q] at h; cases h
  | some z =>
    obtain ⟨os, e1, t1⟩ := z
    rw [q] at h
    simp only at h
    cases g : getAs as os e1 with
    | none => rw [g] at h; cases h
    | some ds' =>
      rw [g] at h
      simp only [Option.some.injEq, Prod.mk.injEq] at h
      obtain ⟨rfl, rfl, rfl⟩ := h
      exact ⟨ad, env, T, F, A, os, e1, t1, R, q, fun vs H' F' A' R' S' hv => k vs H' F' A' R' S' (hv.get R' g)⟩

/-! ### built-in functions -/
def mfn {Z : TSys} (g : List D → Option D) (as : List (Arg Z)) : M Z := fun e t => match evN as e t with
  | some (ds, e1, t1) => match g ds with
    | some d => some (d, e1, t1)
    | none => none
  | none => none
def mfnL {Z : TSys} (g : List D → Option (List D)) (as : List (Arg Z)) : M Z := fun e t => match evN as e t with
  | some (ds, e1, t1) => match g ds with
    | some d => some (.lst d, e1, t1)
    | none => none
  | none => none
section
variable {Z : TSys} {X : Cx} {x : Str} {p pos : Pos} {e : Expr} {es : List Expr} {id T : String} {r : List V → Hp → VK → Prop} {g : List D → Option D} {gl : List D → Option (List D)} {as : List (Arg Z)}
theorem mfn_inv {env : List Sl} {t : Z.T} {d : D} {env' : List Sl} {t' : Z.T} (h : mfn g as env t = some (d, env', t')) : ∃ ds, evN as env t = some (ds, env', t') ∧ g ds = some d := by
  unfold mfn at h
  cases q : evN as env t with
  | none => rw [q] at h; cases h
  | some z =>
    obtain ⟨ds, e1, t1⟩ := z
    rw [q] at h
    simp only at h
    cases q2 : g ds with
    | none => rw [q2] at h; cases h
    | some d' =>
      rw [q2] at h
      simp only [Option.some.injEq, Prod.mk.injEq] at h
      obtain ⟨rfl, rfl, rfl⟩ := h
      exact ⟨ds, rfl, q2⟩
theorem mfnL_inv {env : List Sl} {t : Z.T} {d : D} {env' : List Sl} {t' : Z.T} (h : mfnL gl as env t = some (d, env', t')) : ∃ ds us, evN as env t = some (ds, env', t') ∧ gl ds = some us ∧ d = .lst us := by
  unfold mfnL at h
  cases q : evN as env t with
  | none => rw [q] at h; cases h
  | some z =>
    obtain ⟨ds, e1, t1⟩ := z
    rw [q] at h
    simp only at h
    cases q2 : gl ds with
    | none => rw [q2] at h; cases h
    | some d' =>
      rw [q2] at h
      simp only [Option.some.injEq, Prod.mk.injEq] at h
      obtain ⟨rfl, rfl, rfl⟩ := h
      exact ⟨ds, d', rfl, q2, rfl⟩
theorem fn_core (hd : CallD r g) {σ : L2.St} {H : Hp} {Q : VK} (h : den Z (mfn g as) σ H Q) : tCB r (denAs Z as) σ H Q := by
  obtain ⟨ad, env, T, F, A0, d, env', T', R, e, k⟩ := h
  obtain ⟨ds, e1, e2⟩ := mfn_inv e
  refine evN_run (Q := fun vs H1 => r vs H1 Q) e1 R fun vs H' F' A' R' S' hv => ?_
  refine hd _ F' H' ds d vs Q R'.same hv e2 fun w F2 H2 n hw => ?_
  obtain ⟨R2, S2⟩ := R'.new n
  exact k w H2 F2 A' R2 (R'.st S' S2 R2) hw
theorem fnL_core (hd : CallN r gl) {σ : L2.St} {H : Hp} {Q : VK} (h : denO Z 1 (mfnL gl as) σ H Q) : tCB r (denAs Z as) σ H Q := by
  obtain ⟨ad, env, T, F, A0, d, env', T', R, e, k⟩ := h
  obtain ⟨ds, us, e1, e2, rfl⟩ := mfnL_inv e
  refine evN_run (Q := fun vs H1 => r vs H1 Q) e1 R fun vs H' F' A' R' S' hv => ?_
  refine hd _ F' H' ds us vs Q R'.same hv e2 fun p vs hp hl => ?_
  obtain ⟨R2, S2⟩ := R'.own hp (.lst vs)
  obtain ⟨n1, n2⟩ := R'.notin hp
  refine k _ _ F' A' [p] R2 (R'.st S' S2 R2) ⟨p, [], rfl, R'.same.free hp, rfl, vs, upd_same, OwnL.ofHolds hl⟩ (by simp) fun a ha => ?_
  have ea : a = p := by simpa using ha
  subst ea
  exact ⟨n1, S'.none hp, n2⟩
theorem ie_blt (hc : CallR X (.builtin id) r) (hd : CallD r g) (hg : Gl X x) (hm : X.mg x = none) (hv : bootBuiltins x = some (.builtin id)) (ha : IsAs Z X (e :: es) as) (hn : x ≠ "__name__" := by decide) (hdb : (x == ("__debug__" : Str)) = false := by decide)
    (he : starEach (e :: es) X.env = (false, eval e X.env) :: starEach es X.env := by rfl) (hpl : (backTo pos (starEach es X.env)).any (·.1) = false := by rfl) : IsE Z X (.Call (.Name x p) (e :: es) [] pos) (mfn g as) :=
  ⟨PE.imp (pe_callB hc hg hm hv ha.pa hn hdb he hpl) fun _ _ _ h => fn_core hd h⟩
theorem ie_ty (hc : CallR X (.type T) r) (hd : CallD r g) (hg : Gl X x) (hm : X.mg x = none) (hv : bootBuiltins x = some (.type T)) (ha : IsAs Z X (e :: es) as) (hn : x ≠ "__name__" := by decide) (hdb : (x == ("__debug__" : Str)) = false := by decide)
    (he : starEach (e :: es) X.env = (false, eval e X.env) :: starEach es X.env := by rfl) (hpl : (backTo pos (starEach es X.env)).any (·.1) = false := by rfl) : IsE Z X (.Call (.Name x p) (e :: es) [] pos) (mfn g as) :=
  ⟨PE.imp (pe_callTy hc hg hm hv ha.pa hn hdb he hpl) fun _ _ _ h => fn_core hd h⟩
theorem io_blt (hc : CallR X (.builtin id) r) (hd : CallN r gl) (hg : Gl X x) (hm : X.mg x = none) (hv : bootBuiltins x = some (.builtin id)) (ha : IsAs Z X (e :: es) as) (hn : x ≠ "__name__" := by decide) (hdb : (x == ("__debug__" : Str)) = false := by decide)
    (he : starEach (e :: es) X.env = (false, eval e X.env) :: starEach es X.env := by rfl) (hpl : (backTo pos (starEach es X.env)).any (·.1) = false := by rfl) : IsO Z 1 X (.Call (.Name x p) (e :: es) [] pos) (mfnL gl as) :=
  ⟨PE.imp (pe_callB hc hg hm hv ha.pa hn hdb he hpl) fun _ _ _ h => fnL_core hd h⟩
theorem io_ty (hc : CallR X (.type T) r) (hd : CallN r gl) (hg : Gl X x) (hm : X.mg x = none) (hv : bootBuiltins x = some (.type T)) (ha : IsAs Z X (e :: es) as) (hn : x ≠ "__name__" := by decide) (hdb : (x == ("__debug__" : Str)) = false := by decide)
    (he : starEach (e :: es) X.env = (false, eval e X.env) :: starEach es X.env := by rfl) (hpl : (backTo pos (starEach es X.env)).any (·.1) = false := by rfl) : IsO Z 1 X (.Call (.Name x p) (e :: es) [] pos) (mfnL gl as) :=
  ⟨PE.imp (pe_callTy hc hg hm hv ha.pa hn hdb he hpl) fun _ _ _ h => fnL_core hd h⟩
end

/-! ### operators that give a new list -/
def mopL {Z : TSys} (g : D → D → Option (List D)) (a b : Arg Z) : M Z := mop (fun x y => (g x y).map .lst) a b
section
variable {Z : TSys} {X : Cx} {a b : Expr} {A B : Arg Z} {pos : Pos} {r : R2} {g : D → D → Option (List D)}
theorem io_op {op : Operator} (ho : OpR X (binaryOp op) r) (hd : OpN r g) (ha : IsA Z X a A) (hb : IsA Z X b B) : IsO Z 1 X (.BinOp a op b pos) (mopL g A B) :=
  ⟨PE.imp (pe_op ho ha.pe hb.pe) fun σ H Q h => by
    obtain ⟨ad, env, T, F, A0, d, env', T', R, e, k⟩ := h
    obtain ⟨x, y, e1, e2⟩ := mop_inv e
    cases q : g x y with
    | none => rw [q] at e2; cases e2
    | some us =>
      rw [q] at e2
      simp only [Option.map_some, Option.some.injEq] at e2
      subst e2
      refine ev2_run (Q := fun x y H2 => r x y H2 Q) e1 R fun v u H' F' A' R' S' hv hu => ?_
      refine hd _ F' H' x y us v u Q R'.same hv hu q fun p vs hp hl => ?_
      obtain ⟨R2, S2⟩ := R'.own hp (.lst vs)
      obtain ⟨n1, n2⟩ := R'.notin hp
      refine k _ _ F' A' [p] R2 (R'.st S' S2 R2) ⟨p, [], rfl, R'.same.free hp, rfl, vs, upd_same, OwnL.ofHolds hl⟩ (by simp) fun a ha => ?_
      have ea : a = p := by simpa using ha
      subst ea
      exact ⟨n1, S'.none hp, n2⟩⟩
end

/-! ### subscripts -/
theorem ie_ix {Z : TSys} {X : Cx} {a b : Expr} {A B : Arg Z} {pos : Pos} {r : R2} {g : D → D → Option D} (hr : IxR X r) (hd : OpD r g) (ha : IsA Z X a A) (hb : IsA Z X b B) (hs : PlainIx b := by exact fun _ _ => rfl) : IsE Z X (.Subscript a b pos) (mop g A B) :=
  ⟨PE.imp (pe_ix hr ha.pe hb.pe hs) fun _ _ _ h => op_core hd h⟩

/-! ### slices -/
def SlD (r : V → Option Int → Option Int → Hp → VK → Prop) (g : D → Option Int → Option Int → Option D) : Prop := ∀ (rt : V) (F H : Hp) (dx d : D) (x : V) (lo hi : Option Int) (Q : VK), Same F H → HB rt F H dx x → g dx lo hi = some d →
  (∀ v F' H', New F H F' H' → Holds rt F' d v → Q v H') → r x lo hi H Q
abbrev MO (Z : TSys) := List Sl → Z.T → Option (Option Int × List Sl × Z.T)
def denP (Z : TSys) (m : MO Z) : TO := fun σ H Q => ∃ (ad : Z.Ad) (env : List Sl) (T : Z.T) (F : Hp) (A : List Addr) (r : Option Int) (env' : List Sl) (T' : Z.T),
  Rel Z ad env T F σ H A ∧ m env T = some (r, env', T') ∧ ∀ H' F' A', Rel Z ad env' T' F' σ H' A' → Stp Z ad A F H A' F' H' → Q r H'
structure IsP (Z : TSys) (X : Cx) (e : Option Expr) (m : MO Z) : Prop where
  po : PO X e (denP Z m)
theorem PO.imp {X : Cx} {e : Option Expr} {t u : TO} (h : PO X e t) (f : ∀ σ H Q, u σ H Q → t σ H Q) : PO X e u := ⟨fun pins s σ H Q I q => h.run pins s σ H Q I (f _ _ _ q)⟩
def onone {Z : TSys} : MO Z := fun e t => some (none, e, t)
def osome {Z : TSys} (m : M Z) : MO Z := fun e t => match m e t with
  | some (.int i, e', t') => some (some i, e', t')
  | _ => none
def mslice {Z : TSys} (g : D → Option Int → Option Int → Option D) (a : Arg Z) (lo hi : MO Z) : M Z := fun e t => if slotOk a e then match evA a e t with
  | some (o, e1, t1) => match lo e1 t1 with
    | some (l, e2, t2) => match hi e2 t2 with
      | some (h, e3, t3) => match getA a o e3 with
        | some d => match g d l h with
          | some r => some (r, e3, t3)
          | none => none
        | none => none
      | none => none
    | none => none
  | none => none
  else none
section
variable {Z : TSys} {X : Cx} {e : Expr} {lo hi : Option Expr} {A : Arg Z} {pos p2 : Pos}
theorem ip_none : IsP Z X none onone := ⟨PO.imp po_none fun σ H Q ⟨ad, env, T, F, A, r, env', T', R, e, k⟩ => by
  simp only [onone, Option.some.injEq, Prod.mk.injEq] at e
  obtain ⟨rfl, rfl, rfl⟩ := e
  exact k H F A R Stp.refl⟩
theorem ip_some {m : M Z} (h : IsE Z X e m) : IsP Z X (some e) (osome m) := ⟨PO.imp (po_some h.pe) fun σ H Q ⟨ad, env, T, F, A, r, env', T', R, e, k⟩ => by
  unfold osome at e
  split at e
  · rename_i i e1 t1 q
    simp only [Option.some.injEq, Prod.mk.injEq] at e
    obtain ⟨rfl, rfl, rfl⟩ := e
    exact ⟨ad, env, T, F, A, .int i, e1, t1, R, q, fun v H' F' A' R' S' hv => ⟨i, by simpa only [Holds] using hv, k H' F' A' R' S'⟩⟩
  · cases e⟩
theorem ie_slice {r : V → Option Int → Option Int → Hp → VK → Prop} {g : D → Option Int → Option Int → Option D} {ml mh : MO Z} (hr : SlR X r) (hd : SlD r g) (ha : IsA Z X e A) (hl : IsP Z X lo ml) (hh : IsP Z X hi mh) :
    IsE Z X (.Subscript e (.Slice lo hi none p2) pos) (mslice g A ml mh) := ⟨PE.imp (pe_slice hr ha.pe hl.po hh.po) fun σ H Q ⟨ad, env, T, F, A0, d, env', T', R, e, k⟩ => by
  unfold mslice at e
  by_cases so : slotOk A env = true
  · rw [if_pos so] at e
    cases q : evA A env T with
    | none => rw [q] at e; cases e
    | some z =>
      obtain ⟨o, e1, t1⟩ := z
      rw [q] at e
      simp only at e
      cases q2 : ml e1 t1 with
      | none => rw [q2] at e; cases e
      | some z2 =>
        obtain ⟨l, e2, t2⟩ := z2
        rw [q2] at e
        simp only at e
        cases q3 : mh e2 t2 with
        | none => rw [q3] at e; cases e
        | some z3 =>
          obtain ⟨h, e3, t3⟩ := z3
          rw [q3] at e
          simp only at e
          cases q4 : getA A o e3 with
          | none => rw [q4] at e; cases e
          | some d0 =>
            rw [q4] at e
            simp only at e
            cases q5 : g d0 l h with
            | none => rw [q5] at e; cases e
            | some d1 =>
              rw [q5] at e
              simp only [Option.some.injEq, Prod.mk.injEq] at e
              obtain ⟨rfl, rfl, rfl⟩ := e
              refine ⟨ad, env, T, F, A0, o, e1, t1, R, q, slotOk.has R so, fun v H' F' A' R' S' hv => ?_⟩
              refine ⟨ad, e1, t1, F', A', l, e2, t2, R', q2, fun H2 F2 A2 R2 S2 => ?_⟩
              refine ⟨ad, e2, t2, F2, A2, h, e3, t3, R2, q3, fun H3 F3 A3 R3 S3 => ?_⟩
              refine hd _ F3 H3 d0 d1 v l h Q R3.same ((hv.mono (S2.sF.trans S3.sF)).get R3 q4) q5 fun w F4 H4 n hw => ?_
              obtain ⟨R4, S4⟩ := R3.new n
              exact k w H4 F4 A3 R4 ((S'.trans S2).trans (S3.trans S4)) hw
  · rw [if_neg so] at e; cases e⟩
end

/-! ### a < b < c -/
def mchain {Z : TSys} (g g' : D → D → Option D) (a b c : Arg Z) : M Z := fun e t => if slotOk a e then match evA a e t with
  | some (o, e1, t1) => if slotOk b e1 then match evA b e1 t1 with
    | some (o2, e2, t2) => match getA a o e2, getA b o2 e2 with
      | some d, some d2 => match g d d2 with
        | some (.bl true) => if slotOk c e2 then match evA c e2 t2 with
          | some (o3, e3, t3) => match getA b o2 e3, getA c o3 e3 with
            | some d2', some d3 => match g' d2' d3 with
              | some r => some (r, e3, t3)
              | none => none
            | _, _ => none
          | none => none
          else none
        | some (.bl false) => some (.bl false, e2, t2)
        | _ => none
      | _, _ => none
    | none => none
    else none
  | none => none
  else none
section
variable {Z : TSys} {X : Cx} {a b c : Expr} {A B C : Arg Z} {pos : Pos} {r r' : R2} {g g' : D → D → Option D}
theorem chain_core (hd : OpD r g) (hd' : OpD r' g') {σ : L2.St} {H : Hp} {Q : VK} (h : den Z (mchain g g' A B C) σ H Q) : tChain r r' (denA Z A) (denA Z B) (denA Z C) σ H Q := by
  obtain ⟨ad, env, T, F, A0, d, env', T', R, e, k⟩ := h
  unfold mchain at e
  by_cases so : slotOk A env = true
  · rw [if_pos so] at e
    cases q : evA A env T with
    | none => rw [q] at e; cases e
    | some z =>
      obtain ⟨o, e1, t1⟩ := z
      rw [q] at e
      simp only at e
      by_cases so2 : slotOk B e1 = true
      · rw [if_pos so2] at e
        cases q2 : evA B e1 t1 with
        | none => rw [q2] at e; cases e
        | some z2 =>
          obtain ⟨o2, e2, t2⟩ := z2
          rw [q2] at e
          simp only at e
          cases g1 : getA A o e2 with
          | none => rw [g1] at e; cases e
          | some d1 =>
            cases g2 : getA B o2 e2 with
            | none => rw [g1, g2] at e; cases e
            | some d2 =>
              rw [g1, g2] at e
              simp only at e
              refine ⟨ad, env, T, F, A0, o, e1, t1, R, q, slotOk.has R so, fun v H' F' A' R' S' hv => ?_⟩
              refine ⟨ad, e1, t1, F', A', o2, e2, t2, R', q2, slotOk.has R' so2, fun u H2 F2 A2 R2 S2 hu => ?_⟩
              cases gg : g d1 d2 with
              | none => rw [gg] at e; cases e
              | some db =>
                rw [gg] at e
                refine hd _ F2 H2 d1 d2 db v u _ R2.same ((hv.mono S2.sF).get R2 g1) (hu.get R2 g2) gg fun w F3 H3 n hw => ?_
                obtain ⟨R3, S3⟩ := R2.new n
                cases db with
                | bl bb =>
                  refine ⟨bb, by simpa only [Holds] using hw, ?_⟩
                  cases bb with
                  | false =>
                    simp only [Option.some.injEq, Prod.mk.injEq] at e
                    obtain ⟨rfl, rfl, rfl⟩ := e
                    exact k _ H3 F3 A2 R3 ((S'.trans S2).trans S3) (by simp only [Holds])
                  | true =>
                    simp only at e
                    by_cases so3 : slotOk C e2 = true
                    · rw [if_pos so3] at e
                      cases q3 : evA C e2 t2 with
                      | none => rw [q3] at e; cases e
                      | some z3 =>
                        obtain ⟨o3, e3, t3⟩ := z3
                        rw [q3] at e
                        simp only at e
                        cases g3 : getA B o2 e3 with
                        | none => rw [g3] at e; cases e
                        | some d2' =>
                          cases g4 : getA C o3 e3 with
                          | none => rw [g3, g4] at e; cases e
                          | some d3 =>
                            rw [g3, g4] at e
                            simp only at e
                            cases gr : g' d2' d3 with
                            | none => rw [gr] at e; cases e
                            | some dr =>
                              rw [gr] at e
                              simp only [Option.some.injEq, Prod.mk.injEq] at e
                              obtain ⟨rfl, rfl, rfl⟩ := e
                              refine ⟨ad, e2, t2, F3, A2, o3, e3, t3, R3, q3, slotOk.has R3 so3, fun y H4 F4 A4 R4 S4 hy => ?_⟩
                              refine hd' _ F4 H4 d2' d3 dr u y Q R4.same ((hu.mono (S3.sF.trans S4.sF)).get R4 g3) (hy.get R4 g4) gr fun w' F5 H5 n5 hw' => ?_
                              obtain ⟨R5, S5⟩ := R4.new n5
                              exact k w' H5 F5 A4 R5 (((S'.trans S2).trans S3).trans (S4.trans S5)) hw'
                    · rw [if_neg so3] at e; cases e
                | _ => cases e
      · rw [if_neg so2] at e; cases e
  · rw [if_neg so] at e; cases e
end

/-! ### defs of the text -/
abbrev FnM (Z : TSys) := List D → Z.T → Option (D × Z.T)
def spD (Z : TSys) (n : Nat) (f : FnM Z) : Sp := fun vs H Q _ => vs.length = n ∧ ∃ (ad : Z.Ad) (ds : List D) (T : Z.T) (F : Hp) (r : D) (T' : Z.T),
  HoldsL (Z.root ad) F ds vs ∧ Rel Z ad [] T F [] H [] ∧ f ds T = some (r, T') ∧ ∀ v H' F', Rel Z ad [] T' F' [] H' [] → Stp Z ad [] F H [] F' H' → Holds (Z.root ad) F' r v → Q v H'
structure Fn (Z : TSys) (P : Program) (w : World) (K : PySem.W.Frag) (mg : Str → Option Value) (base : Heap) (A : Around) (x : Str) (n : Nat) (f : FnM Z) : Prop where
  ex : ∃ (k : Nat) (fa : Addr) (fd : FuncData) (ps : List Str), ps.length = n ∧ FnOk P w K mg base CX0 k fa fd ps (spD Z n f) ∧ Room k A ∧ mg x = some (.ref fa) ∧ PySem.W.keepIn K (.ref fa) = true ∧ Binds K fd ps []
def mcall {Z : TSys} (n : Nat) (f : FnM Z) (l : ML Z) : M Z := fun e t => match l e t with
  | some (ds, e1, t1) => if ds.length = n then match f ds t1 with
    | some (r, t2) => some (r, e1, t2)
    | none => none
    else none
  | none => none
section
variable {Z : TSys} {ad : Z.Ad} {env : List Sl} {T T1 : Z.T} {F H F1 H1 : Hp} {σ : L2.St} {A : List Addr}
theorem Rel.bare (R : Rel Z ad env T F σ H A) : Rel Z ad [] T F [] H [] := ⟨R.same, ⟨rfl, rfl⟩, List.nodup_nil, R.tp, fun a ha => ⟨(R.tf a ha).1, by simp⟩⟩
theorem Rel.back (R : Rel Z ad env T F σ H A) (R1 : Rel Z ad [] T1 F1 [] H1 []) (S : Stp Z ad [] F H [] F1 H1) : Rel Z ad env T1 F1 σ H1 A ∧ Stp Z ad A F H A F1 H1 := by
  refine ⟨⟨R1.same, R.env.keep S.sF fun a ha => ?_, R.nd, R1.tp, fun b hb => ⟨(R1.tf b hb).1, (R.tf b hb).2⟩⟩, S.sF, fun a h => ?_, fun a h => .inl h, fun a o h _ ht => S.fr a o h (by simp) ht, S.ex⟩
  · obtain ⟨f, o, ho⟩ := R.at a ha
    refine ⟨(S.fr a o ho (by simp) fun z => (R.tf a z).2 ha).trans ho.symm, ?_⟩
    cases q : F1 a with
    | none => rfl
    | some x =>
      rcases S.nF a (by rw [q]; exact fun z => by cases z) with z | z | z
      · exact absurd f z
      · simp at z
      · rw [ho] at z; cases z
  · rcases S.nF a h with z | z | z
    · exact .inl z
    · simp at z
    · exact .inr (.inr z)
end
theorem ie_call {Z : TSys} {X : Cx} {x : Str} {n : Nat} {f : FnM Z} {e : Expr} {es : List Expr} {l : ML Z} {p pos : Pos} (hf : Fn Z X.prog X.w X.K X.mg X.base X.A x n f) (hg : Gl X x) (ha : IsL Z X (e :: es) l) (hdb : (x == ("__debug__" : Str)) = false := by decide)
    (he : starEach (e :: es) X.env = (false, eval e X.env) :: starEach es X.env := by rfl) (hpl : (backTo pos (starEach es X.env)).any (·.1) = false := by rfl) : IsE Z X (.Call (.Name x p) (e :: es) [] pos) (mcall n f l) := by
  obtain ⟨k, fa, fd, ps, hn, F, hr, hm, hk, hb⟩ := hf.ex
  refine ⟨PE.imp (pe_call F hr hg hm hk hb .nil pass0 ha.pa hdb he hpl) fun σ H Q ⟨ad, env, T, F0, A, r, env', T', R, e, kk⟩ => ?_⟩
  unfold mcall at e
  cases q : l env T with
  | none => rw [q] at e; cases e
  | some z =>
    obtain ⟨ds, e1, t1⟩ := z
    rw [q] at e
    simp only at e
    by_cases hl : ds.length = n
    · rw [if_pos hl] at e
      cases q2 : f ds t1 with
      | none => rw [q2] at e; cases e
      | some z2 =>
        obtain ⟨d, t2⟩ := z2
        rw [q2] at e
        simp only [Option.some.injEq, Prod.mk.injEq] at e
        obtain ⟨rfl, rfl, rfl⟩ := e
        refine ⟨ad, env, T, F0, A, ds, e1, t1, R, q, fun vs H' F' A' R' S' hv => ?_⟩
        show spD Z n f (vs ++ []) H' Q E0
        rw [List.append_nil]
        refine ⟨by rw [hv.length, hl], ad, ds, t1, F', d, t2, hv, R'.bare, q2, fun v H2 F2 R2 S2 hw => ?_⟩
        obtain ⟨R3, S3⟩ := R'.back R2 S2
        exact kk v H2 F2 A' R3 (S'.trans S3) hw
    · rw [if_neg hl] at e; cases e
end DL

/-! The data layer, 5: statements, targets, loops, comprehensions, defs. -/
namespace DL
open PySem L2

/-! ### slots set -/
section
variable {Z : TSys} {ad : Z.Ad} {env : List Sl} {T : Z.T} {F H : Hp} {σ : L2.St} {A : List Addr}
theorem set_out {α : Type} {l : List α} {i : Nat} {x : α} (h : l[i]? = none) : l.set i x = l := by
  rw [List.set_eq_of_length_le]; simpa using h
theorem Rel.setSh (R : Rel Z ad env T F σ H A) (i : Nat) {d : D} {v : V} (hv : Holds (Z.root ad) F d v) : ∃ A', Rel Z ad (env.set i (.sh d)) T F (σ.set i (some v)) H A' ∧ Stp Z ad A F H A' F H := by
  cases q : env[i]? with
  | none =>
    have q2 : σ[i]? = none := by
      rw [List.getElem?_eq_none_iff] at q ⊢
      rw [R.env.length]; exact q
    rw [set_out q, set_out q2]
    exact ⟨A, R, Stp.refl⟩
  | some x =>
    obtain ⟨o, A0, A1, A2, e1, eA, _, re⟩ := R.env.split q
    subst eA
    have sub : ∀ a ∈ A0 ++ [] ++ A2, a ∈ A0 ++ A1 ++ A2 := fun a ha => by
      simp only [List.append_nil, List.mem_append] at ha ⊢
      rcases ha with z | z
      · exact .inl (.inl z)
      · exact .inr z
    refine ⟨A0 ++ [] ++ A2, ⟨R.same, re (Same.refl _) (fun a ha => ⟨rfl, ?_⟩) ⟨rfl, v, rfl, hv⟩, ?_, R.tp, fun b hb => ⟨(R.tf b hb).1, fun z => (R.tf b hb).2 (sub b z)⟩⟩, Same.refl _, fun a h => .inl h, fun a ha => .inl (sub a ha), fun a o h _ _ => h, fun a o h => ⟨o, h⟩⟩
    · exact (R.at a (sub a (by simpa using ha))).1
    · have nd := R.nd
      rw [List.append_nil]
      rw [List.nodup_append, List.nodup_append] at nd
      rw [List.nodup_append]
      exact ⟨nd.1.1, nd.2.1, fun a h1 b h2 => nd.2.2 a (List.mem_append_left _ h1) b h2⟩
theorem Rel.setNo (R : Rel Z ad env T F σ H A) (i : Nat) (o' : Option V) : ∃ A', Rel Z ad (env.set i .no) T F (σ.set i o') H A' ∧ Stp Z ad A F H A' F H := by
  cases q : env[i]? with
  | none =>
    have q2 : σ[i]? = none := by
      rw [List.getElem?_eq_none_iff] at q ⊢
      rw [R.env.length]; exact q
    rw [set_out q, set_out q2]
    exact ⟨A, R, Stp.refl⟩
  | some x =>
    obtain ⟨o, A0, A1, A2, e1, eA, _, re⟩ := R.env.split q
    subst eA
    have sub : ∀ a ∈ A0 ++ [] ++ A2, a ∈ A0 ++ A1 ++ A2 := fun a ha => by
      simp only [List.append_nil, List.mem_append] at ha ⊢
      rcases ha with z | z
      · exact .inl (.inl z)
      · exact .inr z
    refine ⟨A0 ++ [] ++ A2, ⟨R.same, re (Same.refl _) (fun a ha => ⟨rfl, ?_⟩) rfl, ?_, R.tp, fun b hb => ⟨(R.tf b hb).1, fun z => (R.tf b hb).2 (sub b z)⟩⟩, Same.refl _, fun a h => .inl h, fun a ha => .inl (sub a ha), fun a o h _ _ => h, fun a o h => ⟨o, h⟩⟩
    · exact (R.at a (sub a (by simpa using ha))).1
    · have nd := R.nd
      rw [List.append_nil]
      rw [List.nodup_append, List.nodup_append] at nd
      rw [List.nodup_append]
      exact ⟨nd.1.1, nd.2.1, fun a h1 b h2 => nd.2.2 a (List.mem_append_left _ h1) b h2⟩
theorem Rel.setOw (R : Rel Z ad env T F σ H A) (i : Nat) {n : Nat} {d : D} {v : V} {B : List Addr} (hv : Own (Z.root ad) F H n d v B) (nB : B.Nodup) (hB : ∀ a ∈ B, a ∉ A ∧ a ∉ Z.addrs ad) :
    ∃ A', Rel Z ad (env.set i (.ow n d)) T F (σ.set i (some v)) H A' ∧ Same F F ∧ (∀ a ∈ A', a ∈ A ∨ a ∈ B) := by
  cases q : env[i]? with
  | none =>
    have q2 : σ[i]? = none := by
      rw [List.getElem?_eq_none_iff] at q ⊢
      rw [R.env.length]; exact q
    rw [set_out q, set_out q2]
    exact ⟨A, R, Same.refl _, fun a h => .inl h⟩
  | some x =>
    obtain ⟨o, A0, A1, A2, e1, eA, _, re⟩ := R.env.split q
    subst eA
    have nd := R.nd
    rw [List.nodup_append, List.nodup_append] at nd
    have inA : ∀ a, a ∈ A0 ∨ a ∈ A2 → a ∈ A0 ++ A1 ++ A2 := fun a ha => by
      simp only [List.mem_append]
      rcases ha with z | z
      · exact .inl (.inl z)
      · exact .inr z
    refine ⟨A0 ++ B ++ A2, ⟨R.same, re (Same.refl _) (fun a ha => ⟨rfl, ?_⟩) ⟨v, rfl, hv⟩, ?_, R.tp, fun b hb => ⟨(R.tf b hb).1, fun z => ?_⟩⟩, Same.refl _, fun a ha => ?_⟩
    · exact (R.at a (inA a (List.mem_append.mp ha))).1
    · rw [List.nodup_append, List.nodup_append]
      refine ⟨⟨nd.1.1, nB, fun a h1 b h2 e => (hB b h2).1 (inA b (.inl (e ▸ h1)))⟩, nd.2.1, fun a h1 b h2 e => ?_⟩
      rcases List.mem_append.mp h1 with z | z
      · exact nd.2.2 a (List.mem_append_left _ z) b h2 e
      · exact (hB a z).1 (inA a (.inr (e ▸ h2)))
    · simp only [List.mem_append] at z
      rcases z with (z | z) | z
      · exact (R.tf b hb).2 (inA b (.inl z))
      · exact (hB b z).2 hb
      · exact (R.tf b hb).2 (inA b (.inr z))
    · simp only [List.mem_append] at ha
      rcases ha with (z | z) | z
      · exact .inl (inA a (.inl z))
      · exact .inr z
      · exact .inl (inA a (.inr z))
end

/-! ### statements -/
inductive Fl where
  | nx | bk | ct | rt (d : D)
abbrev SM (Z : TSys) := List Sl → Z.T → Option (Fl × List Sl × Z.T)
def endS (Dn : Ends) (rt : V) (F : Hp) (σ : L2.St) (H : Hp) : Fl → Prop
  | .nx => Dn.nx σ H
  | .bk => Dn.bk σ H
  | .ct => Dn.ct σ H
  | .rt d => ∀ v, Holds rt F d v → Dn.rt v H
def denS (Z : TSys) (m : SM Z) : TS := fun Dn σ H => ∃ (ad : Z.Ad) (env : List Sl) (T : Z.T) (F : Hp) (A : List Addr) (fl : Fl) (env' : List Sl) (T' : Z.T),
  Rel Z ad env T F σ H A ∧ m env T = some (fl, env', T') ∧ ∀ σ' H' F' A', Rel Z ad env' T' F' σ' H' A' → Stp Z ad A F H A' F' H' → endS Dn (Z.root ad) F' σ' H' fl
structure IsS (Z : TSys) (X : Cx) (st : Stmt) (m : SM Z) : Prop where
  ps : PS X st (denS Z m)
structure IsB (Z : TSys) (X : Cx) (sts : List Stmt) (m : SM Z) : Prop where
  ps : PSs X sts (denS Z m)
theorem PS.imp {X : Cx} {st : Stmt} {t u : TS} (h : PS X st t) (f : ∀ D σ H, u D σ H → t D σ H) : PS X st u := ⟨fun pins s σ H D I q => h.run pins s σ H D I (f _ _ _ q)⟩
theorem PSs.imp {X : Cx} {st : List Stmt} {t u : TS} (h : PSs X st t) (f : ∀ D σ H, u D σ H → t D σ H) : PSs X st u := ⟨fun pins s σ H D I q => h.run pins s σ H D I (f _ _ _ q)⟩
def snil {Z : TSys} : SM Z := fun e t => some (.nx, e, t)
def scons {Z : TSys} (a b : SM Z) : SM Z := fun e t => match a e t with
  | some (.nx, e1, t1) => b e1 t1
  | some (.bk, e1, t1) => some (.bk, e1, t1)
  | some (.ct, e1, t1) => some (.ct, e1, t1)
  | some (.rt d, e1, t1) => some (.rt d, e1, t1)
  | none => none
def sfl {Z : TSys} (f : Fl) : SM Z := fun e t => some (f, e, t)
def sret {Z : TSys} (m : M Z) : SM Z := fun e t => match m e t with
  | some (d, e1, t1) => some (.rt d, e1, t1)
  | none => none
def sset {Z : TSys} (i : Nat) (m : M Z) : SM Z := fun e t => match m e t with
  | some (d, e1, t1) => some (.nx, e1.set i (.sh d), t1)
  | none => none
def ssetO {Z : TSys} (i n : Nat) (m : M Z) : SM Z := fun e t => match m e t with
  | some (d, e1, t1) => some (.nx, e1.set i (.ow n d), t1)
  | none => none
def sdrop {Z : TSys} (m : M Z) : SM Z := fun e t => match m e t with
  | some (d, e1, t1) => some (.nx, e1, t1)
  | none => none
def sif {Z : TSys} (c : MB Z) (a b : SM Z) : SM Z := fun e t => match c e t with
  | some (true, e1, t1) => a e1 t1
  | some (false, e1, t1) => b e1 t1
  | none => none
section
variable {Z : TSys} {X : Cx} {st : Stmt} {rest : List Stmt} {e c : Expr} {pos pos' : Pos}
theorem ib_nil : IsB Z X [] snil := ⟨PSs.imp pss_nil fun D σ H ⟨ad, env, T, F, A, fl, env', T', R, e, k⟩ => by
  simp only [snil, Option.some.injEq, Prod.mk.injEq] at e
  obtain ⟨rfl, rfl, rfl⟩ := e
  exact k σ H F A R Stp.refl⟩
theorem ib_cons {a b : SM Z} (h1 : IsS Z X st a) (h2 : IsB Z X rest b) : IsB Z X (st :: rest) (scons a b) := ⟨PSs.imp (pss_cons h1.ps h2.ps) fun D σ H ⟨ad, env, T, F, A, fl, env', T', R, e, k⟩ => by
  unfold scons at e
  cases q : a env T with
  | none => rw [q] at e; cases e
  | some z =>
    obtain ⟨f1, e1, t1⟩ := z
    rw [q] at e
    refine ⟨ad, env, T, F, A, f1, e1, t1, R, q, fun σ' H' F' A' R' S' => ?_⟩
    cases f1 with
    | nx => exact ⟨ad, e1, t1, F', A', fl, env', T', R', e, fun σ2 H2 F2 A2 R2 S2 => k σ2 H2 F2 A2 R2 (S'.trans S2)⟩
    | bk => simp only [Option.some.injEq, Prod.mk.injEq] at e; obtain ⟨rfl, rfl, rfl⟩ := e; exact k σ' H' F' A' R' S'
    | ct => simp only [Option.some.injEq, Prod.mk.injEq] at e; obtain ⟨rfl, rfl, rfl⟩ := e; exact k σ' H' F' A' R' S'
    | rt d => simp only [Option.some.injEq, Prod.mk.injEq] at e; obtain ⟨rfl, rfl, rfl⟩ := e; exact k σ' H' F' A' R' S'⟩
theorem ib_one {a : SM Z} (h1 : IsS Z X st a) : IsB Z X [st] a := ⟨pss_one h1.ps⟩
theorem is_break : IsS Z X (.Break pos) (sfl .bk) := ⟨PS.imp ps_break fun D σ H ⟨ad, env, T, F, A, fl, env', T', R, e, k⟩ => by
  simp only [sfl, Option.some.injEq, Prod.mk.injEq] at e
  obtain ⟨rfl, rfl, rfl⟩ := e
  exact k σ H F A R Stp.refl⟩
theorem is_continue : IsS Z X (.Continue pos) (sfl .ct) := ⟨PS.imp ps_continue fun D σ H ⟨ad, env, T, F, A, fl, env', T', R, e, k⟩ => by
  simp only [sfl, Option.some.injEq, Prod.mk.injEq] at e
  obtain ⟨rfl, rfl, rfl⟩ := e
  exact k σ H F A R Stp.refl⟩
theorem is_pass : IsS Z X (.Pass pos) (sfl .nx) := ⟨PS.imp ps_pass fun D σ H ⟨ad, env, T, F, A, fl, env', T', R, e, k⟩ => by
  simp only [sfl, Option.some.injEq, Prod.mk.injEq] at e
  obtain ⟨rfl, rfl, rfl⟩ := e
  exact k σ H F A R Stp.refl⟩
theorem is_ret {m : M Z} (h : IsE Z X e m) : IsS Z X (.Return (some e) pos) (sret m) := ⟨PS.imp (ps_ret h.pe) fun D σ H ⟨ad, env, T, F, A, fl, env', T', R, e, k⟩ => by
  unfold sret at e
  cases q : m env T with
  | none => rw [q] at e; cases e
  | some z =>
    obtain ⟨d, e1, t1⟩ := z
    rw [q] at e
    simp only [Option.some.injEq, Prod.mk.injEq] at e
    obtain ⟨rfl, rfl, rfl⟩ := e
    exact ⟨ad, env, T, F, A, d, e1, t1, R, q, fun v H' F' A' R' S' hv => k σ H' F' A' R' S' v hv⟩⟩
theorem is_drop {m : M Z} (h : IsE Z X e m) (hs : swapsWith e none pos.line X.env = pure false := by rfl) : IsS Z X (.Expr e pos) (sdrop m) := ⟨PS.imp (ps_expr h.pe hs) fun D σ H ⟨ad, env, T, F, A, fl, env', T', R, e, k⟩ => by
  unfold sdrop at e
  cases q : m env T with
  | none => rw [q] at e; cases e
  | some z =>
    obtain ⟨d, e1, t1⟩ := z
    rw [q] at e
    simp only [Option.some.injEq, Prod.mk.injEq] at e
    obtain ⟨rfl, rfl, rfl⟩ := e
    exact ⟨ad, env, T, F, A, d, e1, t1, R, q, fun v H' F' A' R' S' hv => k σ H' F' A' R' S'⟩⟩
theorem set_core {i : Nat} {m : M Z} {t : TE} (ht : ∀ σ H Q, den Z m σ H Q → t σ H Q) {D : Ends} {σ : L2.St} {H : Hp} (h : denS Z (sset i m) D σ H) : tAsg t (gName i) D σ H := by
  obtain ⟨ad, env, T, F, A, fl, env', T', R, e, k⟩ := h
  unfold sset at e
  cases q : m env T with
  | none => rw [q] at e; cases e
  | some z =>
    obtain ⟨d, e1, t1⟩ := z
    rw [q] at e
    simp only [Option.some.injEq, Prod.mk.injEq] at e
    obtain ⟨rfl, rfl, rfl⟩ := e
    refine ht σ H _ ⟨ad, env, T, F, A, d, e1, t1, R, q, fun v H' F' A' R' S' hv => ?_⟩
    obtain ⟨A2, R2, S2⟩ := R'.setSh i hv
    exact k (σ.set i (some v)) H' F' A2 R2 (S'.trans S2)
theorem setO_core {i n : Nat} {m : M Z} {t : TE} (ht : ∀ σ H Q, denO Z n m σ H Q → t σ H Q) {D : Ends} {σ : L2.St} {H : Hp} (h : denS Z (ssetO i n m) D σ H) : tAsg t (gName i) D σ H := by
  obtain ⟨ad, env, T, F, A, fl, env', T', R, e, k⟩ := h
  unfold ssetO at e
  cases q : m env T with
  | none => rw [q] at e; cases e
  | some z =>
    obtain ⟨d, e1, t1⟩ := z
    rw [q] at e
    simp only [Option.some.injEq, Prod.mk.injEq] at e
    obtain ⟨rfl, rfl, rfl⟩ := e
    refine ht σ H _ ⟨ad, env, T, F, A, d, e1, t1, R, q, fun v H' F' A' B R' S' ho nB hB => ?_⟩
    obtain ⟨A2, R2, _, inA⟩ := R'.setOw i ho nB fun a ha => ⟨(hB a ha).1, (hB a ha).2.2⟩
    refine k (σ.set i (some v)) H' F' A2 R2 ⟨S'.sF, fun a ha => S'.nF a ha, fun a ha => ?_, S'.fr, S'.ex⟩
    rcases inA a ha with z | z
    · exact S'.nA a z
    · exact .inr (hB a z).2.1
theorem is_set {i : Nat} {x : Str} {m : M Z} (hN : X.N.Nodup) (hi : X.N[i]? = some x) (hx : Loc X.env.scope x) (he : IsE Z X e m) (hs : swapsWith e (some (.Name x pos')) pos.line X.env = pure false := by rfl) (hf : X.fn x = true ∨ X.env.scope.names.lookup x = some .local := by first | exact .inl rfl | exact .inr rfl | assumption) :
    IsS Z X (.Assign [.Name x pos'] e pos) (sset i m) := ⟨PS.imp (ps_set hN hi hx he.pe hs hf) fun _ _ _ h => set_core (fun _ _ _ h => h) h⟩
theorem is_setO {i n : Nat} {x : Str} {m : M Z} (hN : X.N.Nodup) (hi : X.N[i]? = some x) (hx : Loc X.env.scope x) (he : IsO Z n X e m) (hs : swapsWith e (some (.Name x pos')) pos.line X.env = pure false := by rfl) (hf : X.fn x = true ∨ X.env.scope.names.lookup x = some .local := by first | exact .inl rfl | exact .inr rfl | assumption) :
    IsS Z X (.Assign [.Name x pos'] e pos) (ssetO i n m) := ⟨PS.imp (ps_set hN hi hx he.pe hs hf) fun _ _ _ h => setO_core (fun _ _ _ h => h) h⟩
theorem is_if {k : MB Z} {a b : List Stmt} {ma mb : SM Z} (hc : IsT Z X c k) (ha : IsB Z X a ma) (hb : IsB Z X b mb) : IsS Z X (.If c a b pos) (sif k ma mb) := ⟨PS.imp (ps_if hc.pt ha.ps hb.ps) fun D σ H ⟨ad, env, T, F, A, fl, env', T', R, e, kk⟩ => by
  unfold sif at e
  cases q : k env T with
  | none => rw [q] at e; cases e
  | some z =>
    obtain ⟨b, e1, t1⟩ := z
    rw [q] at e
    refine ⟨ad, env, T, F, A, b, e1, t1, R, q, fun H' F' A' R' S' => ?_⟩
    cases b with
    | true => exact ⟨ad, e1, t1, F', A', fl, env', T', R', e, fun σ2 H2 F2 A2 R2 S2 => kk σ2 H2 F2 A2 R2 (S'.trans S2)⟩
    | false => exact ⟨ad, e1, t1, F', A', fl, env', T', R', e, fun σ2 H2 F2 A2 R2 S2 => kk σ2 H2 F2 A2 R2 (S'.trans S2)⟩⟩
end

/-! ### targets -/
abbrev G := D → List Sl → Option (List Sl)
def denG (Z : TSys) (is : List Nat) (g : G) : TG := fun v σ H Q => ∃ (ad : Z.Ad) (env : List Sl) (T : Z.T) (F : Hp) (A : List Addr) (d : D) (env' : List Sl),
  Rel Z ad env T F σ H A ∧ Holds (Z.root ad) F d v ∧ g d env = some env' ∧ ∀ σ' A', Rel Z ad env' T F σ' H A' → Stp Z ad A F H A' F H → σ'.length = σ.length → (∀ j, j ∉ is → σ'[j]? = σ[j]?) → Q σ' H
structure IsG (Z : TSys) (X : Cx) (tg : Expr) (is : List Nat) (g : G) : Prop where
  pg : PG X tg (denG Z is g)
theorem PG.imp {X : Cx} {tg : Expr} {t u : TG} (h : PG X tg t) (f : ∀ v σ H Q, u v σ H Q → t v σ H Q) : PG X tg u := ⟨fun pins s σ H v w Q I r q => h.run pins s σ H v w Q I r (f _ _ _ _ q)⟩
abbrev Gs := List D → List Sl → Option (List Sl)
def denGs (Z : TSys) (is : List Nat) (g : Gs) : TGs := fun vs σ H Q => ∃ (ad : Z.Ad) (env : List Sl) (T : Z.T) (F : Hp) (A : List Addr) (ds : List D) (env' : List Sl),
  Rel Z ad env T F σ H A ∧ HoldsL (Z.root ad) F ds vs ∧ g ds env = some env' ∧ ∀ σ' A', Rel Z ad env' T F σ' H A' → Stp Z ad A F H A' F H → σ'.length = σ.length → (∀ j, j ∉ is → σ'[j]? = σ[j]?) → Q σ' H
structure IsGs (Z : TSys) (X : Cx) (tgs : List Expr) (is : List Nat) (g : Gs) : Prop where
  pg : PGs X tgs (denGs Z is g)
theorem PGs.imp {X : Cx} {tg : List Expr} {t u : TGs} (h : PGs X tg t) (f : ∀ v σ H Q, u v σ H Q → t v σ H Q) : PGs X tg u := ⟨fun pins s σ H v w Q I r q => h.run pins s σ H v w Q I r (f _ _ _ _ q)⟩
def gset (i : Nat) : G := fun d env => some (env.set i (.sh d))
def gnil : Gs := fun ds env => match ds with
  | [] => some env
  | _ :: _ => none
def gcons (g : G) (h : Gs) : Gs := fun ds env => match ds with
  | [] => none
  | d :: r => match g d env with
    | some e1 => h r e1
    | none => none
def gtup (n : Nat) (g : Gs) : G := fun d env => match d with
  | .tup ds => if ds.length = n then g ds env else none
  | _ => none
section
variable {Z : TSys} {X : Cx} {pos : Pos}
theorem ig_name {i : Nat} {x : Str} (hN : X.N.Nodup) (hi : X.N[i]? = some x) (hx : Loc X.env.scope x) (hf : X.fn x = true ∨ X.env.scope.names.lookup x = some .local := by first | exact .inl rfl | exact .inr rfl | assumption) : IsG Z X (.Name x pos) [i] (gset i) :=
  ⟨PG.imp (pg_name hN hi hx hf) fun v σ H Q ⟨ad, env, T, F, A, d, env', R, hv, e, k⟩ => by
    simp only [gset, Option.some.injEq] at e
    subst e
    obtain ⟨A', R', S'⟩ := R.setSh i hv
    refine k _ A' R' S' (by simp) fun j hj => ?_
    rw [List.getElem?_set_ne]
    simpa using fun z => hj (by simp [z])⟩
theorem igs_nil : IsGs Z X [] [] gnil := ⟨PGs.imp pgs_nil fun v σ H Q ⟨ad, env, T, F, A, ds, env', R, hv, e, k⟩ => by
  cases ds with
  | nil =>
    simp only [gnil, Option.some.injEq] at e
    subst e
    simp only [HoldsL] at hv
    exact ⟨hv, k σ A R Stp.refl rfl fun _ _ => rfl⟩
  | cons d ds => cases e⟩
theorem igs_cons {e : Expr} {es : List Expr} {is js : List Nat} {g : G} {h : Gs} (h1 : IsG Z X e is g) (h2 : IsGs Z X es js h) (hs : (assignEach (e :: es) X.env).map (·.2) = assign e X.env :: (assignEach es X.env).map (·.2) := by rfl) : IsGs Z X (e :: es) (is ++ js) (gcons g h) :=
  ⟨PGs.imp (pgs_cons h1.pg h2.pg hs) fun v σ H Q ⟨ad, env, T, F, A, ds, env', R, hv, e, k⟩ => by
    cases ds with
    | nil => cases e
    | cons d ds =>
      simp only [gcons] at e
      simp only [HoldsL] at hv
      obtain ⟨v0, r, rfl, hv0, hr⟩ := hv
      cases q : g d env with
      | none => rw [q] at e; cases e
      | some e1 =>
        rw [q] at e
        refine ⟨v0, r, rfl, ad, env, T, F, A, d, e1, R, hv0, q, fun σ' A' R' S' l1 o1 => ?_⟩
        refine ⟨ad, e1, T, F, A', ds, env', R', hr, e, fun σ2 A2 R2 S2 l2 o2 => k σ2 A2 R2 (S'.trans S2) (l2.trans l1) fun j hj => ?_⟩
        exact (o2 j fun z => hj (List.mem_append_right _ z)).trans (o1 j fun z => hj (List.mem_append_left _ z))⟩
theorem ig_tup {es : List Expr} {k n : Nat} {is : List Nat} {g : Gs} (hc : X.calm = true) (h : IsGs Z X es is g) (hn : (assignEach es X.env).length = n := by rfl) (hst : (assignEach es X.env).findIdx? (·.1) = none := by rfl) : IsG Z X (.Tuple es k pos) is (gtup n g) :=
  ⟨PG.imp (pg_tup hc h.pg hn hst) fun v σ H Q ⟨ad, env, T, F, A, d, env', R, hv, e, kk⟩ => by
    cases d with
    | tup ds =>
      simp only [gtup] at e
      simp only [Holds] at hv
      obtain ⟨a, vs, rfl, fa, hl⟩ := hv
      by_cases q : ds.length = n
      · rw [if_pos q] at e
        exact ⟨a, vs, rfl, (fa.mono R.same).sq, by rw [hl.length, q], ad, env, T, F, A, ds, env', R, hl, e, kk⟩
      · rw [if_neg q] at e; cases e
    | _ => cases e⟩
/-- target = value -/
def sasg {Z : TSys} (g : G) (m : M Z) : SM Z := fun e t => match m e t with
  | some (d, e1, t1) => match g d e1 with
    | some e2 => some (.nx, e2, t1)
    | none => none
  | none => none
theorem is_asg {tg e : Expr} {is : List Nat} {g : G} {m : M Z} (he : IsE Z X e m) (hg : IsG Z X tg is g) (hs : swapsWithSole [tg] e pos.line X.env = pure false := by rfl) (hw : swappedStores [tg] e X.env = pure none := by rfl)
    (h1 : (assignEach [tg] X.env).map (·.2) = [assign tg X.env] := by rfl) : IsS Z X (.Assign [tg] e pos) (sasg g m) := ⟨PS.imp (ps_asg he.pe hg.pg hs hw h1) fun D σ H ⟨ad, env, T, F, A, fl, env', T', R, e, k⟩ => by
  unfold sasg at e
  cases q : m env T with
  | none => rw [q] at e; cases e
  | some z =>
    obtain ⟨d, e1, t1⟩ := z
    rw [q] at e
    simp only at e
    cases q2 : g d e1 with
    | none => rw [q2] at e; cases e
    | some e2 =>
      rw [q2] at e
      simp only [Option.some.injEq, Prod.mk.injEq] at e
      obtain ⟨rfl, rfl, rfl⟩ := e
      refine ⟨ad, env, T, F, A, d, e1, t1, R, q, fun v H' F' A' R' S' hv => ?_⟩
      exact ⟨ad, e1, t1, F', A', d, e2, R', hv, q2, fun σ2 A2 R2 S2 _ _ => k σ2 H' F' A2 R2 (S'.trans S2)⟩⟩
end

/-! ### what is walked -/
structure Walks (rt : V) (F : Hp) (ds : List D) (J : It) : Prop where
  go : ∀ i H d, Same F H → ds[i]? = some d → J.go i H
  yld : ∀ i H d x H' F2, Same F H → Same F2 H → Same F F2 → ds[i]? = some d → J.yld i H x H' → ∃ F3, New F2 H F3 H' ∧ Holds rt F3 d x
  stop : ∀ i H, Same F H → ds.length ≤ i → J.stop i H
def denI (Z : TSys) (m : ML Z) : TI := fun σ H R => ∃ (ad : Z.Ad) (env : List Sl) (T : Z.T) (F : Hp) (A : List Addr) (ds : List D) (env' : List Sl) (T' : Z.T),
  Rel Z ad env T F σ H A ∧ m env T = some (ds, env', T') ∧ ∀ J H' F' A', Rel Z ad env' T' F' σ H' A' → Stp Z ad A F H A' F' H' → Walks (Z.root ad) F' ds J → R J H'
structure IsI (Z : TSys) (X : Cx) (tg e : Expr) (m : ML Z) : Prop where
  pi : PI X tg e (denI Z m)
theorem PI.imp {X : Cx} {tg e : Expr} {t u : TI} (h : PI X tg e t) (f : ∀ σ H R, u σ H R → t σ H R) : PI X tg e u := ⟨fun pins s σ H R I q => h.run pins s σ H R I (f _ _ _ q)⟩
def signsD (x : Str) : List D := x.cps.toList.map fun c => .str ⟨#[c]⟩
/-- a list, a tuple, a text -/
def iseq {Z : TSys} (m : M Z) : ML Z := fun e t => match m e t with
  | some (.lst ds, e1, t1) => some (ds, e1, t1)
  | some (.tup ds, e1, t1) => some (ds, e1, t1)
  | some (.str x, e1, t1) => some (signsD x, e1, t1)
  | _ => none
def rangeD (lo : Int) (n : Nat) : List D := (List.range n).map fun (k : Nat) => D.int (lo + (k : Int))
def irange1 {Z : TSys} (l : ML Z) : ML Z := fun e t => match l e t with
  | some ([.int j], e1, t1) => if j < 2 ^ 62 ∧ -(2 ^ 62) ≤ j then some (rangeD 0 j.toNat, e1, t1) else none
  | _ => none
def irange2 {Z : TSys} (l : ML Z) : ML Z := fun e t => match l e t with
  | some ([.int i, .int j], e1, t1) => if (i < 2 ^ 62 ∧ -(2 ^ 62) ≤ i) ∧ (j < 2 ^ 62 ∧ -(2 ^ 62) ≤ j) then some (rangeD i (j - i).toNat, e1, t1) else none
  | _ => none
section
variable {X : Cx} {tg : Expr}
def iSeq (K : PySem.W.Frag) (tl : TE) : TI := fun σ H R => tl σ H fun x H1 => (∃ a, x = .ref a ∧ (∃ xs, SqL K H1 a xs) ∧ R (Itl K a) H1) ∨ (∃ a, x = .ref a ∧ (∃ xs, SqT K H1 a xs) ∧ R (Itt K a) H1) ∨ ∃ z, x = .str z ∧ R (Its z) H1
theorem pi_seq {l : Expr} {tl : TE} (hl : PE X l tl) : PI X tg l (iSeq X.K tl) := by
  refine ⟨fun pins s σ H R I h => ?_⟩
  refine thn (hl.run pins s σ H _ I h) fun v s1 ⟨x, H1, I1, r1, q1⟩ => ?_
  rcases q1 with ⟨a, e, ⟨xs, hq⟩, q⟩ | ⟨a, e, ⟨xs, hq⟩, q⟩ | ⟨z, e, q⟩
  · subst e
    cases r1
    obtain ⟨its, rv, p, hz⟩ := I1.list hq
    refine wpAny_pyIter_list p.isList ?_
    refine ⟨s1.heap.objs.size, [s1.heap.objs.size], _, _, H1, rfl, I1.kept (t' := s1.toks) fun b o e => Heap.get?_push_of_some _ e, turn_list a _, ⟨_, Heap.get?_push_size _ rfl, rfl, rfl⟩, fun b hb => ?_, q⟩
    have e : b = s1.heap.objs.size := by simpa using hb
    subst e
    exact I1.fpOk (Nat.le_refl _) (I1.hok.fresh (Nat.le_refl _))
  · subst e
    cases r1
    obtain ⟨its, rv, p, hz⟩ := I1.tuple hq
    refine wpAny_pyIter_tuple (show s1.heap.IsTuple a its.toArray from p) ?_
    refine ⟨s1.heap.objs.size, [s1.heap.objs.size], _, _, H1, rfl, I1.kept (t' := s1.toks) fun b o e => Heap.get?_push_of_some _ e, turn_tuple a _, ⟨_, Heap.get?_push_size _ rfl, rfl, rfl⟩, fun b hb => ?_, q⟩
    have e : b = s1.heap.objs.size := by simpa using hb
    subst e
    exact I1.fpOk (Nat.le_refl _) (I1.hok.fresh (Nat.le_refl _))
  · subst e
    obtain ⟨t, rfl⟩ := r1
    cases ha : z.cps.all (· < 128)
    · exact wpAny_pyIter_wide ha (pi_one (tk := s1.toks) I1 _ (turn_str _ z t "str_iterator" (.inr rfl)) ⟨_, Heap.get?_push_size _ rfl, rfl, rfl⟩ q)
    · exact wpAny_pyIter_ascii ha (pi_one (tk := s1.toks) I1 _ (turn_str _ z t "str_ascii_iterator" (.inl rfl)) ⟨_, Heap.get?_push_size _ rfl, rfl, rfl⟩ q)
end
section
variable {rt : V} {F : Hp}
theorem walks_list {K : PySem.W.Frag} {a : Addr} {ds : List D} {vs : List V} (f : F a = some (.lst vs)) (h : HoldsL rt F ds vs) : Walks rt F ds (Itl K a) := by
  refine ⟨fun i H d s e => ?_, fun i H d x H' F2 s s2 s3 e y => ?_, fun i H s hl => ⟨vs, SqL.of (s _ _ f), by rw [h.length]; exact hl⟩⟩
  · obtain ⟨v, ev, _⟩ := h.get e
    exact ⟨vs, v, SqL.of (s _ _ f), ev⟩
  · obtain ⟨rfl, y⟩ := y
    obtain ⟨v, ev, hv⟩ := h.get e
    have := y vs (SqL.of (s _ _ f))
    rw [ev] at this; cases this
    exact ⟨F2, New.refl s2, hv.mono s3⟩
theorem walks_tup {K : PySem.W.Frag} {a : Addr} {ds : List D} {vs : List V} (f : TupF F a vs) (h : HoldsL rt F ds vs) : Walks rt F ds (Itt K a) := by
  refine ⟨fun i H d s e => ?_, fun i H d x H' F2 s s2 s3 e y => ?_, fun i H s hl => ⟨vs, (f.mono s).sq, by rw [h.length]; exact hl⟩⟩
  · obtain ⟨v, ev, _⟩ := h.get e
    exact ⟨vs, v, (f.mono s).sq, ev⟩
  · obtain ⟨rfl, y⟩ := y
    obtain ⟨v, ev, hv⟩ := h.get e
    have := y vs ((f.mono s).sq)
    rw [ev] at this; cases this
    exact ⟨F2, New.refl s2, hv.mono s3⟩
theorem signsD_length (z : Str) : (signsD z).length = z.cps.size := by simp [signsD]
theorem walks_str {z : Str} : Walks rt F (signsD z) (Its z) := by
  refine ⟨fun i H d s e => ?_, fun i H d x H' F2 s s2 s3 e y => ?_, fun i H s hl => by rw [signsD_length] at hl; exact hl⟩
  · have := (List.getElem?_eq_some_iff.mp e).1
    rw [signsD_length] at this
    exact this
  · obtain ⟨rfl, c, hc, rfl⟩ := y
    refine ⟨F2, New.refl s2, ?_⟩
    have e2 : (signsD z)[i]? = some (.str ⟨#[c]⟩) := by
      unfold signsD
      rw [List.getElem?_map, Array.getElem?_toList, hc]; rfl
    rw [e2] at e; cases e
    simp only [Holds]
theorem rangeD_length (lo : Int) (n : Nat) : (rangeD lo n).length = n := by simp [rangeD]
theorem rangeD_get {lo : Int} {n i : Nat} {d : D} (h : (rangeD lo n)[i]? = some d) : i < n ∧ d = .int (lo + (i : Int)) := by
  have hi := (List.getElem?_eq_some_iff.mp h).1
  rw [rangeD_length] at hi
  unfold rangeD at h
  rw [List.getElem?_map, List.getElem?_range hi] at h
  simp at h
  exact ⟨hi, h.symm⟩
theorem walks_range {lo : Int} {n : Nat} : Walks rt F (rangeD lo n) (Itr lo n) := by
  refine ⟨fun i H d s e => (rangeD_get e).1, fun i H d x H' F2 s s2 s3 e y => ?_, fun i H s hl => by rw [rangeD_length] at hl; exact hl⟩
  obtain ⟨rfl, rfl⟩ := y
  obtain ⟨_, rfl⟩ := rangeD_get e
  exact ⟨F2, New.refl s2, by simp only [Holds]⟩
end
section
variable {Z : TSys} {X : Cx} {tg e a b : Expr} {p pos : Pos}
theorem ii_seq {m : M Z} (h : IsE Z X e m) : IsI Z X tg e (iseq m) := ⟨PI.imp (pi_seq h.pe) fun σ H Rr ⟨ad, env, T, F, A, ds, env', T', R, e, k⟩ => by
  unfold iseq at e
  split at e
  · rename_i ds' e1 t1 q
    simp only [Option.some.injEq, Prod.mk.injEq] at e
    obtain ⟨rfl, rfl, rfl⟩ := e
    refine ⟨ad, env, T, F, A, _, e1, t1, R, q, fun v H' F' A' R' S' hv => .inl ?_⟩
    simp only [Holds] at hv
    obtain ⟨a, vs, rfl, f, hl⟩ := hv
    exact ⟨a, rfl, ⟨vs, SqL.of (R'.same _ _ f)⟩, k _ H' F' A' R' S' (walks_list f hl)⟩
  · rename_i ds' e1 t1 q
    simp only [Option.some.injEq, Prod.mk.injEq] at e
    obtain ⟨rfl, rfl, rfl⟩ := e
    refine ⟨ad, env, T, F, A, _, e1, t1, R, q, fun v H' F' A' R' S' hv => .inr (.inl ?_)⟩
    simp only [Holds] at hv
    obtain ⟨a, vs, rfl, f, hl⟩ := hv
    exact ⟨a, rfl, ⟨vs, (f.mono R'.same).sq⟩, k _ H' F' A' R' S' (walks_tup f hl)⟩
  · rename_i x e1 t1 q
    simp only [Option.some.injEq, Prod.mk.injEq] at e
    obtain ⟨rfl, rfl, rfl⟩ := e
    refine ⟨ad, env, T, F, A, _, e1, t1, R, q, fun v H' F' A' R' S' hv => .inr (.inr ?_)⟩
    simp only [Holds] at hv
    exact ⟨x, hv, k _ H' F' A' R' S' walks_str⟩
  · cases e⟩
theorem ii_range1 {l : ML Z} (hg : Gl X "range") (hm : X.mg "range" = none) (ha : IsL Z X [a] l) (hs : starEach [a] X.env = [(false, eval a X.env)] := by rfl) : IsI Z X tg (.Call (.Name "range" p) [a] [] pos) (irange1 l) := ⟨PI.imp (pi_range1 hg hm ha.pa hs) fun σ H Rr ⟨ad, env, T, F, A, ds, env', T', R, e, k⟩ => by
  unfold irange1 at e
  split at e
  · rename_i j e1 t1 q
    by_cases hj : j < 2 ^ 62 ∧ -(2 ^ 62) ≤ j
    · rw [if_pos hj] at e
      simp only [Option.some.injEq, Prod.mk.injEq] at e
      obtain ⟨rfl, rfl, rfl⟩ := e
      refine ⟨ad, env, T, F, A, _, e1, t1, R, q, fun vs H' F' A' R' S' hv => ?_⟩
      simp only [HoldsL, Holds] at hv
      obtain ⟨v, r, rfl, rfl, rfl⟩ := hv
      exact ⟨j, rfl, hj.2, hj.1, k _ H' F' A' R' S' walks_range⟩
    · rw [if_neg hj] at e; cases e
  · cases e⟩
theorem ii_range2 {l : ML Z} (hg : Gl X "range") (hm : X.mg "range" = none) (ha : IsL Z X [a, b] l) (hs : starEach [a, b] X.env = [(false, eval a X.env), (false, eval b X.env)] := by rfl) (hs2 : starEach [b] X.env = [(false, eval b X.env)] := by rfl) :
    IsI Z X tg (.Call (.Name "range" p) [a, b] [] pos) (irange2 l) := ⟨PI.imp (pi_range2 hg hm ha.pa hs hs2) fun σ H Rr ⟨ad, env, T, F, A, ds, env', T', R, e, k⟩ => by
  unfold irange2 at e
  split at e
  · rename_i i j e1 t1 q
    by_cases hj : (i < 2 ^ 62 ∧ -(2 ^ 62) ≤ i) ∧ (j < 2 ^ 62 ∧ -(2 ^ 62) ≤ j)
    · rw [if_pos hj] at e
      simp only [Option.some.injEq, Prod.mk.injEq] at e
      obtain ⟨rfl, rfl, rfl⟩ := e
      refine ⟨ad, env, T, F, A, _, e1, t1, R, q, fun vs H' F' A' R' S' hv => ?_⟩
      simp only [HoldsL, Holds] at hv
      obtain ⟨v, r, rfl, rfl, v2, r2, rfl, rfl, rfl⟩ := hv
      exact ⟨i, j, rfl, ⟨hj.1.2, hj.1.1, hj.2.2, hj.2.1⟩, k _ H' F' A' R' S' walks_range⟩
    · rw [if_neg hj] at e; cases e
  · cases e⟩
end

/-! ### for -/
def forL {Z : TSys} (g : G) (b : SM Z) : List D → SM Z
  | [], e, t => some (.nx, e, t)
  | d :: ds, e, t => match g d e with
    | some e1 => match b e1 t with
      | some (.nx, e2, t2) => forL g b ds e2 t2
      | some (.ct, e2, t2) => forL g b ds e2 t2
      | some (.bk, e2, t2) => some (.nx, e2, t2)
      | some (.rt r, e2, t2) => some (.rt r, e2, t2)
      | none => none
    | none => none
def sfor {Z : TSys} (src : ML Z) (g : G) (b : SM Z) : SM Z := fun e t => match src e t with
  | some (ds, e1, t1) => forL g b ds e1 t1
  | none => none
theorem is_for {Z : TSys} {X : Cx} {tg iter : Expr} {body : List Stmt} {src : ML Z} {is : List Nat} {g : G} {b : SM Z} {pos : Pos} (hp : PassesOwn (model X.prog X.w) X.A X.env X.xe) (hc : X.calm = true) (hi : IsI Z X tg iter src) (hg : IsG Z X tg is g) (hb : IsB Z X body b)
    (hs : ∀ x, foldedSetIterable iter X.env x = pure x := by intro _; rfl) : IsS Z X (.For tg iter body [] pos) (sfor src g b) := ⟨PS.imp (ps_for hp hc hi.pi hg.pg hb.ps hs) fun D σ H ⟨ad, env, T, F, A, fl, env', T', R, e, k⟩ => by
  unfold sfor at e
  cases q : src env T with
  | none => rw [q] at e; cases e
  | some z =>
    obtain ⟨ds, e1, t1⟩ := z
    rw [q] at e
    refine ⟨ad, env, T, F, A, ds, e1, t1, R, q, fun J H1 F1 A1 R1 S1 wk => ?_⟩
    refine ⟨fun i m σ' H' => m = ds.length - i ∧ ∃ env2 T2 F2 A2, Rel Z ad env2 T2 F2 σ' H' A2 ∧ Stp Z ad A1 F1 H1 A2 F2 H' ∧ forL g b (ds.drop i) env2 T2 = some (fl, env', T'), ⟨ds.length, by simp, e1, t1, F1, A1, R1, Stp.refl, e⟩, ?_⟩
    rintro i m σ2 H2 ⟨rfl, env2, T2, F2, A2, R2, S2, e2⟩
    have sF : Same F1 H2 := S2.sF.trans R2.same
    by_cases hlt : i < ds.length
    · refine .inr ⟨wk.go i H2 ds[i] sF (List.getElem?_eq_getElem hlt), fun σ' H' => ds.length - (i + 1) = ds.length - (i + 1) ∧ ∃ env2 T2 F2 A2, Rel Z ad env2 T2 F2 σ' H' A2 ∧ Stp Z ad A1 F1 H1 A2 F2 H' ∧ forL g b (ds.drop (i + 1)) env2 T2 = some (fl, env', T'), fun σ' H' h => ⟨_, by omega, h⟩, fun x H3 y => ?_⟩
      obtain ⟨F3, n3, hx⟩ := wk.yld i H2 ds[i] x H3 F2 sF R2.same S2.sF (List.getElem?_eq_getElem hlt) y
      obtain ⟨R3, S3⟩ := R2.new n3
      rw [List.drop_eq_getElem_cons hlt] at e2
      simp only [forL] at e2
      cases q3 : g ds[i] env2 with
      | none => rw [q3] at e2; cases e2
      | some e3 =>
        rw [q3] at e2
        simp only at e2
        refine ⟨ad, env2, T2, F3, A2, ds[i], e3, R3, hx, q3, fun σ4 A4 R4 S4 _ _ => ?_⟩
        cases q4 : b e3 T2 with
        | none => rw [q4] at e2; cases e2
        | some z4 =>
          obtain ⟨f4, e4, t4⟩ := z4
          rw [q4] at e2
          refine ⟨ad, e3, T2, F3, A4, f4, e4, t4, R4, q4, fun σ5 H5 F5 A5 R5 S5 => ?_⟩
          have S' := ((S2.trans S3).trans S4).trans S5
          cases f4 with
          | nx => exact ⟨rfl, e4, t4, F5, A5, R5, S', e2⟩
          | ct => exact ⟨rfl, e4, t4, F5, A5, R5, S', e2⟩
          | bk =>
            simp only [Option.some.injEq, Prod.mk.injEq] at e2
            obtain ⟨rfl, rfl, rfl⟩ := e2
            exact k σ5 H5 F5 A5 R5 (S1.trans S')
          | rt r =>
            simp only [Option.some.injEq, Prod.mk.injEq] at e2
            obtain ⟨rfl, rfl, rfl⟩ := e2
            exact k σ5 H5 F5 A5 R5 (S1.trans S')
    · refine .inl ⟨wk.stop i H2 sF (by omega), ?_⟩
      rw [List.drop_eq_nil_of_le (by omega)] at e2
      simp only [forL, Option.some.injEq, Prod.mk.injEq] at e2
      obtain ⟨rfl, rfl, rfl⟩ := e2
      exact k σ2 H2 F2 A2 R2 (S1.trans S2)⟩

/-! ### while -/
def whileL {Z : TSys} (c : MB Z) (b : SM Z) : Nat → SM Z
  | 0, _, _ => none
  | n + 1, e, t => match c e t with
    | some (true, e1, t1) => match b e1 t1 with
      | some (.nx, e2, t2) => whileL c b n e2 t2
      | some (.ct, e2, t2) => whileL c b n e2 t2
      | some (.bk, e2, t2) => some (.nx, e2, t2)
      | some (.rt r, e2, t2) => some (.rt r, e2, t2)
      | none => none
    | some (false, e1, t1) => some (.nx, e1, t1)
    | none => none
theorem is_while {Z : TSys} {X : Cx} {c : Expr} {body : List Stmt} {mc : MB Z} {b : SM Z} {pos : Pos} (n : Nat) (hp : PassesOwn (model X.prog X.w) X.A X.env X.xe) (hc : IsT Z X c mc) (hb : IsB Z X body b) : IsS Z X (.While c body [] pos) (whileL mc b n) :=
  ⟨PS.imp (ps_while hp hc.pt hb.ps) fun D σ H ⟨ad, env, T, F, A, fl, env', T', R, e, k⟩ => by
  refine ⟨fun m σ' H' => ∃ env2 T2 F2 A2, Rel Z ad env2 T2 F2 σ' H' A2 ∧ Stp Z ad A F H A2 F2 H' ∧ whileL mc b m env2 T2 = some (fl, env', T'), ⟨n, env, T, F, A, R, Stp.refl, e⟩, ?_⟩
  rintro m σ2 H2 ⟨env2, T2, F2, A2, R2, S2, e2⟩
  cases m with
  | zero => cases e2
  | succ m =>
    simp only [whileL] at e2
    cases q : mc env2 T2 with
    | none => rw [q] at e2; cases e2
    | some z =>
      obtain ⟨kb, e3, t3⟩ := z
      rw [q] at e2
      refine ⟨ad, env2, T2, F2, A2, kb, e3, t3, R2, q, fun H3 F3 A3 R3 S3 => ?_⟩
      cases kb with
      | false =>
        simp only [Option.some.injEq, Prod.mk.injEq] at e2
        obtain ⟨rfl, rfl, rfl⟩ := e2
        exact k σ2 H3 F3 A3 R3 (S2.trans S3)
      | true =>
        simp only at e2
        refine ⟨fun σ' H' => ∃ env2 T2 F2 A2, Rel Z ad env2 T2 F2 σ' H' A2 ∧ Stp Z ad A F H A2 F2 H' ∧ whileL mc b m env2 T2 = some (fl, env', T'), fun σ' H' h => ⟨m, Nat.lt_succ_self m, h⟩, ?_⟩
        cases q4 : b e3 t3 with
        | none => rw [q4] at e2; cases e2
        | some z4 =>
          obtain ⟨f4, e4, t4⟩ := z4
          rw [q4] at e2
          refine ⟨ad, e3, t3, F3, A3, f4, e4, t4, R3, q4, fun σ5 H5 F5 A5 R5 S5 => ?_⟩
          have S' := (S2.trans S3).trans S5
          cases f4 with
          | nx => exact ⟨e4, t4, F5, A5, R5, S', e2⟩
          | ct => exact ⟨e4, t4, F5, A5, R5, S', e2⟩
          | bk =>
            simp only [Option.some.injEq, Prod.mk.injEq] at e2
            obtain ⟨rfl, rfl, rfl⟩ := e2
            exact k σ5 H5 F5 A5 R5 S'
          | rt r =>
            simp only [Option.some.injEq, Prod.mk.injEq] at e2
            obtain ⟨rfl, rfl, rfl⟩ := e2
            exact k σ5 H5 F5 A5 R5 S'⟩

/-! ### a def's promise from its body -/
def runFn {Z : TSys} (N n : Nat) (m : SM Z) : FnM Z := fun ds T => match m (ds.map .sh ++ List.replicate (N - n) .no) T with
  | some (.rt d, _, T') => some (d, T')
  | some (.nx, _, T') => some (.non, T')
  | _ => none
section
variable {Z : TSys} {P : Program} {w : World} {K : PySem.W.Frag} {mg : Str → Option Value} {base : Heap}
theorem env_start {rt : V} {F H : Hp} (k : Nat) : ∀ {ds : List D} {vs : List V}, HoldsL rt F ds vs → EnvR rt F H (ds.map .sh ++ List.replicate k .no) (vs.map some ++ List.replicate k none) []
  | [], _, h => by
    simp only [HoldsL] at h
    subst h
    simp only [List.map_nil, List.nil_append]
    induction k with
    | zero => exact ⟨rfl, rfl⟩
    | succ k ih => exact ⟨none, _, [], [], rfl, rfl, rfl, ih⟩
  | d :: ds, _, h => by
    simp only [HoldsL] at h
    obtain ⟨v, r, rfl, h1, h2⟩ := h
    exact ⟨some v, _, [], [], rfl, rfl, ⟨rfl, v, rfl, h1⟩, env_start k h2⟩
theorem fn_ok {x qual : Str} {st : Stmt} {f : Addr} {fd : FuncData} {N ps : List Str} {k : Nat} {m : SM Z} (Fu : Fun K x qual st f fd) (S : FnScope N ps (defScope st))
    (h : ∀ (cdv : Value) (A : Around) (outer : List Env) (s : Shared) (H : Hp) (E : XK), Room k (A.deeper (PyProof.Rows.envOfC qual (defScope st) s.heap.objs.size f cdv)) →
      IsB Z (cxOf CX0 P w K mg base N qual (defScope st) f cdv A outer s H E).nox (defBody st) m) : FnOk P w K mg base CX0 (k + 1) f fd ps (spD Z ps.length (runFn N.length ps.length m)) := by
  refine Fu.ok S (fun vs H Q E h => h.1) fun cdv A outer s H vs Q E hr hsp => ?_
  obtain ⟨hl, ad, ds, T, F, r, T', hv, R, e, kk⟩ := hsp
  refine ⟨_, (h cdv A outer s H E hr).ps, ?_⟩
  have hlen : ds.length = ps.length := by rw [← hv.length, hl]
  have hst : L2.start N vs = vs.map some ++ List.replicate (N.length - ps.length) none := by unfold L2.start; rw [hl]
  unfold runFn at e
  have R0 : Rel Z ad (ds.map .sh ++ List.replicate (N.length - ps.length) .no) T F (L2.start N vs) H [] := ⟨R.same, by rw [hst]; exact env_start _ hv, List.nodup_nil, R.tp, R.tf⟩
  split at e
  · rename_i d e1 t1 q
    simp only [Option.some.injEq, Prod.mk.injEq] at e
    obtain ⟨rfl, rfl⟩ := e
    refine ⟨ad, _, T, F, [], .rt d, e1, t1, R0, q, fun σ' H' F' A' R' S' v hv => ?_⟩
    exact kk v H' F' R'.bare ⟨S'.sF, S'.nF, fun a ha => by simp at ha, S'.fr, S'.ex⟩ hv
  · rename_i e1 t1 q
    simp only [Option.some.injEq, Prod.mk.injEq] at e
    obtain ⟨rfl, rfl⟩ := e
    refine ⟨ad, _, T, F, [], .nx, e1, t1, R0, q, fun σ' H' F' A' R' S' => ?_⟩
    exact kk .non H' F' R'.bare ⟨S'.sF, S'.nF, fun a ha => by simp at ha, S'.fr, S'.ex⟩ (by simp only [Holds])
  · cases e
end
end DL

/-! The data layer, 6: comprehensions. -/
namespace DL
open PySem L2

/-! ### the block's own slots: wiped, and back -/
def wipeE (env : List Sl) : List Nat → List Sl
  | [] => env
  | v :: vs => (wipeE env vs).set v .no
def restE (env : List Sl) : List Nat → List Sl → List Sl
  | [], e => e
  | v :: vs, e => restE env vs (e.set v (env.getD v .no))
def restS (σ : L2.St) : List Nat → L2.St → L2.St
  | [], e => e
  | v :: vs, e => restS σ vs (e.set v (σ.getD v none))
/-- none of these slots owns anything -/
def ownOk (env : List Sl) (vs : List Nat) : Bool := vs.all fun v => match env[v]? with
  | some (.ow _ _) => false
  | _ => true
theorem wipe_in {σ : L2.St} {i : Nat} : ∀ {vs : List Nat}, i ∈ vs → (wipe σ vs)[i]? = (if i < σ.length then some none else none)
  | v :: vs, h => by
    unfold wipe
    by_cases e : v = i
    · subst e
      rw [List.getElem?_set, wipe_length]
      simp
    · rw [List.getElem?_set_ne e]
      exact wipe_in (by rcases List.mem_cons.mp h with z | z; exact absurd z.symm e; exact z)
theorem wipe_off {σ : L2.St} {i : Nat} : ∀ {vs : List Nat}, i ∉ vs → (wipe σ vs)[i]? = σ[i]?
  | [], _ => rfl
  | v :: vs, h => by
    unfold wipe
    rw [List.getElem?_set_ne (fun e => h (by simp [e]))]
    exact wipe_off fun z => h (List.mem_cons_of_mem _ z)
/-- slots that agree but at these -/
theorem wipe_agree {σ τ : L2.St} {vs : List Nat} (hl : σ.length = τ.length) (h : ∀ j, j ∉ vs → σ[j]? = τ[j]?) : wipe σ vs = wipe τ vs := by
  apply List.ext_getElem?
  intro i
  by_cases hi : i ∈ vs
  · rw [wipe_in hi, wipe_in hi, hl]
  · rw [wipe_off hi, wipe_off hi, h i hi]
theorem wipe_wipe {σ : L2.St} {vs : List Nat} : wipe (wipe σ vs) vs = wipe σ vs :=
  wipe_agree (wipe_length σ vs) fun j hj => wipe_off hj
theorem restS_length (σ : L2.St) : ∀ (vs : List Nat) (e : L2.St), (restS σ vs e).length = e.length
  | [], _ => rfl
  | v :: vs, e => by unfold restS; rw [restS_length σ vs, List.length_set]
theorem restS_off {σ : L2.St} {i : Nat} : ∀ {vs : List Nat} {e : L2.St}, i ∉ vs → (restS σ vs e)[i]? = e[i]?
  | [], _, _ => rfl
  | v :: vs, e, h => by
    unfold restS
    rw [restS_off fun z => h (List.mem_cons_of_mem _ z), List.getElem?_set_ne fun z => h (by simp [z])]
theorem restS_in {σ : L2.St} {i : Nat} : ∀ {vs : List Nat} {e : L2.St}, i ∈ vs → i < e.length → (restS σ vs e)[i]? = some (σ.getD i none)
  | v :: vs, e, h, hl => by
    unfold restS
    by_cases m : i ∈ vs
    · exact restS_in m (by rw [List.length_set]; exact hl)
    · rw [restS_off m]
      have ev : v = i := by rcases List.mem_cons.mp h with z | z; exact z.symm; exact absurd z m
      subst ev
      rw [List.getElem?_set_self hl]
theorem restS_wipe {σ : L2.St} {vs : List Nat} : restS σ vs (wipe σ vs) = σ := by
  apply List.ext_getElem?
  intro i
  by_cases hi : i ∈ vs
  · by_cases hl : i < σ.length
    · rw [restS_in hi (by rw [wipe_length]; exact hl)]
      rw [List.getD_eq_getElem?_getD, List.getElem?_eq_getElem hl]
      rfl
    · rw [List.getElem?_eq_none (by rw [restS_length, wipe_length]; omega), List.getElem?_eq_none (by omega)]
  · rw [restS_off hi, wipe_off hi]
section
variable {Z : TSys} {ad : Z.Ad} {env : List Sl} {T : Z.T} {F H : Hp} {σ : L2.St} {A : List Addr}
theorem Rel.wipe (R : Rel Z ad env T F σ H A) : ∀ vs : List Nat, ∃ A', Rel Z ad (wipeE env vs) T F (L2.wipe σ vs) H A' ∧ Stp Z ad A F H A' F H
  | [] => ⟨A, R, Stp.refl⟩
  | v :: vs => by
    obtain ⟨A1, R1, S1⟩ := R.wipe vs
    obtain ⟨A2, R2, S2⟩ := R1.setNo v none
    exact ⟨A2, R2, S1.trans S2⟩
/-- back to the outer slots, which own nothing at these places -/
theorem Rel.rest (R : Rel Z ad env T F σ H A) {vs : List Nat} (ok : ownOk env vs = true) {env2 : List Sl} {T2 : Z.T} {F2 H2 : Hp} {A2 : List Addr} (sF : Same F F2) :
    ∀ (us : List Nat) {e : List Sl} {τ : L2.St} {A3 : List Addr}, (∀ v ∈ us, v ∈ vs) → Rel Z ad e T2 F2 τ H2 A3 → ∃ A4, Rel Z ad (restE env us e) T2 F2 (restS σ us τ) H2 A4 ∧ Stp Z ad A3 F2 H2 A4 F2 H2
  | [], e, τ, A3, _, R3 => ⟨A3, R3, Stp.refl⟩
  | v :: us, e, τ, A3, hu, R3 => by
    have step : ∃ A', Rel Z ad (e.set v (env.getD v .no)) T2 F2 (τ.set v (σ.getD v none)) H2 A' ∧ Stp Z ad A3 F2 H2 A' F2 H2 := by
      have okv := List.all_eq_true.mp ok v (hu v List.mem_cons_self)
      cases q : env[v]? with
      | none =>
        rw [List.getD_eq_getElem?_getD, q]
        exact R3.setNo v _
      | some x =>
        rw [List.getD_eq_getElem?_getD, q]
        cases x with
        | no => exact R3.setNo v _
        | ow n d => rw [q] at okv; cases okv
        | sh d =>
          obtain ⟨o, A0, A1, Ab, e1, _, ⟨_, w, ew, hw⟩, _⟩ := R.env.split q
          subst ew
          rw [List.getD_eq_getElem?_getD, e1]
          exact R3.setSh v (hw.mono sF)
    obtain ⟨A4, R4, S4⟩ := step
    obtain ⟨A5, R5, S5⟩ := R.rest ok sF us (fun v hv => hu v (List.mem_cons_of_mem _ hv)) R4 (env2 := env2) (A2 := A2)
    exact ⟨A5, R5, S4.trans S5⟩
end

/-! ### one clause -/
def lcL {Z : TSys} (own : List Nat) (g : G) (tt : MB Z) (el : M Z) : List D → List D → List Sl → Z.T → Option (List D × List Sl × Z.T)
  | [], acc, e, t => some (acc, e, t)
  | d :: ds, acc, e, t => match g d (wipeE e own) with
    | some e1 => match tt e1 t with
      | some (true, e2, t2) => match el e2 t2 with
        | some (y, e3, t3) => lcL own g tt el ds (acc ++ [y]) (wipeE e3 own) t3
        | none => none
      | some (false, e2, t2) => lcL own g tt el ds acc (wipeE e2 own) t2
      | none => none
    | none => none
def byes {Z : TSys} : MB Z := fun e t => some (true, e, t)
def mlc {Z : TSys} (own : List Nat) (src : ML Z) (g : G) (tt : MB Z) (el : M Z) : M Z := fun e t => match src e t with
  | some (ds, e1, t1) => if ownOk e1 own && decide (ds.length ≤ sizeLine) then match lcL own g tt el ds [] (wipeE e1 own) t1 with
    | some (acc, e2, t2) => some (.lst acc, restE e1 own e2, t2)
    | none => none
    else none
  | none => none
structure IsTs (Z : TSys) (X : Cx) (ifs : List Expr) (m : MB Z) : Prop where
  pt : PTs X ifs (denB Z m)
theorem PTs.imp {X : Cx} {ifs : List Expr} {t u : TT} (h : PTs X ifs t) (f : ∀ σ H Q, u σ H Q → t σ H Q) : PTs X ifs u := ⟨fun pins s σ H Q I q => h.run pins s σ H Q I (f _ _ _ q)⟩
theorem its_nil {Z : TSys} {X : Cx} : IsTs Z X [] byes := ⟨PTs.imp pts_nil fun σ H Q ⟨ad, env, T, F, A, r, env', T', R, e, k⟩ => by
  simp only [byes, Option.some.injEq, Prod.mk.injEq] at e
  obtain ⟨rfl, rfl, rfl⟩ := e
  exact k H F A R Stp.refl⟩
theorem its_one {Z : TSys} {X : Cx} {c : Expr} {m : MB Z} (h : IsT Z X c m) : IsTs Z X [c] m := ⟨pts_one h.pt⟩
section
variable {Z : TSys}
/-- L, the new list, is not ours -/
def Out (Z : TSys) (ad : Z.Ad) (L : Addr) (A : List Addr) (F : Hp) : Prop := L ∉ A ∧ F L = none ∧ L ∉ Z.addrs ad
theorem Out.step {ad : Z.Ad} {L : Addr} {A2 A3 : List Addr} {F2 F3 H2 H3 : Hp} {us : List V} (S : Stp Z ad A2 F2 H2 A3 F3 H3) (h : Out Z ad L A2 F2) (h3 : H2 L = some (.lst us)) : Out Z ad L A3 F3 ∧ H3 L = some (.lst us) := by
  obtain ⟨h1, h2, nt⟩ := h
  refine ⟨⟨fun z => ?_, ?_, nt⟩, S.fr L _ h3 h1 nt⟩
  · rcases S.nA L z with w | w
    · exact h1 w
    · rw [h3] at w; cases w
  · cases qq : F3 L with
    | none => rfl
    | some o =>
      rcases S.nF L (by rw [qq]; exact fun z => by cases z) with w | w | w
      · exact absurd h2 w
      · exact absurd w h1
      · rw [h3] at w; cases w
/-- the new list grows -/
theorem Rel.grow {ad : Z.Ad} {env : List Sl} {T : Z.T} {F H : Hp} {σ : L2.St} {A : List Addr} (R : Rel Z ad env T F σ H A) {L : Addr} (o : Out Z ad L A F) (x : HO) : Rel Z ad env T F σ (L2.upd H L x) A := by
  obtain ⟨nm, nF, nT⟩ := o
  refine ⟨fun a o z => ?_, R.env.keep (Same.refl _) fun a ha => ⟨L2.upd_ne fun z => nm (z ▸ ha), (R.at a ha).1⟩, R.nd, Z.loc R.tp fun b hb => L2.upd_ne fun z => nT (z ▸ hb), R.tf⟩
  rw [L2.upd_ne fun w => by rw [w, nF] at z; cases z]
  exact R.same _ _ z
theorem lcL_len {own : List Nat} {g : G} {tt : MB Z} {el : M Z} : ∀ {ds acc : List D} {e : List Sl} {t : Z.T} {r : List D} {e' : List Sl} {t' : Z.T}, lcL own g tt el ds acc e t = some (r, e', t') → acc.length ≤ r.length ∧ r.length ≤ acc.length + ds.length
  | [], acc, e, t, r, e', t', h => by
    simp only [lcL, Option.some.injEq, Prod.mk.injEq] at h
    obtain ⟨rfl, rfl, rfl⟩ := h
    exact ⟨Nat.le_refl _, Nat.le_add_right _ _⟩
  | d :: ds, acc, e, t, r, e', t', h => by
    simp only [lcL] at h
    cases q : g d (wipeE e own) with
    | none => rw [q] at h; cases h
    | some e1 =>
      rw [q] at h
      simp only at h
      cases q2 : tt e1 t with
      | none => rw [q2] at h; cases h
      | some z =>
        obtain ⟨b, e2, t2⟩ := z
        rw [q2] at h
        cases b with
        | false =>
          have := lcL_len h
          simp only [List.length_cons]
          omega
        | true =>
          simp only at h
          cases q3 : el e2 t2 with
          | none => rw [q3] at h; cases h
          | some z3 =>
            obtain ⟨y, e3, t3⟩ := z3
            rw [q3] at h
            have := lcL_len h
            simp only [List.length_append, List.length_cons, List.length_nil] at this ⊢
            omega
/-- the loop of one clause, the new list at L -/
theorem lc_loop {own is : List Nat} {g : G} {tt : MB Z} {el : M Z} (sub : ∀ j ∈ is, j ∈ own) {ad : Z.Ad} {ds : List D} {J : It} {σ : L2.St} {L : Addr} {e1 : List Sl} {t1 : Z.T} {F1 H1 : Hp} {A1 : List Addr} {ac0 acc : List D} {us0 : List V} {e2 : List Sl} {t2 : Z.T} {K : Hp → Prop}
    (R1 : Rel Z ad e1 t1 F1 (L2.wipe σ own) H1 A1) (o1 : Out Z ad L A1 F1) (h1 : H1 L = some (.lst us0)) (hac0 : HoldsL (Z.root ad) F1 ac0 us0) (wk : Walks (Z.root ad) F1 ds J) (hz : acc.length ≤ sizeLine)
    (q : lcL own g tt el ds ac0 e1 t1 = some (acc, e2, t2))
    (hK : ∀ H' F' A' us, Rel Z ad e2 t2 F' (L2.wipe σ own) H' A' → (∀ a o, H1 a = some o → a ∉ A1 → a ∉ Z.addrs ad → a ≠ L → H' a = some o) → Same F1 F' → (∀ a, F' a ≠ none → F1 a ≠ none ∨ a ∈ A1 ∨ H1 a = none) → (∀ a ∈ A', a ∈ A1 ∨ H1 a = none) → (∀ a o, H1 a = some o → ∃ o', H' a = some o') → Out Z ad L A' F' → H' L = some (.lst us) → HoldsL (Z.root ad) F' acc us → K H') :
    ∃ W : Nat → Nat → Hp → Prop, (∃ m, W 0 m H1) ∧ ∀ i m H, W i m H → (J.stop i H ∧ K H) ∨ (J.go i H ∧ ∃ Nx : Hp → Prop, (∀ H', Nx H' → ∃ m', m' < m ∧ W (i + 1) m' H') ∧ ∀ x H', J.yld i H x H' → denG Z is g x (L2.wipe σ own) H' fun σ2 H2 => L2.wipe σ2 own = L2.wipe σ own ∧ denB Z tt σ2 H2 fun b H3 =>
      if b = true then den Z el σ2 H3 fun y H4 => ∃ acc, H4 L = some (.lst acc) ∧ acc.length < sizeLine ∧ Nx (upd H4 L (.lst (acc ++ [y]))) else Nx H3) := by
  let W : Nat → Nat → Hp → Prop := fun i m H' => m = ds.length - i ∧ ∃ (en : List Sl) (T2 : Z.T) (F2 : Hp) (A2 : List Addr) (ac : List D) (us : List V),
    Rel Z ad en T2 F2 (L2.wipe σ own) H' A2 ∧ ((∀ a o, H1 a = some o → a ∉ A1 → a ∉ Z.addrs ad → a ≠ L → H' a = some o) ∧ Same F1 F2 ∧ (∀ a, F2 a ≠ none → F1 a ≠ none ∨ a ∈ A1 ∨ H1 a = none) ∧ (∀ a ∈ A2, a ∈ A1 ∨ H1 a = none) ∧ (∀ a o, H1 a = some o → ∃ o', H' a = some o')) ∧ Out Z ad L A2 F2 ∧ H' L = some (.lst us) ∧ HoldsL (Z.root ad) F2 ac us ∧ lcL own g tt el (ds.drop i) ac en T2 = some (acc, e2, t2)
  have go : ∀ {A2 A3 : List Addr} {F2 F3 H2 H3 : Hp}, (∀ a o, H1 a = some o → a ∉ A1 → a ∉ Z.addrs ad → a ≠ L → H2 a = some o) ∧ Same F1 F2 ∧ (∀ a, F2 a ≠ none → F1 a ≠ none ∨ a ∈ A1 ∨ H1 a = none) ∧ (∀ a ∈ A2, a ∈ A1 ∨ H1 a = none) ∧ (∀ a o, H1 a = some o → ∃ o', H2 a = some o') → Stp Z ad A2 F2 H2 A3 F3 H3 →
      (∀ a o, H1 a = some o → a ∉ A1 → a ∉ Z.addrs ad → a ≠ L → H3 a = some o) ∧ Same F1 F3 ∧ (∀ a, F3 a ≠ none → F1 a ≠ none ∨ a ∈ A1 ∨ H1 a = none) ∧ (∀ a ∈ A3, a ∈ A1 ∨ H1 a = none) ∧ (∀ a o, H1 a = some o → ∃ o', H3 a = some o') := by
    intro A2 A3 F2 F3 H2 H3 ⟨c1, c2, c3, c4, c5⟩ S
    have back : ∀ a, H2 a = none → H1 a = none := fun a e => by
      cases q : H1 a with
      | none => rfl
      | some o => obtain ⟨o', e'⟩ := c5 a o q; rw [e] at e'; cases e'
    refine ⟨fun a o e hA hT hL => S.fr a o (c1 a o e hA hT hL) (fun z => ?_) hT, c2.trans S.sF, fun a ha => ?_, fun a ha => ?_, fun a o e => ?_⟩
    · rcases c4 a z with w | w
      · exact hA w
      · rw [e] at w; cases w
    · rcases S.nF a ha with w | w | w
      · exact c3 a w
      · exact .inr (c4 a w)
      · exact .inr (.inr (back a w))
    · rcases S.nA a ha with w | w
      · exact c4 a w
      · exact .inr (back a w)
    · obtain ⟨o', e'⟩ := c5 a o e
      exact S.ex a o' e'
  refine ⟨W, ⟨ds.length, by simp, e1, t1, F1, A1, ac0, us0, R1, ⟨fun _ _ h _ _ _ => h, Same.refl _, fun _ h => .inl h, fun _ h => .inl h, fun _ o h => ⟨o, h⟩⟩, o1, h1, hac0, q⟩, ?_⟩
  rintro i m H2 ⟨rfl, en, T2, F2, A2, ac, us, R2, c, hap, hDu, hac, e3⟩
  have sF : Same F1 H2 := c.2.1.trans R2.same
  by_cases hlt : i < ds.length
  · refine .inr ⟨wk.go i H2 ds[i] sF (List.getElem?_eq_getElem hlt), fun H' => W (i + 1) (ds.length - (i + 1)) H', fun H' h => ⟨_, by omega, h⟩, fun x H3 y => ?_⟩
    obtain ⟨F3, n3, hx⟩ := wk.yld i H2 ds[i] x H3 F2 sF R2.same c.2.1 (List.getElem?_eq_getElem hlt) y
    obtain ⟨R3, S3⟩ := R2.new n3
    rw [List.drop_eq_getElem_cons hlt] at e3
    simp only [lcL] at e3
    cases q3 : g ds[i] (wipeE en own) with
    | none => rw [q3] at e3; cases e3
    | some e4 =>
      rw [q3] at e3
      simp only at e3
      obtain ⟨A3w, R3w, S3w⟩ := R3.wipe own
      rw [wipe_wipe] at R3w
      refine ⟨ad, wipeE en own, T2, F3, A3w, ds[i], e4, R3w, hx, q3, fun σ4 A4 R4 S4 l4 o4 => ?_⟩
      have eσ : L2.wipe σ4 own = L2.wipe σ own := by
        rw [wipe_agree (τ := L2.wipe σ own) l4 fun j hj => o4 j fun z => hj (sub j z), wipe_wipe]
      refine ⟨eσ, ?_⟩
      have S24 := (S3.trans S3w).trans S4
      cases q4 : tt e4 T2 with
      | none => rw [q4] at e3; cases e3
      | some z4 =>
        obtain ⟨b4, e5, t5⟩ := z4
        rw [q4] at e3
        refine ⟨ad, e4, T2, F3, A4, b4, e5, t5, R4, q4, fun H5 F5 A5 R5 S5 => ?_⟩
        have S25 := S24.trans S5
        cases b4 with
        | false =>
          simp only at e3
          refine iteF ?_
          obtain ⟨A6, R6, S6⟩ := R5.wipe own
          rw [eσ] at R6
          have S26 := S25.trans S6
          obtain ⟨ap, hD6⟩ := hap.step S26 hDu
          exact ⟨rfl, _, _, F5, A6, ac, us, R6, go c S26, ap, hD6, hac.mono S26.sF, e3⟩
        | true =>
          simp only at e3
          refine iteT ?_
          cases q5 : el e5 t5 with
          | none => rw [q5] at e3; cases e3
          | some z5 =>
            obtain ⟨y5, e6, t6⟩ := z5
            rw [q5] at e3
            simp only at e3
            refine ⟨ad, e5, t5, F5, A5, y5, e6, t6, R5, q5, fun v6 H6 F6 A6 R6 S6 hv6 => ?_⟩
            obtain ⟨A7, R7, S7⟩ := R6.wipe own
            rw [eσ] at R7
            have S27 := (S25.trans S6).trans S7
            obtain ⟨ap, hD6⟩ := hap.step S27 hDu
            have hl := (lcL_len e3).1
            simp only [List.length_append, List.length_singleton] at hl
            refine ⟨us, hD6, by rw [hac.length]; omega, ?_⟩
            obtain ⟨c1, c2, c3, c4, c5⟩ := go c S27
            refine ⟨rfl, _, _, F6, A7, ac ++ [y5], us ++ [v6], R7.grow ap _, ⟨fun a o z hA hT hL => ?_, c2, c3, c4, fun a o z => ?_⟩, ap, upd_same, (hac.mono S27.sF).app (.one hv6), e3⟩
            · rw [upd_ne hL]; exact c1 a o z hA hT hL
            · by_cases w : a = L
              · subst w; exact ⟨_, upd_same⟩
              · rw [upd_ne w]; exact c5 a o z
  · refine .inl ⟨wk.stop i H2 sF (by omega), ?_⟩
    rw [List.drop_eq_nil_of_le (by omega)] at e3
    simp only [lcL, Option.some.injEq, Prod.mk.injEq] at e3
    obtain ⟨rfl, rfl, rfl⟩ := e3
    obtain ⟨c1, c2, c3, c4, c5⟩ := c
    exact hK H2 F2 A2 us R2 c1 c2 c3 c4 c5 hap hDu hac
end
section
variable {Z : TSys} {X : Cx}
theorem lc_run {own is : List Nat} {src : ML Z} {g : G} {tt : MB Z} {el : M Z} (sub : ∀ j ∈ is, j ∈ own) {σ : L2.St} {H : Hp} {Q : VK} (h : denO Z 1 (mlc own src g tt el) σ H Q) :
    tLc (denI Z src) (denG Z is g) (denB Z tt) (den Z el) own σ H Q := by
  obtain ⟨ad, env, T, F, A, r, env', T', R, e, k⟩ := h
  unfold mlc at e
  cases q : src env T with
  | none => rw [q] at e; cases e
  | some z =>
    obtain ⟨ds, e1, t1⟩ := z
    rw [q] at e
    simp only at e
    by_cases hok : (ownOk e1 own && decide (ds.length ≤ sizeLine)) = true
    · rw [if_pos hok] at e
      have ok1 : ownOk e1 own = true := (Bool.and_eq_true_iff.mp hok).1
      have ok2 : ds.length ≤ sizeLine := of_decide_eq_true (Bool.and_eq_true_iff.mp hok).2
      cases q2 : lcL own g tt el ds [] (wipeE e1 own) t1 with
      | none => rw [q2] at e; cases e
      | some z2 =>
        obtain ⟨acc, e2, t2⟩ := z2
        rw [q2] at e
        simp only [Option.some.injEq, Prod.mk.injEq] at e
        obtain ⟨rfl, rfl, rfl⟩ := e
        refine ⟨ad, env, T, F, A, ds, e1, t1, R, q, fun J H1 F1 A1 R1 S1 wk L hL => ?_⟩
        obtain ⟨Aw, Rw, Sw⟩ := R1.wipe own
        obtain ⟨RD, SD⟩ := Rw.own hL (.lst [])
        obtain ⟨nD1, nD2⟩ := Rw.notin hL
        have fD : F1 L = none := R1.same.free hL
        refine lc_loop sub RD ⟨nD1, fD, nD2⟩ upd_same .nil wk (by have := (lcL_len q2).2; simp at this; omega) q2 fun H2 F2 A2 us R2 c1 c2 c3 c4 c5 ap hD hac => ?_
        have S2 : Stp Z ad Aw F1 H1 A2 F2 H2 := ⟨c2, fun a ha => ?_, fun a ha => ?_, fun a o e hA hT => ?_, fun a o e => ?_⟩
        · obtain ⟨A4, R4, S4⟩ := R1.rest ok1 c2 own (fun v hv => hv) R2 (env2 := e2) (A2 := A2)
          rw [restS_wipe] at R4
          have S := (S1.trans (Sw.trans S2)).trans S4
          obtain ⟨ap4, hD4⟩ := ap.step S4 hD
          refine k _ H2 F2 A4 [L] R4 S ⟨L, [], rfl, ap4.2.1, rfl, us, hD4, OwnL.ofHolds hac⟩ (by simp) fun a ha => ?_
          have ea : a = L := by simpa using ha
          subst ea
          exact ⟨ap4.1, S1.none hL, nD2⟩
        · rcases c3 a ha with w | w | w
          · exact .inl w
          · exact .inr (.inl w)
          · refine .inr (.inr ?_)
            by_cases z : a = L
            · rw [z]; exact hL
            · rw [upd_ne z] at w; exact w
        · rcases c4 a ha with w | w
          · exact .inl w
          · refine .inr ?_
            by_cases z : a = L
            · rw [z]; exact hL
            · rw [upd_ne z] at w; exact w
        · have ne : a ≠ L := fun z => by rw [z, hL] at e; cases e
          exact c1 a o (by rw [upd_ne ne]; exact e) hA hT ne
        · have ne : a ≠ L := fun z => by rw [z, hL] at e; cases e
          exact c5 a o (by rw [upd_ne ne]; exact e)
    · rw [if_neg hok] at e; cases e
end

/-! ### two clauses -/
def lc2L {Z : TSys} (own own1 : List Nat) (g : G) (tt : MB Z) (src1 : ML Z) (g1 : G) (tt1 : MB Z) (el : M Z) : List D → List D → List Sl → Z.T → Option (List D × List Sl × Z.T)
  | [], acc, e, t => some (acc, e, t)
  | d :: ds, acc, e, t => match g d (wipeE e own) with
    | some e1 => match tt e1 t with
      | some (true, e2, t2) => match src1 e2 t2 with
        | some (ds1, e3, t3) => match lcL own1 g1 tt1 el ds1 acc (wipeE e3 own1) t3 with
          | some (acc', e4, t4) => lc2L own own1 g tt src1 g1 tt1 el ds acc' (wipeE e4 own) t4
          | none => none
        | none => none
      | some (false, e2, t2) => lc2L own own1 g tt src1 g1 tt1 el ds acc (wipeE e2 own) t2
      | none => none
    | none => none
def mlc2 {Z : TSys} (own own1 : List Nat) (src : ML Z) (g : G) (tt : MB Z) (src1 : ML Z) (g1 : G) (tt1 : MB Z) (el : M Z) : M Z := fun e t => match src e t with
  | some (ds, e1, t1) => if ownOk e1 own then match lc2L own own1 g tt src1 g1 tt1 el ds [] (wipeE e1 own) t1 with
    | some (acc, e2, t2) => if acc.length ≤ sizeLine then some (.lst acc, restE e1 own e2, t2) else none
    | none => none
    else none
  | none => none
section
variable {Z : TSys}
theorem lc2L_len {own own1 : List Nat} {g : G} {tt : MB Z} {src1 : ML Z} {g1 : G} {tt1 : MB Z} {el : M Z} : ∀ {ds acc : List D} {e : List Sl} {t : Z.T} {r : List D} {e' : List Sl} {t' : Z.T}, lc2L own own1 g tt src1 g1 tt1 el ds acc e t = some (r, e', t') → acc.length ≤ r.length
  | [], acc, e, t, r, e', t', h => by
    simp only [lc2L, Option.some.injEq, Prod.mk.injEq] at h
    obtain ⟨rfl, rfl, rfl⟩ := h
    exact Nat.le_refl _
  | d :: ds, acc, e, t, r, e', t', h => by
    simp only [lc2L] at h
    cases q : g d (wipeE e own) with
    | none => rw [q] at h; cases h
    | some e1 =>
      rw [q] at h
      simp only at h
      cases q2 : tt e1 t with
      | none => rw [q2] at h; cases h
      | some z =>
        obtain ⟨b, e2, t2⟩ := z
        rw [q2] at h
        cases b with
        | false => exact lc2L_len h
        | true =>
          simp only at h
          cases q3 : src1 e2 t2 with
          | none => rw [q3] at h; cases h
          | some z3 =>
            obtain ⟨ds1, e3, t3⟩ := z3
            rw [q3] at h
            simp only at h
            cases q4 : lcL own1 g1 tt1 el ds1 acc (wipeE e3 own1) t3 with
            | none => rw [q4] at h; cases h
            | some z4 =>
              obtain ⟨acc', e4, t4⟩ := z4
              rw [q4] at h
              exact Nat.le_trans (lcL_len q4).1 (lc2L_len h)
theorem lc2_run {own own1 is is1 : List Nat} {src src1 : ML Z} {g g1 : G} {tt tt1 : MB Z} {el : M Z} (sub : ∀ j ∈ is, j ∈ own) (sub1 : ∀ j ∈ is1, j ∈ own1) (s11 : ∀ j ∈ own1, j ∈ own) {σ : L2.St} {H : Hp} {Q : VK} (h : denO Z 1 (mlc2 own own1 src g tt src1 g1 tt1 el) σ H Q) :
    tLc2 (denI Z src) (denG Z is g) (denB Z tt) (denI Z src1) (denG Z is1 g1) (denB Z tt1) (den Z el) own own1 σ H Q := by
  obtain ⟨ad, env, T, F, A, r, env', T', R, e, k⟩ := h
  unfold mlc2 at e
  cases q : src env T with
  | none => rw [q] at e; cases e
  | some z =>
    obtain ⟨ds, e1, t1⟩ := z
    rw [q] at e
    simp only at e
    by_cases ok1 : ownOk e1 own = true
    · rw [if_pos ok1] at e
      cases q2 : lc2L own own1 g tt src1 g1 tt1 el ds [] (wipeE e1 own) t1 with
      | none => rw [q2] at e; cases e
      | some z2 =>
        obtain ⟨acc, e2, t2⟩ := z2
        rw [q2] at e
        simp only at e
        by_cases ok2 : acc.length ≤ sizeLine
        · rw [if_pos ok2] at e
          simp only [Option.some.injEq, Prod.mk.injEq] at e
          obtain ⟨rfl, rfl, rfl⟩ := e
          refine ⟨ad, env, T, F, A, ds, e1, t1, R, q, fun J H1 F1 A1 R1 S1 wk L hL => ?_⟩
          obtain ⟨Aw, Rw, Sw⟩ := R1.wipe own
          obtain ⟨RD, SD⟩ := Rw.own hL (.lst [])
          obtain ⟨nD1, nD2⟩ := Rw.notin hL
          have fD : F1 L = none := R1.same.free hL
          let W : Nat → Nat → Hp → Prop := fun i m H' => m = ds.length - i ∧ ∃ (en : List Sl) (T2 : Z.T) (F2 : Hp) (A2 : List Addr) (ac : List D) (us : List V),
            Rel Z ad en T2 F2 (L2.wipe σ own) H' A2 ∧ Stp Z ad Aw F1 H1 A2 F2 H' ∧ Out Z ad L A2 F2 ∧ H' L = some (.lst us) ∧ HoldsL (Z.root ad) F2 ac us ∧ lc2L own own1 g tt src1 g1 tt1 el (ds.drop i) ac en T2 = some (acc, e2, t2)
          refine ⟨W, ⟨ds.length, by simp, wipeE e1 own, t1, F1, Aw, [], [], RD, SD, ⟨nD1, fD, nD2⟩, upd_same, .nil, q2⟩, ?_⟩
          rintro i m H2 ⟨rfl, en, T2, F2, A2, ac, us, R2, S2, hap, hDu, hac, e3⟩
          have sF : Same F1 H2 := S2.sF.trans R2.same
          by_cases hlt : i < ds.length
          · refine .inr ⟨wk.go i H2 ds[i] sF (List.getElem?_eq_getElem hlt), fun H' => W (i + 1) (ds.length - (i + 1)) H', fun H' h => ⟨_, by omega, h⟩, fun x H3 y => ?_⟩
            obtain ⟨F3, n3, hx⟩ := wk.yld i H2 ds[i] x H3 F2 sF R2.same S2.sF (List.getElem?_eq_getElem hlt) y
            obtain ⟨R3, S3⟩ := R2.new n3
            rw [List.drop_eq_getElem_cons hlt] at e3
            simp only [lc2L] at e3
            cases q3 : g ds[i] (wipeE en own) with
            | none => rw [q3] at e3; cases e3
            | some e4 =>
              rw [q3] at e3
              simp only at e3
              obtain ⟨A3w, R3w, S3w⟩ := R3.wipe own
              rw [wipe_wipe] at R3w
              refine ⟨ad, wipeE en own, T2, F3, A3w, ds[i], e4, R3w, hx, q3, fun σ4 A4 R4 S4 l4 o4 => ?_⟩
              have eσ : L2.wipe σ4 own = L2.wipe σ own := by
                rw [wipe_agree (τ := L2.wipe σ own) l4 fun j hj => o4 j fun z => hj (sub j z), wipe_wipe]
              refine ⟨eσ, ?_⟩
              have S24 := (S3.trans S3w).trans S4
              cases q4 : tt e4 T2 with
              | none => rw [q4] at e3; cases e3
              | some z4 =>
                obtain ⟨b4, e5, t5⟩ := z4
                rw [q4] at e3
                refine ⟨ad, e4, T2, F3, A4, b4, e5, t5, R4, q4, fun H5 F5 A5 R5 S5 => ?_⟩
                have S25 := S24.trans S5
                cases b4 with
                | false =>
                  simp only at e3
                  refine iteF ?_
                  obtain ⟨A6, R6, S6⟩ := R5.wipe own
                  rw [eσ] at R6
                  have S26 := S25.trans S6
                  obtain ⟨ap, hD6⟩ := hap.step S26 hDu
                  exact ⟨rfl, _, _, F5, A6, ac, us, R6, S2.trans S26, ap, hD6, hac.mono S26.sF, e3⟩
                | true =>
                  simp only at e3
                  refine iteT ?_
                  cases q5 : src1 e5 t5 with
                  | none => rw [q5] at e3; cases e3
                  | some z5 =>
                    obtain ⟨ds1, e6, t6⟩ := z5
                    rw [q5] at e3
                    simp only at e3
                    cases q6 : lcL own1 g1 tt1 el ds1 ac (wipeE e6 own1) t6 with
                    | none => rw [q6] at e3; cases e3
                    | some z6 =>
                      obtain ⟨ac7, e7, t7⟩ := z6
                      rw [q6] at e3
                      simp only at e3
                      refine ⟨ad, e5, t5, F5, A5, ds1, e6, t6, R5, q5, fun J1 H6 F6 A6 R6 S6 wk1 => ?_⟩
                      have S26 := S25.trans S6
                      obtain ⟨ap6, hD6⟩ := hap.step S26 hDu
                      obtain ⟨A6w, R6w, S6w⟩ := R6.wipe own1
                      obtain ⟨ap6w, hD6w⟩ := ap6.step S6w hD6
                      have hl2 := lc2L_len e3
                      have c26 := S2.trans (S26.trans S6w)
                      refine lc_loop sub1 R6w ap6w hD6w (hac.mono S26.sF) wk1 (by omega) q6 fun H8 F8 A8 us8 R8 c1 c2 c3 c4 c5 ap8 hD8 hac8 => ?_
                      obtain ⟨A9, R9, S9⟩ := R8.wipe own
                      have eσ2 : L2.wipe (L2.wipe σ4 own1) own = L2.wipe σ own := by
                        rw [← eσ]
                        exact wipe_agree (wipe_length _ _) fun j hj => wipe_off fun z => hj (s11 j z)
                      rw [eσ2] at R9
                      obtain ⟨ap9, hD9⟩ := ap8.step S9 hD8
                      have S28 : Stp Z ad Aw F1 H1 A8 F8 H8 := ⟨c26.sF.trans c2, fun a ha => ?_, fun a ha => ?_, fun a o e hA hT => ?_, fun a o e => ?_⟩
                      · exact ⟨rfl, _, _, F8, A9, ac7, us8, R9, S28.trans S9, ap9, hD9, hac8, e3⟩
                      · rcases c3 a ha with w | w | w
                        · exact c26.nF a w
                        · exact .inr (c26.nA a w)
                        · exact .inr (.inr (c26.none w))
                      · rcases c4 a ha with w | w
                        · exact c26.nA a w
                        · exact .inr (c26.none w)
                      · refine c1 a o (c26.fr a o e hA hT) (fun z => ?_) hT fun z => by rw [z, hL] at e; cases e
                        rcases c26.nA a z with w | w
                        · exact hA w
                        · rw [e] at w; cases w
                      · obtain ⟨o', e'⟩ := c26.ex a o e
                        exact c5 a o' e'
          · refine .inl ⟨wk.stop i H2 sF (by omega), ?_⟩
            rw [List.drop_eq_nil_of_le (by omega)] at e3
            simp only [lc2L, Option.some.injEq, Prod.mk.injEq] at e3
            obtain ⟨rfl, rfl, rfl⟩ := e3
            obtain ⟨A4, R4, S4⟩ := R1.rest ok1 S2.sF own (fun v hv => hv) R2 (env2 := en) (A2 := A2)
            rw [restS_wipe] at R4
            have S := (S1.trans (Sw.trans S2)).trans S4
            obtain ⟨ap4, hD4⟩ := hap.step S4 hDu
            refine k _ H2 F2 A4 [L] R4 S ⟨L, [], rfl, ap4.2.1, rfl, us, hD4, OwnL.ofHolds hac⟩ (by simp) fun a ha => ?_
            have ea : a = L := by simpa using ha
            subst ea
            exact ⟨ap4.1, S1.none hL, nD2⟩
        · rw [if_neg ok2] at e; cases e
    · rw [if_neg ok1] at e; cases e
end

/-! ### the judgements -/
theorem den_O {Z : TSys} {n : Nat} {m : M Z} {σ : L2.St} {H : Hp} {Q : VK} (h : den Z m σ H Q) : denO Z n m σ H Q := by
  obtain ⟨ad, env, T, F, A, r, env', T', R, e, k⟩ := h
  refine ⟨ad, env, T, F, A, r, env', T', R, e, fun v H' F' A' B R' S' ho nd hB => ?_⟩
  obtain ⟨R2, s2, h2, n2⟩ := R'.frzB ho fun a ha => ⟨(hB a ha).1, (hB a ha).2.2⟩
  refine k v H' _ A' R2 ⟨S'.sF.trans s2, fun a ha => ?_, S'.nA, S'.fr, S'.ex⟩ h2
  rcases n2 a ha with z | z
  · exact S'.nF a z
  · exact .inr (.inr (hB a z).2.1)
section
variable {Z : TSys} {X : Cx} {elt tg iter tg1 iter1 : Expr} {ifs ifs1 : List Expr} {scope : Scope} {own : List (Str × Nat)} {pos spos : Pos} {src src1 : ML Z} {is is1 own1 : List Nat} {g g1 : G} {tt tt1 : MB Z} {el : M Z}
theorem io_lc (own : List (Str × Nat)) (hc : X.calm = true) (hN : X.N.Nodup) (hi : IsI Z X tg iter src) (ok : BlkOk X.N X.env.scope scope own)
    (hg : ∀ (s : Shared) (H : Hp) (C : Addr) (cl : List (Str × Addr)) (fp : List Addr), IsG Z (X.blk s H scope (compEnvC scope cl C X.env) fp) tg is g) (ht : ∀ (s : Shared) (H : Hp) (C : Addr) (cl : List (Str × Addr)) (fp : List Addr), IsTs Z (X.blk s H scope (compEnvC scope cl C X.env) fp) ifs tt)
    (he : ∀ (s : Shared) (H : Hp) (C : Addr) (cl : List (Str × Addr)) (fp : List Addr), IsE Z (X.blk s H scope (compEnvC scope cl C X.env) fp) elt el) (sub : ∀ j ∈ is, j ∈ own.map (·.2) := by decide) (hs : ∀ x, foldedSetIterable iter X.env x = pure x := by intro _; rfl) :
    IsO Z 1 X (.ListComp elt [⟨tg, iter, ifs, 0⟩] scope pos) (mlc (own.map (·.2)) src g tt el) :=
  ⟨PE.imp (pe_lc hc hN hi.pi ok (fun s H C cl fp => (hg s H C cl fp).pg) (fun s H C cl fp => (ht s H C cl fp).pt) (fun s H C cl fp => (he s H C cl fp).pe) hs) fun σ H Q h => lc_run sub h⟩
theorem is_lcO (own : List (Str × Nat)) {i : Nat} {y : Str} {py : Pos} (hc : X.calm = true) (hN : X.N.Nodup) (hy : X.N[i]? = some y) (hyl : X.env.scope.names.lookup y = some .local)
    (hsw : swapsWith (.ListComp elt [⟨tg, iter, ifs, 0⟩] scope pos) (some (.Name y py)) spos.line X.env = pure true) (hi : IsI Z X tg iter src) (ok : BlkOk X.N X.env.scope scope own)
    (hg : ∀ (s : Shared) (H : Hp) (C : Addr) (cl : List (Str × Addr)) (fp : List Addr), IsG Z (X.blk s H scope (compEnvC scope cl C X.env) fp) tg is g) (ht : ∀ (s : Shared) (H : Hp) (C : Addr) (cl : List (Str × Addr)) (fp : List Addr), IsTs Z (X.blk s H scope (compEnvC scope cl C X.env) fp) ifs tt)
    (he : ∀ (s : Shared) (H : Hp) (C : Addr) (cl : List (Str × Addr)) (fp : List Addr), IsE Z (X.blk s H scope (compEnvC scope cl C X.env) fp) elt el) (sub : ∀ j ∈ is, j ∈ own.map (·.2) := by decide) (hs : ∀ x, foldedSetIterable iter X.env x = pure x := by intro _; rfl) :
    IsS Z X (.Assign [.Name y py] (.ListComp elt [⟨tg, iter, ifs, 0⟩] scope pos) spos) (ssetO i 1 (mlc (own.map (·.2)) src g tt el)) :=
  ⟨PS.imp (ps_setLc hc hN hy hyl hsw hi.pi ok (fun s H C cl fp => (hg s H C cl fp).pg) (fun s H C cl fp => (ht s H C cl fp).pt) (fun s H C cl fp => (he s H C cl fp).pe) hs) fun D σ H h => setO_core (fun _ _ _ h => lc_run sub h) h⟩
theorem is_lc (own : List (Str × Nat)) {i : Nat} {y : Str} {py : Pos} (hc : X.calm = true) (hN : X.N.Nodup) (hy : X.N[i]? = some y) (hyl : X.env.scope.names.lookup y = some .local)
    (hsw : swapsWith (.ListComp elt [⟨tg, iter, ifs, 0⟩] scope pos) (some (.Name y py)) spos.line X.env = pure true) (hi : IsI Z X tg iter src) (ok : BlkOk X.N X.env.scope scope own)
    (hg : ∀ (s : Shared) (H : Hp) (C : Addr) (cl : List (Str × Addr)) (fp : List Addr), IsG Z (X.blk s H scope (compEnvC scope cl C X.env) fp) tg is g) (ht : ∀ (s : Shared) (H : Hp) (C : Addr) (cl : List (Str × Addr)) (fp : List Addr), IsTs Z (X.blk s H scope (compEnvC scope cl C X.env) fp) ifs tt)
    (he : ∀ (s : Shared) (H : Hp) (C : Addr) (cl : List (Str × Addr)) (fp : List Addr), IsE Z (X.blk s H scope (compEnvC scope cl C X.env) fp) elt el) (sub : ∀ j ∈ is, j ∈ own.map (·.2) := by decide) (hs : ∀ x, foldedSetIterable iter X.env x = pure x := by intro _; rfl) :
    IsS Z X (.Assign [.Name y py] (.ListComp elt [⟨tg, iter, ifs, 0⟩] scope pos) spos) (sset i (mlc (own.map (·.2)) src g tt el)) :=
  ⟨PS.imp (ps_setLc hc hN hy hyl hsw hi.pi ok (fun s H C cl fp => (hg s H C cl fp).pg) (fun s H C cl fp => (ht s H C cl fp).pt) (fun s H C cl fp => (he s H C cl fp).pe) hs) fun D σ H h => set_core (fun _ _ _ h => lc_run sub (den_O h)) h⟩
theorem io_lc2 (own : List (Str × Nat)) (own1 : List Nat) (hc : X.calm = true) (hN : X.N.Nodup) (hi : IsI Z X tg iter src) (ok : BlkOk X.N X.env.scope scope own) (s11 : ∀ j ∈ own1, j ∈ own.map (·.2))
    (hg : ∀ (s : Shared) (H : Hp) (C : Addr) (cl : List (Str × Addr)) (fp : List Addr), IsG Z (X.blk s H scope (compEnvC scope cl C X.env) fp) tg is g) (ht : ∀ (s : Shared) (H : Hp) (C : Addr) (cl : List (Str × Addr)) (fp : List Addr), IsTs Z (X.blk s H scope (compEnvC scope cl C X.env) fp) ifs tt)
    (hi1 : ∀ (s : Shared) (H : Hp) (C : Addr) (cl : List (Str × Addr)) (fp : List Addr), IsI Z (X.blk s H scope (compEnvC scope cl C X.env) fp) tg1 iter1 src1)
    (hg1 : ∀ (s : Shared) (H : Hp) (C : Addr) (cl : List (Str × Addr)) (fp : List Addr), IsG Z (X.blk s H scope (compEnvC scope cl C X.env) fp) tg1 is1 g1) (ht1 : ∀ (s : Shared) (H : Hp) (C : Addr) (cl : List (Str × Addr)) (fp : List Addr), IsTs Z (X.blk s H scope (compEnvC scope cl C X.env) fp) ifs1 tt1)
    (he : ∀ (s : Shared) (H : Hp) (C : Addr) (cl : List (Str × Addr)) (fp : List Addr), IsE Z (X.blk s H scope (compEnvC scope cl C X.env) fp) elt el) (sub : ∀ j ∈ is, j ∈ own.map (·.2) := by decide) (sub1 : ∀ j ∈ is1, j ∈ own1 := by decide) (hs : ∀ x, foldedSetIterable iter X.env x = pure x := by intro _; rfl) (hs1 : ∀ env x, foldedSetIterable iter1 env x = pure x := by intro _ _; rfl) :
    IsO Z 1 X (.ListComp elt [⟨tg, iter, ifs, 0⟩, ⟨tg1, iter1, ifs1, 0⟩] scope pos) (mlc2 (own.map (·.2)) own1 src g tt src1 g1 tt1 el) :=
  ⟨PE.imp (pe_lc2 hc hN hi.pi ok s11 (fun s H C cl fp => (hg s H C cl fp).pg) (fun s H C cl fp => (ht s H C cl fp).pt) (fun s H C cl fp => (hi1 s H C cl fp).pi) (fun s H C cl fp => (hg1 s H C cl fp).pg) (fun s H C cl fp => (ht1 s H C cl fp).pt) (fun s H C cl fp => (he s H C cl fp).pe) hs hs1) fun σ H Q h => lc2_run sub sub1 s11 h⟩
theorem is_lc2 (own : List (Str × Nat)) (own1 : List Nat) {i : Nat} {y : Str} {py : Pos} (hc : X.calm = true) (hN : X.N.Nodup) (hy : X.N[i]? = some y) (hyl : X.env.scope.names.lookup y = some .local)
    (hsw : swapsWith (.ListComp elt [⟨tg, iter, ifs, 0⟩, ⟨tg1, iter1, ifs1, 0⟩] scope pos) (some (.Name y py)) spos.line X.env = pure true) (hi : IsI Z X tg iter src) (ok : BlkOk X.N X.env.scope scope own) (s11 : ∀ j ∈ own1, j ∈ own.map (·.2))
    (hg : ∀ (s : Shared) (H : Hp) (C : Addr) (cl : List (Str × Addr)) (fp : List Addr), IsG Z (X.blk s H scope (compEnvC scope cl C X.env) fp) tg is g) (ht : ∀ (s : Shared) (H : Hp) (C : Addr) (cl : List (Str × Addr)) (fp : List Addr), IsTs Z (X.blk s H scope (compEnvC scope cl C X.env) fp) ifs tt)
    (hi1 : ∀ (s : Shared) (H : Hp) (C : Addr) (cl : List (Str × Addr)) (fp : List Addr), IsI Z (X.blk s H scope (compEnvC scope cl C X.env) fp) tg1 iter1 src1)
    (hg1 : ∀ (s : Shared) (H : Hp) (C : Addr) (cl : List (Str × Addr)) (fp : List Addr), IsG Z (X.blk s H scope (compEnvC scope cl C X.env) fp) tg1 is1 g1) (ht1 : ∀ (s : Shared) (H : Hp) (C : Addr) (cl : List (Str × Addr)) (fp : List Addr), IsTs Z (X.blk s H scope (compEnvC scope cl C X.env) fp) ifs1 tt1)
    (he : ∀ (s : Shared) (H : Hp) (C : Addr) (cl : List (Str × Addr)) (fp : List Addr), IsE Z (X.blk s H scope (compEnvC scope cl C X.env) fp) elt el) (sub : ∀ j ∈ is, j ∈ own.map (·.2) := by decide) (sub1 : ∀ j ∈ is1, j ∈ own1 := by decide) (hs : ∀ x, foldedSetIterable iter X.env x = pure x := by intro _; rfl) (hs1 : ∀ env x, foldedSetIterable iter1 env x = pure x := by intro _ _; rfl) :
    IsS Z X (.Assign [.Name y py] (.ListComp elt [⟨tg, iter, ifs, 0⟩, ⟨tg1, iter1, ifs1, 0⟩] scope pos) spos) (sset i (mlc2 (own.map (·.2)) own1 src g tt src1 g1 tt1 el)) :=
  ⟨PS.imp (ps_setLc2 hc hN hy hyl hsw hi.pi ok s11 (fun s H C cl fp => (hg s H C cl fp).pg) (fun s H C cl fp => (ht s H C cl fp).pt) (fun s H C cl fp => (hi1 s H C cl fp).pi) (fun s H C cl fp => (hg1 s H C cl fp).pg) (fun s H C cl fp => (ht1 s H C cl fp).pt) (fun s H C cl fp => (he s H C cl fp).pe) hs hs1) fun D σ H h => set_core (fun _ _ _ h => lc2_run sub sub1 s11 (den_O h)) h⟩
end
end DL

/-! The data layer, 7: pure operations. -/
namespace DL
open PySem L2

/-! ### helpers -/
def intsD : List D → Option (List Int)
  | [] => some []
  | .int i :: r => match intsD r with
    | some l => some (i :: l)
    | none => none
  | _ :: _ => none
def blsD : List D → Option (List Bool)
  | [] => some []
  | .bl i :: r => match blsD r with
    | some l => some (i :: l)
    | none => none
  | _ :: _ => none
def strsD : List D → Option (List Str)
  | [] => some []
  | .str i :: r => match strsD r with
    | some l => some (i :: l)
    | none => none
  | _ :: _ => none
@[simp] theorem intsD_map (ns : List Int) : intsD (ns.map .int) = some ns := by induction ns with | nil => rfl | cons a r ih => simp [intsD, ih]
@[simp] theorem blsD_map (ns : List Bool) : blsD (ns.map .bl) = some ns := by induction ns with | nil => rfl | cons a r ih => simp [blsD, ih]
@[simp] theorem strsD_map (ns : List Str) : strsD (ns.map .str) = some ns := by induction ns with | nil => rfl | cons a r ih => simp [strsD, ih]
theorem intsD_inv : ∀ {ds : List D} {ns : List Int}, intsD ds = some ns → ds = ns.map .int
  | [], _, h => by simp only [intsD, Option.some.injEq] at h; subst h; rfl
  | d :: r, ns, h => by
    cases d with
    | int i =>
      simp only [intsD] at h
      cases q : intsD r with
      | none => rw [q] at h; cases h
      | some l => rw [q] at h; simp only [Option.some.injEq] at h; subst h; rw [intsD_inv q]; rfl
    | _ => cases h
theorem blsD_inv : ∀ {ds : List D} {ns : List Bool}, blsD ds = some ns → ds = ns.map .bl
  | [], _, h => by simp only [blsD, Option.some.injEq] at h; subst h; rfl
  | d :: r, ns, h => by
    cases d with
    | bl i =>
      simp only [blsD] at h
      cases q : blsD r with
      | none => rw [q] at h; cases h
      | some l => rw [q] at h; simp only [Option.some.injEq] at h; subst h; rw [blsD_inv q]; rfl
    | _ => cases h
theorem strsD_inv : ∀ {ds : List D} {ns : List Str}, strsD ds = some ns → ds = ns.map .str
  | [], _, h => by simp only [strsD, Option.some.injEq] at h; subst h; rfl
  | d :: r, ns, h => by
    cases d with
    | str i =>
      simp only [strsD] at h
      cases q : strsD r with
      | none => rw [q] at h; cases h
      | some l => rw [q] at h; simp only [Option.some.injEq] at h; subst h; rw [strsD_inv q]; rfl
    | _ => cases h
section
variable {rt : V} {F H : Hp}
theorem holds_ints : ∀ {ns : List Int} {vs : List V}, HoldsL rt F (ns.map .int) vs → vs = ns.map V.int
  | [], _, h => by simpa only [List.map_nil, HoldsL] using h
  | n :: r, _, h => by
    simp only [List.map_cons, HoldsL, Holds] at h
    obtain ⟨v, t, rfl, rfl, h⟩ := h
    rw [holds_ints h]; rfl
theorem holds_bls : ∀ {ns : List Bool} {vs : List V}, HoldsL rt F (ns.map .bl) vs → vs = ns.map V.bl
  | [], _, h => by simpa only [List.map_nil, HoldsL] using h
  | n :: r, _, h => by
    simp only [List.map_cons, HoldsL, Holds] at h
    obtain ⟨v, t, rfl, rfl, h⟩ := h
    rw [holds_bls h]; rfl
theorem holds_strs : ∀ {ns : List Str} {vs : List V}, HoldsL rt F (ns.map .str) vs → vs = ns.map V.str
  | [], _, h => by simpa only [List.map_nil, HoldsL] using h
  | n :: r, _, h => by
    simp only [List.map_cons, HoldsL, Holds] at h
    obtain ⟨v, t, rfl, rfl, h⟩ := h
    rw [holds_strs h]; rfl
theorem hbl1 {d : D} {vs : List V} (h : HBL rt F H [d] vs) : ∃ v, vs = [v] ∧ HB rt F H d v := by
  obtain ⟨v, r, rfl, h1, rfl⟩ := h
  exact ⟨v, rfl, h1⟩
theorem hbl2 {d e : D} {vs : List V} (h : HBL rt F H [d, e] vs) : ∃ v w, vs = [v, w] ∧ HB rt F H d v ∧ HB rt F H e w := by
  obtain ⟨v, r, rfl, h1, w, r2, rfl, h2, rfl⟩ := h
  exact ⟨v, w, rfl, h1, h2⟩
theorem HB.int {i : Int} {v : V} (h : HB rt F H (.int i) v) : v = .int i := by simpa only [HB, Holds] using h
theorem HB.bl {i : Bool} {v : V} (h : HB rt F H (.bl i) v) : v = .bl i := by simpa only [HB, Holds] using h
theorem HB.str {i : Str} {v : V} (h : HB rt F H (.str i) v) : v = .str i := by simpa only [HB, Holds] using h
theorem HB.non {v : V} (h : HB rt F H .non v) : v = .non := by simpa only [HB, Holds] using h
theorem HB.tup {ds : List D} {v : V} (h : HB rt F H (.tup ds) v) : ∃ a vs, v = .ref a ∧ TupF F a vs ∧ HoldsL rt F ds vs := by simpa only [HB, Holds] using h
theorem HB.lst {ds : List D} {v : V} (h : HB rt F H (.lst ds) v) : ∃ a vs, v = .ref a ∧ H a = some (.lst vs) ∧ HoldsL rt F ds vs := h
/-- a list or a tuple -/
theorem HB.seq {K : PySem.W.Frag} (s : Same F H) {d : D} {ds : List D} {v : V} (h : HB rt F H d v) (e : d = .lst ds ∨ d = .tup ds) : ∃ a vs, v = .ref a ∧ (SqL K H a vs ∨ SqT K H a vs) ∧ HoldsL rt F ds vs := by
  rcases e with rfl | rfl
  · obtain ⟨a, vs, e, f, l⟩ := h.lst
    exact ⟨a, vs, e, .inl (SqL.of f), l⟩
  · obtain ⟨a, vs, e, f, l⟩ := h.tup
    exact ⟨a, vs, e, .inr (f.mono s).sq, l⟩
end
/-- a result without a new object -/
theorem fin0 {rt : V} {F H : Hp} {d : D} {v : V} {Q : VK} (s : Same F H) (k : ∀ v F' H', New F H F' H' → Holds rt F' d v → Q v H') (h : Holds rt F d v) : Q v H := k v F H (New.refl s) h

/-! ### a new tuple, its object known -/
theorem TupF.new {F : Hp} {p : Addr} {o : Obj} {vs : List V} (ho : o.dict = none) : TupF (upd F p (.frz o (.tup vs))) p vs := ⟨o, upd_same, ho⟩
theorem finT {rt : V} {F H : Hp} {ds : List D} {vs : List V} {Q : VK} {p : Addr} {o : Obj} (s : Same F H) (k : ∀ v F' H', New F H F' H' → Holds rt F' (.tup ds) v → Q v H') (hp : H p = none) (ho : o.dict = none) (h : HoldsL rt F ds vs) :
    Q (.ref p) (upd H p (.frz o (.tup vs))) := k _ _ _ (New.upd s hp _) (by
  simp only [Holds]
  exact ⟨p, vs, rfl, TupF.new ho, h.mono (New.upd s hp _).sF⟩)
section
variable {X : Cx}
def rCatF (K : PySem.W.Frag) : R2 := fun x y H Q => ∃ a b xs ys, x = .ref a ∧ y = .ref b ∧ SqT K H a xs ∧ SqT K H b ys ∧ xs.length + ys.length ≤ sizeLine ∧
  (xs = [] → Q (.ref b) H) ∧ (xs ≠ [] → ys = [] → Q (.ref a) H) ∧ (xs ≠ [] → ys ≠ [] → ∀ p o, H p = none → o.dict = none → Q (.ref p) (upd H p (.frz o (.tup (xs ++ ys)))))
theorem op_catF : OpR X (binaryOp .Add) (rCatF X.K) := by
  intro pins s σ H x y v u Q I rx ry h
  obtain ⟨a, b, xs, ys, rfl, rfl, ha, hb, hz, q0, q1, q2⟩ := h
  cases rx
  cases ry
  obtain ⟨its, r1, p1, _⟩ := I.tuple ha
  obtain ⟨its2, r2, p2, _⟩ := I.tuple hb
  by_cases hx : xs = []
  · subst hx
    cases r1
    exact cat_tup0 p1 p2 ⟨.ref b, H, I, rfl, q0 rfl⟩
  · refine HT.cat_tup p1 p2 (fun z => hx (r1.nil_iff.mp z)) (fun z => ⟨.ref a, H, I, rfl, q1 hx (r2.nil_iff.mp z)⟩) (fun z => ?_) (by rw [← r1.length, ← r2.length]; exact hz)
    exact ⟨.ref s.heap.objs.size, _, laidT I (r1.append r2) (by rw [List.length_append]; exact hz) s.toks, rfl, q2 hx (fun w => z (r2.nil_iff.mpr w)) _ _ (I.hok.fresh (Nat.le_refl _)) rfl⟩
def rSlF (K : PySem.W.Frag) : V → Option Int → Option Int → Hp → VK → Prop := fun x lo hi H Q => ∃ a xs, x = .ref a ∧ SqT K H a xs ∧
  (cutV xs lo hi = xs → Q (.ref a) H) ∧ (∀ p o, H p = none → o.dict = none → Q (.ref p) (upd H p (.frz o (.tup (cutV xs lo hi)))))
theorem sl_tupF : L2.SlR X (rSlF X.K) := by
  intro pins s σ H x v vl vu lo hi sl Q I rx hs pl pu h
  obtain ⟨a, xs, rfl, hx, q1, q2⟩ := h
  cases rx
  obtain ⟨its, r, ht, hz⟩ := I.tuple hx
  have hlen : its.toArray.size = xs.length := by rw [List.size_toArray]; exact r.length.symm
  refine ⟨"tuple", _, PyProof.Rows.slot_tuple_getitem.lookup, ht.typeIs, ?_⟩
  by_cases hw : HT.sIx xs.length 0 lo = 0 ∧ HT.sIx xs.length xs.length hi = xs.length
  · refine getItem_tuple_whole ht hs pl pu (by rw [hlen]; exact hw) ⟨.ref a, H, I, rfl, q1 ?_⟩
    unfold cutV
    rw [hw.1, hw.2]; simp
  · refine HT.getItem_tuple_cut ht hs pl pu (by rw [hlen]; exact hw) ?_ (by rw [hlen]; exact hz)
    rw [hlen]
    exact ⟨.ref s.heap.objs.size, _, laidT I ((r.drop (HT.sIx xs.length 0 lo)).take (HT.sIx xs.length xs.length hi - HT.sIx xs.length 0 lo)) (Nat.le_trans (cutV_length xs lo hi) hz) s.toks, rfl, q2 _ _ (I.hok.fresh (Nat.le_refl _)) rfl⟩
theorem call_tuple_F : CallR X (.type "tuple") (fun xs H Q => ∃ p ys, xs = [.ref p] ∧ ((SqL X.K H p ys ∧ ∀ l o, H l = none → o.dict = none → Q (.ref l) (upd H l (.frz o (.tup ys)))) ∨ (SqT X.K H p ys ∧ Q (.ref p) H))) := by
  intro pins s σ H xs us Q I r h
  obtain ⟨p, ys, rfl, h⟩ := h
  obtain ⟨u, rfl, rx⟩ := vals1 r
  cases rx
  rcases h with ⟨hq, q⟩ | ⟨hq, q⟩
  · obtain ⟨its, r', pl, hz⟩ := I.list hq
    have hlen := r'.length
    refine PySem.call_tuple_list pl.isList (fun h' kp => ?_) (by simp only [List.size_toArray] <;> omega)
    have I1 : Inv X pins σ H { s with heap := h' } := I.kept (t' := s.toks) kp
    exact ⟨.ref h'.objs.size, _, laidT I1 r' hz s.toks, rfl, q _ _ (I1.hok.fresh (Nat.le_refl _)) rfl⟩
  · obtain ⟨its, r', pl, hz⟩ := I.tuple hq
    exact PySem.call_tuple_same pl ⟨.ref p, H, I, rfl, q⟩
end

/-! ### + - * // % -/
def addD : D → D → Option D
  | .int i, .int j => some (.int (i + j))
  | .str x, .str y => if x.length + y.length ≤ sizeLine then some (.str (x ++ y)) else none
  | .tup xs, .tup ys => if xs.length + ys.length ≤ sizeLine then some (.tup (xs ++ ys)) else none
  | .lst xs, .lst ys => if xs.length + ys.length ≤ sizeLine then some (.lst (xs ++ ys)) else none
  | _, _ => none
def catN : D → D → Option (List D)
  | .lst xs, .lst ys => if xs.length + ys.length ≤ sizeLine then some (xs ++ ys) else none
  | _, _ => none
theorem od_cat : OpN rCat catN := by
  intro rt F H dx dy ds x y Q s hx hy e k
  cases dx with
  | lst xs =>
    cases dy with
    | lst ys =>
      simp only [catN] at e
      split at e
      · rename_i hz
        simp only [Option.some.injEq] at e
        subst e
        obtain ⟨a, vs, rfl, f, l⟩ := hx.lst
        obtain ⟨b, us, rfl, f2, l2⟩ := hy.lst
        exact ⟨a, b, vs, us, rfl, rfl, f, f2, by rw [l.length, l2.length]; exact hz, fun p hp => k p _ hp (l.app l2)⟩
      · cases e
    | _ => cases e
  | _ => cases e
def rAddAll (K : PySem.W.Frag) : R2 := fun x y H Q => (rI0 fun i j => .int (i + j)) x y H Q ∨ (∃ i j, x = .str i ∧ y = .str j ∧ i.length + j.length ≤ sizeLine ∧ Q (.str (i ++ j)) H) ∨ rCatF K x y H Q ∨ rCat x y H Q
theorem op_addAll {X : Cx} : OpR X (binaryOp .Add) (rAddAll X.K) := op_add.or (op_add_str.or (op_catF.or op_cat))
theorem od_add {K : PySem.W.Frag} : OpD (rAddAll K) addD := by
  intro rt F H dx dy d x y Q s hx hy e k
  cases dx with
  | int i =>
    cases dy with
    | int j =>
      simp only [addD, Option.some.injEq] at e
      subst e
      exact .inl ⟨i, j, hx.int, hy.int, fin0 s k (by simp only [Holds])⟩
    | _ => cases e
  | str i =>
    cases dy with
    | str j =>
      simp only [addD] at e
      split at e
      · rename_i hz
        simp only [Option.some.injEq] at e
        subst e
        exact .inr (.inl ⟨i, j, hx.str, hy.str, hz, fin0 s k (by simp only [Holds])⟩)
      · cases e
    | _ => cases e
  | tup xs =>
    cases dy with
    | tup ys =>
      simp only [addD] at e
      split at e
      · rename_i hz
        simp only [Option.some.injEq] at e
        subst e
        obtain ⟨a, vs, rfl, f, l⟩ := hx.tup
        obtain ⟨b, us, rfl, f2, l2⟩ := hy.tup
        refine .inr (.inr (.inl ⟨a, b, vs, us, rfl, rfl, (f.mono s).sq, (f2.mono s).sq, by rw [l.length, l2.length]; exact hz, fun e => ?_, fun _ e => ?_, fun _ _ p o hp ho => finT s k hp ho (l.app l2)⟩))
        · subst e
          have : xs = [] := List.eq_nil_of_length_eq_zero l.length.symm
          subst this
          exact fin0 s k (by simp only [Holds]; exact ⟨b, us, rfl, f2, l2⟩)
        · subst e
          have : ys = [] := List.eq_nil_of_length_eq_zero l2.length.symm
          subst this
          rw [List.append_nil] at k
          exact fin0 s k (by simp only [Holds]; exact ⟨a, vs, rfl, f, l⟩)
      · cases e
    | _ => cases e
  | lst xs =>
    cases dy with
    | lst ys =>
      simp only [addD] at e
      refine .inr (.inr (.inr (od_cat.toD rt F H (.lst xs) (.lst ys) d x y Q s hx hy ?_ k)))
      simp only [catN]
      split at e
      · rename_i hz; rw [if_pos hz]; exact e
      · cases e
    | _ => cases e
  | _ => cases e
def subD : D → D → Option D
  | .int i, .int j => some (.int (i - j))
  | _, _ => none
theorem od_sub : OpD (rI0 fun i j => .int (i - j)) subD := by
  intro rt F H dx dy d x y Q s hx hy e k
  cases dx with
  | int i =>
    cases dy with
    | int j =>
      simp only [subD, Option.some.injEq] at e
      subst e
      exact ⟨i, j, hx.int, hy.int, fin0 s k (by simp only [Holds])⟩
    | _ => cases e
  | _ => cases e
def modD : D → D → Option D
  | .int i, .int j => if 0 < j then some (.int (i % j)) else none
  | _, _ => none
theorem od_mod : OpD (rI (fun _ j => 0 < j) fun i j => .int (i % j)) modD := by
  intro rt F H dx dy d x y Q s hx hy e k
  cases dx with
  | int i =>
    cases dy with
    | int j =>
      simp only [modD] at e
      split at e
      · rename_i hj
        simp only [Option.some.injEq] at e
        subst e
        exact ⟨i, j, hx.int, hy.int, hj, fin0 s k (by simp only [Holds])⟩
      · cases e
    | _ => cases e
  | _ => cases e
def divD : D → D → Option D
  | .int i, .int j => if 0 < j ∧ j < 1073741824 then some (.int (i / j)) else none
  | _, _ => none
theorem od_div : OpD (rI CDiv fun i j => .int (i / j)) divD := by
  intro rt F H dx dy d x y Q s hx hy e k
  cases dx with
  | int i =>
    cases dy with
    | int j =>
      simp only [divD] at e
      split at e
      · rename_i hj
        simp only [Option.some.injEq] at e
        subst e
        exact ⟨i, j, hx.int, hy.int, hj, fin0 s k (by simp only [Holds])⟩
      · cases e
    | _ => cases e
  | _ => cases e

/-! ### order and equality -/
def cmpD (p : Int → Int → Bool) : D → D → Option D
  | .int i, .int j => some (.bl (p i j))
  | _, _ => none
theorem od_cmp {p : Int → Int → Bool} : OpD (rI0 fun i j => .bl (p i j)) (cmpD p) := by
  intro rt F H dx dy d x y Q s hx hy e k
  cases dx with
  | int i =>
    cases dy with
    | int j =>
      simp only [cmpD, Option.some.injEq] at e
      subst e
      exact ⟨i, j, hx.int, hy.int, fin0 s k (by simp only [Holds])⟩
    | _ => cases e
  | _ => cases e
def cmpSD (p : List Nat → List Nat → Bool) : D → D → Option D
  | .str i, .str j => some (.bl (p i.cps.toList j.cps.toList))
  | _, _ => none
theorem od_cmpS {p : List Nat → List Nat → Bool} : OpD (fun x y H Q => ∃ i j : Str, x = .str i ∧ y = .str j ∧ Q (.bl (p i.cps.toList j.cps.toList)) H) (cmpSD p) := by
  intro rt F H dx dy d x y Q s hx hy e k
  cases dx with
  | str i =>
    cases dy with
    | str j =>
      simp only [cmpSD, Option.some.injEq] at e
      subst e
      exact ⟨i, j, hx.str, hy.str, fin0 s k (by simp only [Holds])⟩
    | _ => cases e
  | _ => cases e
def leD : D → D → Option D := fun x y => match cmpD (fun i j => decide (i ≤ j)) x y with
  | some d => some d
  | none => cmpSD (fun i j => !decide (j < i)) x y
def ltD : D → D → Option D := fun x y => match cmpD (fun i j => decide (i < j)) x y with
  | some d => some d
  | none => cmpSD (fun i j => decide (i < j)) x y
def gtD : D → D → Option D := fun x y => match cmpD (fun i j => decide (j < i)) x y with
  | some d => some d
  | none => cmpSD (fun i j => decide (j < i)) x y
def geD : D → D → Option D := fun x y => match cmpD (fun i j => decide (j ≤ i)) x y with
  | some d => some d
  | none => cmpSD (fun i j => !decide (i < j)) x y
section
variable {X : Cx}
def rLeA : R2 := fun x y H Q => (rI0 fun i j => .bl (decide (i ≤ j))) x y H Q ∨ (∃ i j : Str, x = .str i ∧ y = .str j ∧ Q (.bl (!decide (j.cps.toList < i.cps.toList))) H)
def rLtA : R2 := fun x y H Q => (rI0 fun i j => .bl (decide (i < j))) x y H Q ∨ (∃ i j : Str, x = .str i ∧ y = .str j ∧ Q (.bl (decide (i.cps.toList < j.cps.toList))) H)
def rGtA : R2 := fun x y H Q => (rI0 fun i j => .bl (decide (j < i))) x y H Q ∨ (∃ i j : Str, x = .str i ∧ y = .str j ∧ Q (.bl (decide (j.cps.toList < i.cps.toList))) H)
def rGeA : R2 := fun x y H Q => (rI0 fun i j => .bl (decide (j ≤ i))) x y H Q ∨ (∃ i j : Str, x = .str i ∧ y = .str j ∧ Q (.bl (!decide (i.cps.toList < j.cps.toList))) H)
theorem op_leA : OpR X (compareOp .LtE) rLeA := op_le.or op_le_str
theorem op_ltA : OpR X (compareOp .Lt) rLtA := op_lt.or op_lt_str
theorem op_gtA : OpR X (compareOp .Gt) rGtA := op_gt.or op_gt_str
theorem op_geA : OpR X (compareOp .GtE) rGeA := op_ge.or op_ge_str
theorem od_le : OpD rLeA leD := od_cmp.or (od_cmpS (p := fun i j => !decide (j < i)))
theorem od_lt : OpD rLtA ltD := od_cmp.or (od_cmpS (p := fun i j => decide (i < j)))
theorem od_gt : OpD rGtA gtD := od_cmp.or (od_cmpS (p := fun i j => decide (j < i)))
theorem od_ge : OpD rGeA geD := od_cmp.or (od_cmpS (p := fun i j => !decide (i < j)))
end
/-- data of plain kinds, at most so deep -/
def okD : Nat → D → Bool
  | _, .non => true
  | _, .bl _ => true
  | _, .int _ => true
  | _, .str x => PyData.strOk x
  | n + 1, .tup xs => xs.all (okD n)
  | n + 1, .lst xs => xs.all (okD n)
  | _, _ => false
mutual
def eqvD : D → D → Bool
  | .non, .non => true
  | .bl a, .bl b => a == b
  | .bl a, .int j => (if a then 1 else 0) == j
  | .int i, .bl b => i == (if b then 1 else 0)
  | .int i, .int j => i == j
  | .str x, .str y => x == y
  | .lst xs, .lst ys => eqvL xs ys
  | .tup xs, .tup ys => eqvL xs ys
  | _, _ => false
def eqvL : List D → List D → Bool
  | [], [] => true
  | x :: xs, y :: ys => eqvD x y && eqvL xs ys
  | _, _ => false
end
mutual
def toPy : D → PyData
  | .non => .none
  | .bl b => .bool b
  | .int i => .int i
  | .str x => .str x
  | .lst xs => .list (toPyL xs)
  | .tup xs => .tuple (toPyL xs)
  | .dic _ _ => .dict []
  | .set _ => .dict []
  | .tape => .dict []
def toPyL : List D → List PyData
  | [] => []
  | x :: xs => toPy x :: toPyL xs
end
theorem toPyL_map : ∀ xs : List D, toPyL xs = xs.map toPy
  | [] => rfl
  | x :: xs => by simp only [toPyL, List.map_cons, toPyL_map xs]
end DL

/-! The data layer, 8: pure operations, further. -/
namespace DL
open PySem L2

/-! ### == != in -/
mutual
theorem eqvD_py : ∀ x y : D, PyData.eqv (toPy x) (toPy y) = eqvD x y
  | .lst xs, y => by
    cases y with
    | lst ys => simp only [toPy, PyData.eqv, eqvD]; exact eqvL_py xs ys
    | _ => simp [toPy, PyData.eqv, eqvD]
  | .tup xs, y => by
    cases y with
    | tup ys => simp only [toPy, PyData.eqv, eqvD]; exact eqvL_py xs ys
    | _ => simp [toPy, PyData.eqv, eqvD]
  | .non, y => by cases y <;> simp [toPy, PyData.eqv, eqvD]
  | .bl _, y => by cases y <;> simp [toPy, PyData.eqv, eqvD]
  | .int _, y => by cases y <;> simp [toPy, PyData.eqv, eqvD]
  | .str _, y => by cases y <;> simp [toPy, PyData.eqv, eqvD]
  | .dic _ _, y => by cases y <;> simp [toPy, PyData.eqv, eqvD]
  | .set _, y => by cases y <;> simp [toPy, PyData.eqv, eqvD]
  | .tape, y => by cases y <;> simp [toPy, PyData.eqv, eqvD]
theorem eqvL_py : ∀ xs ys : List D, PyData.eqvAll (toPyL xs) (toPyL ys) = eqvL xs ys
  | [], [] => by simp [toPyL, PyData.eqvAll, eqvL]
  | [], _ :: _ => by simp [toPyL, PyData.eqvAll, eqvL]
  | _ :: _, [] => by simp [toPyL, PyData.eqvAll, eqvL]
  | x :: xs, y :: ys => by simp only [toPyL, PyData.eqvAll, eqvL]; rw [eqvD_py x y, eqvL_py xs ys]
end
theorem lay_all : ∀ {ds : List PyData}, PyData.canLayAll0 ds = ds.all (·.canLay0)
  | [] => by simp [PyData.canLayAll0]
  | d :: ds => by simp only [PyData.canLayAll0, List.all_cons, lay_all (ds := ds)]
theorem depth_all_le {n : Nat} : ∀ {ds : List PyData}, (∀ d ∈ ds, d.depth ≤ n) → PyData.depthAll ds ≤ n
  | [], _ => by simp [PyData.depthAll]
  | d :: ds, h => by
    simp only [PyData.depthAll]
    exact Nat.max_le.mpr ⟨h d List.mem_cons_self, depth_all_le fun x hx => h x (List.mem_cons_of_mem _ hx)⟩
theorem okD_lay : ∀ {n : Nat} {d : D}, okD n d = true → (toPy d).canLay0 = true ∧ (toPy d).depth ≤ n := by
  intro n
  induction n with
  | zero => intro d h; cases d <;> simp_all [okD, toPy, PyData.canLay0, PyData.depth]
  | succ n ih =>
    intro d h
    cases d with
    | tup xs =>
      simp only [okD, List.all_eq_true] at h
      simp only [toPy, PyData.canLay0, PyData.depth, toPyL_map, lay_all, List.all_eq_true]
      refine ⟨fun x hx => ?_, Nat.succ_le_succ (depth_all_le fun x hx => ?_)⟩
      · obtain ⟨y, hy, rfl⟩ := List.mem_map.mp hx; exact (ih (h y hy)).1
      · obtain ⟨y, hy, rfl⟩ := List.mem_map.mp hx; exact (ih (h y hy)).2
    | lst xs =>
      simp only [okD, List.all_eq_true] at h
      simp only [toPy, PyData.canLay0, PyData.depth, toPyL_map, lay_all, List.all_eq_true]
      refine ⟨fun x hx => ?_, Nat.succ_le_succ (depth_all_le fun x hx => ?_)⟩
      · obtain ⟨y, hy, rfl⟩ := List.mem_map.mp hx; exact (ih (h y hy)).1
      · obtain ⟨y, hy, rfl⟩ := List.mem_map.mp hx; exact (ih (h y hy)).2
    | _ => simp_all [okD, toPy, PyData.canLay0, PyData.depth]
theorem okD_shaped {n : Nat} {d : D} (h : okD n d = true) (hn : n ≤ 64) : SeqAt.shaped (toPy d) = true := by
  obtain ⟨h1, h2⟩ := okD_lay h
  show ((toPy d).canLay0 && decide ((toPy d).depth ≤ 64)) = true
  rw [h1, decide_eq_true (by omega)]; rfl
mutual
theorem Holds.dp {K : PySem.W.Frag} {rt : V} {H : Hp} : ∀ {d : D} {v : V} {n : Nat}, okD n d = true → Holds rt H d v → Dp K H v (toPy d)
  | .non, _, _, _, h => by simp only [Holds] at h; subst h; exact .non
  | .bl _, _, _, _, h => by simp only [Holds] at h; subst h; exact .bl _
  | .int _, _, _, _, h => by simp only [Holds] at h; subst h; exact .int _
  | .str _, _, _, _, h => by simp only [Holds] at h; subst h; exact .str _
  | .tup xs, _, 0, o, h => by simp [okD] at o
  | .lst xs, _, 0, o, h => by simp [okD] at o
  | .tup xs, _, n + 1, o, h => by
    simp only [Holds] at h
    obtain ⟨a, vs, rfl, f, l⟩ := h
    simp only [okD, List.all_eq_true] at o
    exact .tup f.sq (HoldsL.dp o l)
  | .lst xs, _, n + 1, o, h => by
    simp only [Holds] at h
    obtain ⟨a, vs, rfl, f, l⟩ := h
    simp only [okD, List.all_eq_true] at o
    exact .lst (SqL.of f) (HoldsL.dp o l)
  | .dic _ _, _, n, o, _ => by cases n <;> simp [okD] at o
  | .set _, _, n, o, _ => by cases n <;> simp [okD] at o
  | .tape, _, n, o, _ => by cases n <;> simp [okD] at o
theorem HoldsL.dp {K : PySem.W.Frag} {rt : V} {H : Hp} : ∀ {ds : List D} {vs : List V} {n : Nat}, (∀ x ∈ ds, okD n x = true) → HoldsL rt H ds vs → DpAll K H vs (toPyL ds)
  | [], _, _, _, h => by simp only [HoldsL] at h; subst h; exact .nil
  | d :: ds, _, n, o, h => by
    simp only [HoldsL] at h
    obtain ⟨v, r, rfl, h1, h2⟩ := h
    exact .cons (h1.dp (o d List.mem_cons_self)) (HoldsL.dp (fun x hx => o x (List.mem_cons_of_mem _ hx)) h2)
end
def scalD : D → D → Bool
  | .non, .non => true
  | .non, .int _ => true
  | .int _, .non => true
  | .non, .bl _ => true
  | .bl _, .non => true
  | .non, .str _ => true
  | .str _, .non => true
  | .int _, .int _ => true
  | .bl _, .bl _ => true
  | .str _, .str _ => true
  | .int _, .str _ => true
  | .str _, .int _ => true
  | .bl _, .str _ => true
  | .str _, .bl _ => true
  | _, _ => false
def eqD (x y : D) : Option D := if scalD x y || (okD 30 x && okD 30 y) then some (.bl (eqvD x y)) else none
def neD (x y : D) : Option D := if scalD x y || (okD 30 x && okD 30 y) then some (.bl (!eqvD x y)) else none
theorem scal_eq {rt : V} {F H : Hp} {dx dy : D} {x y : V} (hx : HB rt F H dx x) (hy : HB rt F H dy y) (h : scalD dx dy = true) : scal x y = true ∧ decide (x = y) = eqvD dx dy := by
  cases dx <;> cases dy <;> first | (simp [scalD] at h; done) | skip
  all_goals (simp only [HB, Holds] at hx hy; subst hx; subst hy)
  all_goals first
    | (refine ⟨rfl, ?_⟩; simp only [eqvD]; first | exact dec_int | exact dec_bl | exact dec_str | rfl | (exact decide_eq_false (by intro z; cases z)))
def rEqA (K : PySem.W.Frag) : R2 := fun x y H Q => rEq x y H Q ∨ rEqD K x y H Q
def rNeA (K : PySem.W.Frag) : R2 := fun x y H Q => rNe x y H Q ∨ rNeD K x y H Q
theorem room64 {k : Nat} {A : Around} (r : Room k A) : A.units + 64 < cLine := r.units
theorem op_eqA {X : Cx} {k : Nat} (hr : Room k X.A) : OpR X (compareOp .Eq) (rEqA X.K) := op_eq.or (op_eqD hr.units)
theorem op_neA {X : Cx} {k : Nat} (hr : Room k X.A) : OpR X (compareOp .NotEq) (rNeA X.K) := op_ne.or (op_neD hr.units)
theorem od_eq {K : PySem.W.Frag} : OpD (rEqA K) eqD := by
  intro rt F H dx dy d x y Q s hx hy e k
  unfold eqD at e
  split at e
  · rename_i h
    simp only [Option.some.injEq] at e
    subst e
    cases q : scalD dx dy with
    | true =>
      obtain ⟨h1, h2⟩ := scal_eq hx hy q
      exact .inl ⟨h1, fin0 s k (by rw [h2]; simp only [Holds])⟩
    | false =>
      rw [q, Bool.false_or, Bool.and_eq_true] at h
      refine .inr ⟨toPy dx, toPy dy, (hx.inH s).dp h.1, (hy.inH s).dp h.2, okD_shaped h.1 (by decide), okD_shaped h.2 (by decide), ?_⟩
      rw [eqvD_py]
      exact fin0 s k (by simp only [Holds])
  · cases e
theorem od_ne {K : PySem.W.Frag} : OpD (rNeA K) neD := by
  intro rt F H dx dy d x y Q s hx hy e k
  unfold neD at e
  split at e
  · rename_i h
    simp only [Option.some.injEq] at e
    subst e
    cases q : scalD dx dy with
    | true =>
      obtain ⟨h1, h2⟩ := scal_eq hx hy q
      exact .inl ⟨h1, fin0 s k (by rw [h2]; simp only [Holds])⟩
    | false =>
      rw [q, Bool.false_or, Bool.and_eq_true] at h
      refine .inr ⟨toPy dx, toPy dy, (hx.inH s).dp h.1, (hy.inH s).dp h.2, okD_shaped h.1 (by decide), okD_shaped h.2 (by decide), ?_⟩
      rw [eqvD_py]
      exact fin0 s k (by simp only [Holds])
  · cases e
def isNonD : D → Bool
  | .non => true
  | _ => false
theorem Holds.isN {rt : V} {F H : Hp} {d : D} {x : V} (h : HB rt F H d x) (hr : d = .tape → x ≠ .non) : decide (x = .non) = isNonD d := by
  cases d with
  | non => rw [h.non]; rfl
  | bl b => rw [h.bl]; rfl
  | int b => rw [h.int]; rfl
  | str b => rw [h.str]; rfl
  | tup b => obtain ⟨a, vs, e, _⟩ := h.tup; rw [e]; rfl
  | lst b => obtain ⟨a, vs, e, _⟩ := h.lst; rw [e]; rfl
  | dic ks b => obtain ⟨a, vs, e, _⟩ := h; rw [e]; rfl
  | set b => exact (show False from by simpa only [HB, Holds] using h).elim
  | tape => exact decide_eq_false (hr rfl)
def noTape : D → Bool
  | .tape => false
  | _ => true
/-- is None -/
def isND (x y : D) : Option D := match y with
  | .non => if noTape x then some (.bl (isNonD x)) else none
  | _ => none
def isntND (x y : D) : Option D := match y with
  | .non => if noTape x then some (.bl (!isNonD x)) else none
  | _ => none
theorem od_isN : OpD (fun x y H Q => y = .non ∧ Q (.bl (decide (x = .non))) H) isND := by
  intro rt F H dx dy d x y Q s hx hy e k
  cases dy with
  | non =>
    simp only [isND] at e
    split at e
    · rename_i nt
      simp only [Option.some.injEq] at e
      subst e
      have hn := Holds.isN hx (by rintro rfl; cases nt)
      exact ⟨hy.non, fin0 s k (by rw [hn]; simp only [Holds])⟩
    · cases e
  | _ => cases e
theorem od_isntN : OpD (fun x y H Q => y = .non ∧ Q (.bl (!decide (x = .non))) H) isntND := by
  intro rt F H dx dy d x y Q s hx hy e k
  cases dy with
  | non =>
    simp only [isntND] at e
    split at e
    · rename_i nt
      simp only [Option.some.injEq] at e
      subst e
      have hn := Holds.isN hx (by rintro rfl; cases nt)
      exact ⟨hy.non, fin0 s k (by rw [hn]; simp only [Holds])⟩
    · cases e
  | _ => cases e
/-- x in xs: lists, tuples, texts -/
def seqD : D → Option (List D)
  | .lst ds => some ds
  | .tup ds => some ds
  | _ => none
def memD (x : D) (ds : List D) : Bool := ds.any fun z => eqvD z x
def subS (x y : Str) : Bool := !(Builtin.Str.occurrences y x 0 y.length 1).isEmpty
def inD (x y : D) : Option D := match seqD y with
  | some ds => if okD 30 x && ds.all (okD 30) then some (.bl (memD x ds)) else none
  | none => match x, y with
    | .str a, .str b => some (.bl (subS a b))
    | _, _ => none
def notinD (x y : D) : Option D := match seqD y with
  | some ds => if okD 30 x && ds.all (okD 30) then some (.bl (!memD x ds)) else none
  | none => match x, y with
    | .str a, .str b => some (.bl (!subS a b))
    | _, _ => none
section
variable {X : Cx}
def rInSq (K : PySem.W.Frag) (ng : Bool) : R2 := fun x y H Q => ∃ d ds, Dp K H x d ∧ (Dp K H y (.list ds) ∨ Dp K H y (.tuple ds)) ∧ SeqAt.shaped d = true ∧ PyData.canLayAll0 ds = true ∧ Q (.bl (if ng then !ds.any fun z => PyData.eqv z d else ds.any fun z => PyData.eqv z d)) H
theorem room_in {k : Nat} {A : Around} {d : PyData} {ds : List PyData} (r : Room k A) (sd : SeqAt.shaped d = true) : A.units + 1 + min (PyData.depthAll ds) d.depth < cLine := by
  have h1 := SeqAt.depth_of_shaped sd
  have h2 := r.un
  have h3 : min (PyData.depthAll ds) d.depth ≤ d.depth := Nat.min_le_right _ _
  omega
theorem op_inSq {k : Nat} (hr : Room k X.A) : OpR X (compareOp .In) (rInSq X.K false) := by
  intro pins s σ H x y v u Q I rx ry h
  obtain ⟨d, ds, hd, he, sd, se, q⟩ := h
  obtain ⟨as, r1⟩ := Dp.reads I d x v hd rx
  rcases he with he | he
  · obtain ⟨bs, r2⟩ := Dp.reads I (.list ds) y u he ry
    exact SeqAt.in_list_reads r2 r1 se (SeqAt.canLay_of_shaped sd) (room_in hr sd) ⟨.bl _, H, I, rfl, q⟩
  · obtain ⟨bs, r2⟩ := Dp.reads I (.tuple ds) y u he ry
    exact SeqAt.in_tuple_reads r2 r1 se (SeqAt.canLay_of_shaped sd) (room_in hr sd) ⟨.bl _, H, I, rfl, q⟩
theorem op_notInSq {k : Nat} (hr : Room k X.A) : OpR X (compareOp .NotIn) (rInSq X.K true) := by
  intro pins s σ H x y v u Q I rx ry h
  obtain ⟨d, ds, hd, he, sd, se, q⟩ := h
  obtain ⟨as, r1⟩ := Dp.reads I d x v hd rx
  rcases he with he | he
  · obtain ⟨bs, r2⟩ := Dp.reads I (.list ds) y u he ry
    exact SeqAt.notIn_list_reads r2 r1 se (SeqAt.canLay_of_shaped sd) (room_in hr sd) ⟨.bl _, H, I, rfl, q⟩
  · obtain ⟨bs, r2⟩ := Dp.reads I (.tuple ds) y u he ry
    exact SeqAt.notIn_tuple_reads r2 r1 se (SeqAt.canLay_of_shaped sd) (room_in hr sd) ⟨.bl _, H, I, rfl, q⟩
def rInA (K : PySem.W.Frag) : R2 := fun x y H Q => rInSq K false x y H Q ∨ ∃ i j, x = .str i ∧ y = .str j ∧ Q (.bl (!(Builtin.Str.occurrences j i 0 j.length 1).isEmpty)) H
def rNotInA (K : PySem.W.Frag) : R2 := fun x y H Q => rInSq K true x y H Q ∨ ∃ i j, x = .str i ∧ y = .str j ∧ Q (.bl (!(!(Builtin.Str.occurrences j i 0 j.length 1).isEmpty))) H
theorem op_inA {k : Nat} (hr : Room k X.A) : OpR X (compareOp .In) (rInA X.K) := (op_inSq hr).or op_in_str
theorem op_notInA {k : Nat} (hr : Room k X.A) : OpR X (compareOp .NotIn) (rNotInA X.K) := (op_notInSq hr).or op_notIn_str
end
theorem mem_py {x : D} {ds : List D} : ((toPyL ds).any fun z => PyData.eqv z (toPy x)) = memD x ds := by
  rw [toPyL_map, List.any_map]
  unfold memD
  congr 1
  funext z
  exact eqvD_py z x
theorem HB.dpS {K : PySem.W.Frag} {rt : V} {F H : Hp} {d : D} {ds : List D} {v : V} (s : Same F H) (h : HB rt F H d v) (e : seqD d = some ds) (o : ∀ x ∈ ds, okD 30 x = true) : Dp K H v (.list (toPyL ds)) ∨ Dp K H v (.tuple (toPyL ds)) := by
  cases d with
  | lst xs =>
    simp only [seqD, Option.some.injEq] at e
    subst e
    obtain ⟨a, vs, rfl, f, l⟩ := h.lst
    exact .inl (.lst (SqL.of f) (HoldsL.dp o (l.mono s)))
  | tup xs =>
    simp only [seqD, Option.some.injEq] at e
    subst e
    obtain ⟨a, vs, rfl, f, l⟩ := h.tup
    exact .inr (.tup (f.mono s).sq (HoldsL.dp o (l.mono s)))
  | _ => cases e
theorem layAll_of {ds : List D} (o : ∀ x ∈ ds, okD 30 x = true) : PyData.canLayAll0 (toPyL ds) = true := by
  rw [lay_all, toPyL_map, List.all_eq_true]
  intro x hx
  obtain ⟨y, hy, rfl⟩ := List.mem_map.mp hx
  exact (okD_lay (o y hy)).1
theorem od_in {K : PySem.W.Frag} : OpD (rInA K) inD := by
  intro rt F H dx dy d x y Q s hx hy e k
  unfold inD at e
  cases q : seqD dy with
  | some ds =>
    rw [q] at e
    simp only at e
    split at e
    · rename_i h
      simp only [Option.some.injEq] at e
      subst e
      rw [Bool.and_eq_true, List.all_eq_true] at h
      refine .inl ⟨toPy dx, toPyL ds, (hx.inH s).dp h.1, hy.dpS s q h.2, okD_shaped h.1 (by decide), layAll_of h.2, ?_⟩
      rw [if_neg Bool.false_ne_true, mem_py]
      exact fin0 s k (by simp only [Holds])
    · cases e
  | none =>
    rw [q] at e
    simp only at e
    split at e
    · simp only [Option.some.injEq] at e
      subst e
      exact .inr ⟨_, _, hx.str, hy.str, fin0 s k (by simp only [Holds, subS])⟩
    · cases e
theorem od_notin {K : PySem.W.Frag} : OpD (rNotInA K) notinD := by
  intro rt F H dx dy d x y Q s hx hy e k
  unfold notinD at e
  cases q : seqD dy with
  | some ds =>
    rw [q] at e
    simp only at e
    split at e
    · rename_i h
      simp only [Option.some.injEq] at e
      subst e
      rw [Bool.and_eq_true, List.all_eq_true] at h
      refine .inl ⟨toPy dx, toPyL ds, (hx.inH s).dp h.1, hy.dpS s q h.2, okD_shaped h.1 (by decide), layAll_of h.2, ?_⟩
      rw [if_pos rfl, mem_py]
      exact fin0 s k (by simp only [Holds])
    · cases e
  | none =>
    rw [q] at e
    simp only at e
    split at e
    · simp only [Option.some.injEq] at e
      subst e
      exact .inr ⟨_, _, hx.str, hy.str, fin0 s k (by simp only [Holds, subS])⟩
    · cases e

/-! ### subscripts, slices -/
def idxD : D → D → Option D
  | .lst ds, .int i => atI ds i
  | .tup ds, .int i => atI ds i
  | .str z, .int i => if z.length ≤ sizeLine then match atI z.cps.toList i with
    | some c => some (.str ⟨#[c]⟩)
    | none => none
    else none
  | _, _ => none
theorem HoldsL.atI {rt : V} {F : Hp} {ds : List D} {vs : List V} {i : Int} {d : D} (h : HoldsL rt F ds vs) (e : atI ds i = some d) : ∃ v, L2.atI vs i = some v ∧ Holds rt F d v := by
  unfold L2.atI at e ⊢
  rw [h.length]
  cases q : ixN ds.length i with
  | none => rw [q] at e; cases e
  | some j =>
    rw [q] at e
    simp only [Option.bind_some] at e ⊢
    exact h.get e
theorem od_idx {K : PySem.W.Frag} : OpD (rIx K) idxD := by
  intro rt F H dx dy d x y Q s hx hy e k
  cases dy with
  | int i =>
    cases dx with
    | lst ds =>
      simp only [idxD] at e
      obtain ⟨a, vs, rfl, f, l⟩ := hx.lst
      obtain ⟨v, ev, hv⟩ := l.atI e
      exact .inl ⟨a, vs, i, v, rfl, hy.int, SqL.of f, ev, fin0 s k hv⟩
    | tup ds =>
      simp only [idxD] at e
      obtain ⟨a, vs, rfl, f, l⟩ := hx.tup
      obtain ⟨v, ev, hv⟩ := l.atI e
      exact .inr (.inl ⟨a, vs, i, v, rfl, hy.int, (f.mono s).sq, ev, fin0 s k hv⟩)
    | str z =>
      simp only [idxD] at e
      split at e
      · rename_i hz
        cases q : L2.atI z.cps.toList i with
        | none => rw [q] at e; cases e
        | some c =>
          rw [q] at e
          simp only [Option.some.injEq] at e
          subst e
          exact .inr (.inr ⟨z, i, c, hx.str, hy.int, hz, q, fin0 s k (by simp only [Holds])⟩)
      · cases e
    | _ => cases e
  | _ => cases dx <;> cases e
def cutD (xs : List D) (lo hi : Option Int) : List D := (xs.drop (HT.sIx xs.length 0 lo)).take (HT.sIx xs.length xs.length hi - HT.sIx xs.length 0 lo)
theorem HoldsL.cut {rt : V} {F : Hp} {ds : List D} {vs : List V} (h : HoldsL rt F ds vs) (lo hi : Option Int) : HoldsL rt F (cutD ds lo hi) (cutV vs lo hi) := by
  unfold cutD cutV
  rw [h.length]
  exact (h.drop _).take _
def sliceD : D → Option Int → Option Int → Option D
  | .lst ds, lo, hi => some (.lst (cutD ds lo hi))
  | .tup ds, lo, hi => some (.tup (cutD ds lo hi))
  | .str z, lo, hi => if z.length ≤ sizeLine then some (.str (cutS z lo hi)) else none
  | _, _, _ => none
def rSlAll (K : PySem.W.Frag) : V → Option Int → Option Int → Hp → VK → Prop := fun x lo hi H Q => rSlL K x lo hi H Q ∨ rSlF K x lo hi H Q ∨ rSlS x lo hi H Q
theorem sl_all {X : Cx} : L2.SlR X (rSlAll X.K) := sl_list.or (sl_tupF.or sl_str)
theorem sd_all {K : PySem.W.Frag} : SlD (rSlAll K) sliceD := by
  intro rt F H dx d x lo hi Q s hx e k
  cases dx with
  | lst ds =>
    simp only [sliceD, Option.some.injEq] at e
    subst e
    obtain ⟨a, vs, rfl, f, l⟩ := hx.lst
    refine .inl ⟨a, vs, rfl, SqL.of f, fun p hp => k _ _ _ (New.upd s hp _) ?_⟩
    simp only [Holds]
    exact ⟨p, _, rfl, upd_same, (l.cut lo hi).mono (New.upd s hp _).sF⟩
  | tup ds =>
    simp only [sliceD, Option.some.injEq] at e
    subst e
    obtain ⟨a, vs, rfl, f, l⟩ := hx.tup
    refine .inr (.inl ⟨a, vs, rfl, (f.mono s).sq, fun ec => ?_, fun p o hp ho => finT s k hp ho (l.cut lo hi)⟩)
    refine fin0 s k ?_
    simp only [Holds]
    exact ⟨a, vs, rfl, f, by rw [← ec]; exact l.cut lo hi⟩
  | str z =>
    simp only [sliceD] at e
    split at e
    · rename_i hz
      simp only [Option.some.injEq] at e
      subst e
      exact .inr (.inr ⟨z, hx.str, hz, fin0 s k (by simp only [Holds])⟩)
    · cases e
  | _ => cases e

/-! ### built-in functions -/
def len1 : List D → Option D
  | [.lst ds] => some (.int ds.length)
  | [.tup ds] => some (.int ds.length)
  | [.str z] => if z.length ≤ sizeLine then some (.int z.length) else none
  | _ => none
theorem cd_len {K : PySem.W.Frag} : CallD (fun xs H Q => ∃ x n, xs = [x] ∧ LenV K x H n ∧ Q (.int n) H) len1 := by
  intro rt F H ds d vs Q s h e k
  match ds, e with
  | [.lst xs], e =>
    simp only [len1, Option.some.injEq] at e
    subst e
    obtain ⟨v, rfl, hv⟩ := hbl1 h
    obtain ⟨a, us, rfl, f, l⟩ := hv.lst
    exact ⟨_, us.length, rfl, .inl ⟨us, SqL.of f, rfl⟩, fin0 s k (by simp only [Holds, l.length])⟩
  | [.tup xs], e =>
    simp only [len1, Option.some.injEq] at e
    subst e
    obtain ⟨v, rfl, hv⟩ := hbl1 h
    obtain ⟨a, us, rfl, f, l⟩ := hv.tup
    exact ⟨_, us.length, rfl, .inr ⟨us, (f.mono s).sq, rfl⟩, fin0 s k (by simp only [Holds, l.length])⟩
  | [.str z], e =>
    simp only [len1] at e
    split at e
    · rename_i hz
      simp only [Option.some.injEq] at e
      subst e
      obtain ⟨v, rfl, hv⟩ := hbl1 h
      rw [hv.str]
      exact ⟨_, z.length, rfl, ⟨hz, rfl⟩, fin0 s k (by simp only [Holds])⟩
    · cases e
def all1 : List D → Option D
  | [.lst ds] => (blsD ds).map fun bs => .bl (bs.all id)
  | _ => none
def any1 : List D → Option D
  | [.lst ds] => (blsD ds).map fun bs => .bl (bs.any id)
  | _ => none
def sum1 : List D → Option D
  | [.lst ds] => (intsD ds).map fun ns => .int ns.sum
  | _ => none
theorem cd_all {K : PySem.W.Frag} : CallD (rAll K) all1 := by
  intro rt F H ds d vs Q s h e k
  match ds, e with
  | [.lst xs], e =>
    simp only [all1] at e
    cases q : blsD xs with
    | none => rw [q] at e; cases e
    | some bs =>
      rw [q] at e
      simp only [Option.map_some, Option.some.injEq] at e
      subst e
      have ex := blsD_inv q
      subst ex
      obtain ⟨v, rfl, hv⟩ := hbl1 h
      obtain ⟨a, us, rfl, f, l⟩ := hv.lst
      have eu := holds_bls l
      subst eu
      exact ⟨a, bs, rfl, SqL.of f, fin0 s k (by simp only [Holds])⟩
theorem cd_any {K : PySem.W.Frag} : CallD (rAny K) any1 := by
  intro rt F H ds d vs Q s h e k
  match ds, e with
  | [.lst xs], e =>
    simp only [any1] at e
    cases q : blsD xs with
    | none => rw [q] at e; cases e
    | some bs =>
      rw [q] at e
      simp only [Option.map_some, Option.some.injEq] at e
      subst e
      have ex := blsD_inv q
      subst ex
      obtain ⟨v, rfl, hv⟩ := hbl1 h
      obtain ⟨a, us, rfl, f, l⟩ := hv.lst
      have eu := holds_bls l
      subst eu
      exact ⟨a, bs, rfl, SqL.of f, fin0 s k (by simp only [Holds])⟩
theorem cd_sum {K : PySem.W.Frag} : CallD (rSum K) sum1 := by
  intro rt F H ds d vs Q s h e k
  match ds, e with
  | [.lst xs], e =>
    simp only [sum1] at e
    cases q : intsD xs with
    | none => rw [q] at e; cases e
    | some bs =>
      rw [q] at e
      simp only [Option.map_some, Option.some.injEq] at e
      subst e
      have ex := intsD_inv q
      subst ex
      obtain ⟨v, rfl, hv⟩ := hbl1 h
      obtain ⟨a, us, rfl, f, l⟩ := hv.lst
      have eu := holds_ints l
      subst eu
      exact ⟨a, bs, rfl, SqL.of f, fin0 s k (by simp only [Holds])⟩
/-- list(x), tuple(x) -/
def list1 : List D → Option (List D)
  | [.lst ds] => some ds
  | [.tup ds] => some ds
  | _ => none
theorem cn_list {K : PySem.W.Frag} : CallN (fun xs H Q => ∃ p ys, xs = [.ref p] ∧ (SqL K H p ys ∨ SqT K H p ys) ∧ ∀ l, H l = none → Q (.ref l) (upd H l (.lst ys))) list1 := by
  intro rt F H ds d vs Q s h e k
  match ds, e with
  | [.lst xs], e =>
    simp only [list1, Option.some.injEq] at e
    subst e
    obtain ⟨v, rfl, hv⟩ := hbl1 h
    obtain ⟨a, us, rfl, f, l⟩ := hv.lst
    exact ⟨a, us, rfl, .inl (SqL.of f), fun p hp => k p us hp l⟩
  | [.tup xs], e =>
    simp only [list1, Option.some.injEq] at e
    subst e
    obtain ⟨v, rfl, hv⟩ := hbl1 h
    obtain ⟨a, us, rfl, f, l⟩ := hv.tup
    exact ⟨a, us, rfl, .inr (f.mono s).sq, fun p hp => k p us hp l⟩
def tuple1 : List D → Option D
  | [.lst ds] => some (.tup ds)
  | [.tup ds] => some (.tup ds)
  | _ => none
theorem cd_tuple {K : PySem.W.Frag} : CallD (fun xs H Q => ∃ p ys, xs = [.ref p] ∧ ((SqL K H p ys ∧ ∀ l o, H l = none → o.dict = none → Q (.ref l) (upd H l (.frz o (.tup ys)))) ∨ (SqT K H p ys ∧ Q (.ref p) H))) tuple1 := by
  intro rt F H ds d vs Q s h e k
  match ds, e with
  | [.lst xs], e =>
    simp only [tuple1, Option.some.injEq] at e
    subst e
    obtain ⟨v, rfl, hv⟩ := hbl1 h
    obtain ⟨a, us, rfl, f, l⟩ := hv.lst
    exact ⟨a, us, rfl, .inl ⟨SqL.of f, fun p o hp ho => finT s k hp ho l⟩⟩
  | [.tup xs], e =>
    simp only [tuple1, Option.some.injEq] at e
    subst e
    obtain ⟨v, rfl, hv⟩ := hbl1 h
    obtain ⟨a, us, rfl, f, l⟩ := hv.tup
    exact ⟨a, us, rfl, .inr ⟨(f.mono s).sq, fin0 s k (by simp only [Holds]; exact ⟨a, us, rfl, f, l⟩)⟩⟩
def int1 : List D → Option D
  | [.int i] => some (.int i)
  | [.bl b] => some (.int (if b then 1 else 0))
  | _ => none
theorem cd_int : CallD (fun xs H Q => (∃ i, xs = [.int i] ∧ Q (.int i) H) ∨ ∃ k, xs = [.bl k] ∧ Q (.int (if k then 1 else 0)) H) int1 := by
  intro rt F H ds d vs Q s h e k
  match ds, e with
  | [.int i], e =>
    simp only [int1, Option.some.injEq] at e
    subst e
    obtain ⟨v, rfl, hv⟩ := hbl1 h
    rw [hv.int]
    exact .inl ⟨i, rfl, fin0 s k (by simp only [Holds])⟩
  | [.bl b], e =>
    simp only [int1, Option.some.injEq] at e
    subst e
    obtain ⟨v, rfl, hv⟩ := hbl1 h
    rw [hv.bl]
    exact .inr ⟨b, rfl, fin0 s k (by simp only [Holds])⟩
def min2 : List D → Option D
  | [.int i, .int j] => some (.int (if j < i then j else i))
  | _ => none
def max2 : List D → Option D
  | [.int i, .int j] => some (.int (if j > i then j else i))
  | _ => none
theorem cd_min2 : CallD (fun xs H Q => ∃ i j, xs = [.int i, .int j] ∧ Q (.int (if j < i then j else i)) H) min2 := by
  intro rt F H ds d vs Q s h e k
  match ds, e with
  | [.int i, .int j], e =>
    simp only [min2, Option.some.injEq] at e
    subst e
    obtain ⟨v, w, rfl, hv, hw⟩ := hbl2 h
    rw [hv.int, hw.int]
    exact ⟨i, j, rfl, fin0 s k (by simp only [Holds])⟩
theorem cd_max2 : CallD (fun xs H Q => ∃ i j, xs = [.int i, .int j] ∧ Q (.int (if j > i then j else i)) H) max2 := by
  intro rt F H ds d vs Q s h e k
  match ds, e with
  | [.int i, .int j], e =>
    simp only [max2, Option.some.injEq] at e
    subst e
    obtain ⟨v, w, rfl, hv, hw⟩ := hbl2 h
    rw [hv.int, hw.int]
    exact ⟨i, j, rfl, fin0 s k (by simp only [Holds])⟩
def max1 : List D → Option D
  | [.lst ds] => match intsD ds with
    | some (n :: ns) => some (.int (ns.foldl max n))
    | _ => none
  | _ => none
theorem foldl_max : ∀ (ns : List Int) (n : Int), ns.foldl max n ∈ n :: ns ∧ ∀ y ∈ n :: ns, y ≤ ns.foldl max n
  | [], n => by simp
  | m :: ns, n => by
    obtain ⟨h1, h2⟩ := foldl_max ns (max n m)
    simp only [List.foldl_cons]
    refine ⟨?_, fun y hy => ?_⟩
    · rcases List.mem_cons.mp h1 with e | e
      · rw [e]
        rcases Int.le_total n m with q | q
        · rw [Int.max_eq_right q]; simp
        · rw [Int.max_eq_left q]; simp
      · exact List.mem_cons_of_mem _ (List.mem_cons_of_mem _ e)
    · have h0 := h2 (max n m) List.mem_cons_self
      simp only [List.mem_cons] at hy
      rcases hy with e | e | e
      · rw [e]; exact Int.le_trans (Int.le_max_left _ _) h0
      · rw [e]; exact Int.le_trans (Int.le_max_right _ _) h0
      · exact h2 y (List.mem_cons_of_mem _ e)
theorem cd_max1 {K : PySem.W.Frag} : CallD (rMax K) max1 := by
  intro rt F H ds d vs Q s h e k
  match ds, e with
  | [.lst xs], e =>
    simp only [max1] at e
    cases q : intsD xs with
    | none => rw [q] at e; cases e
    | some ns =>
      rw [q] at e
      cases ns with
      | nil => cases e
      | cons n ns =>
        simp only [Option.some.injEq] at e
        subst e
        have ex := intsD_inv q
        subst ex
        obtain ⟨v, rfl, hv⟩ := hbl1 h
        obtain ⟨a, us, rfl, f, l⟩ := hv.lst
        have eu := holds_ints l
        subst eu
        refine ⟨a, n :: ns, rfl, SqL.of f, by simp, fun m hm hle => ?_⟩
        obtain ⟨h1, h2⟩ := foldl_max ns n
        have : m = ns.foldl max n := Int.le_antisymm (h2 m hm) (hle _ h1)
        subst this
        exact fin0 s k (by simp only [Holds])
/-- max of two ints, or of one list of ints -/
def maxA (ds : List D) : Option D := match max2 ds with
  | some d => some d
  | none => max1 ds
theorem CallD.or {r r' : List V → Hp → VK → Prop} {g g' : List D → Option D} (h : CallD r g) (h' : CallD r' g') : CallD (fun xs H Q => r xs H Q ∨ r' xs H Q) fun x => match g x with
    | some d => some d
    | none => g' x := by
  intro rt F H ds d vs Q s hx e k
  dsimp only at e
  cases q : g ds with
  | some d' => rw [q] at e; cases e; exact .inl (h rt F H ds d vs Q s hx q k)
  | none => rw [q] at e; exact .inr (h' rt F H ds d vs Q s hx e k)
end DL

/-! The data layer, 9: lists that a slot owns, changed. -/
namespace DL
open PySem L2

section
variable {Z : TSys} {ad : Z.Ad} {env : List Sl} {T : Z.T} {F H : Hp} {σ : L2.St} {A : List Addr}
theorem set_list_self {α : Type} : ∀ {l : List α} {i : Nat} {x : α}, l[i]? = some x → l.set i x = l := set_self
theorem Rel.mutL (R : Rel Z ad env T F σ H A) {i : Nat} {ds : List D} (hi : env[i]? = some (.ow 1 (.lst ds))) :
    ∃ p vs, σ[i]? = some (some (.ref p)) ∧ H p = some (.lst vs) ∧ HoldsL (Z.root ad) F ds vs ∧
      ∀ ds' vs', HoldsL (Z.root ad) F ds' vs' → Rel Z ad (env.set i (.ow 1 (.lst ds'))) T F σ (L2.upd H p (.lst vs')) A ∧ Stp Z ad A F H A F (L2.upd H p (.lst vs')) := by
  obtain ⟨o, A0, A1, A2, e1, eA, ⟨v, eo, hv⟩, re⟩ := R.env.split hi
  subst eA eo
  obtain ⟨p, B, e, f, eA, vs, hp, hl⟩ := hv
  obtain ⟨hl', eB⟩ := OwnL.zero hl
  subst e eA eB
  have nd := R.nd
  rw [List.nodup_append, List.nodup_append] at nd
  have pin : p ∈ A0 ++ [p] ++ A2 := by simp
  refine ⟨p, vs, e1, hp, hl', fun ds' vs' h' => ?_⟩
  have off : ∀ a ∈ A0 ++ A2, a ≠ p := fun a ha z => by
    subst z
    rcases List.mem_append.mp ha with z | z
    · exact nd.1.2.2 a z a (by simp) rfl
    · exact nd.2.2 a (by simp) a z rfl
  have e2 := re (F' := F) (H' := L2.upd H p (.lst vs')) (y := .ow 1 (.lst ds')) (o' := some (.ref p)) (B := [p]) (Same.refl _) (fun a ha => ⟨L2.upd_ne (off a ha), ?_⟩) ⟨.ref p, rfl, p, [], rfl, f, rfl, vs', L2.upd_same, OwnL.ofHolds h'⟩
  · rw [set_self e1] at e2
    refine ⟨⟨fun a o z => ?_, e2, R.nd, Z.loc R.tp fun b hb => L2.upd_ne fun z => (R.tf b hb).2 (z ▸ pin), R.tf⟩, Same.refl _, fun a h => .inl h, fun a h => .inl h, fun a o z hA _ => ?_, fun a o z => ?_⟩
    · rw [L2.upd_ne fun w => by rw [w, f] at z; cases z]
      exact R.same _ _ z
    · rw [L2.upd_ne fun (w : a = p) => hA (by rw [w]; exact pin)]; exact z
    · by_cases w : a = p
      · subst w; exact ⟨_, L2.upd_same⟩
      · rw [L2.upd_ne w]; exact ⟨o, z⟩
  · refine (R.at a ?_).1
    rcases List.mem_append.mp ha with z | z
    · simp [z]
    · simp [z]
end
def MutD (r : V → List V → Hp → VK → Prop) (u : List D → List D → Option (D × List D)) : Prop := ∀ (rt : V) (F H : Hp) (p : Addr) (vs : List V) (ds as : List D) (us : List V) (d : D) (ds' : List D) (Q : VK), Same F H → H p = some (.lst vs) → HoldsL rt F ds vs → HoldsL rt F as us → u as ds = some (d, ds') →
  (∀ v vs', Holds rt F d v → HoldsL rt F ds' vs' → Q v (upd H p (.lst vs'))) → r (.ref p) us H Q
def isL1 (env : List Sl) (i : Nat) : Bool := match env[i]? with
  | some (.ow 1 (.lst _)) => true
  | _ => false
def mmut {Z : TSys} (i : Nat) (u : List D → List D → Option (D × List D)) (as : ML Z) : M Z := fun e t => if isL1 e i then match as e t with
  | some (xs, e1, t1) => match e1[i]? with
    | some (.ow 1 (.lst ds)) => match u xs ds with
      | some (d, ds') => some (d, e1.set i (.ow 1 (.lst ds')), t1)
      | none => none
    | _ => none
  | none => none
  else none
section
variable {Z : TSys} {X : Cx} {x name : Str} {xpos apos cpos : Pos} {e : Expr} {es : List Expr} {id : String} {r : V → List V → Hp → VK → Prop} {u : List D → List D → Option (D × List D)} {as : ML Z} {i : Nat}
theorem isL1_get {env : List Sl} (h : isL1 env i = true) : ∃ ds, env[i]? = some (.ow 1 (.lst ds)) := by
  unfold isL1 at h
  split at h
  · rename_i ds q; exact ⟨ds, q⟩
  · cases h
theorem mut_core (hd : MutD r u) {σ : L2.St} {H : Hp} {Q : VK} (h : den Z (mmut i u as) σ H Q) : ∃ v, σ[i]? = some (some v) ∧ tyV X.K "list" v H ∧ denL Z as σ H fun xs H2 => r v xs H2 Q := by
  obtain ⟨ad, env, T, F, A, d, env', T', R, e, k⟩ := h
  unfold mmut at e
  by_cases hi : isL1 env i = true
  · rw [if_pos hi] at e
    obtain ⟨ds0, q0⟩ := isL1_get hi
    obtain ⟨p, vs0, e1, hp0, _, _⟩ := R.mutL q0
    refine ⟨.ref p, e1, .inl ⟨rfl, _, SqL.of hp0⟩, ?_⟩
    cases q : as env T with
    | none => rw [q] at e; cases e
    | some z =>
      obtain ⟨xs, en, t1⟩ := z
      rw [q] at e
      simp only at e
      cases q1 : en[i]? with
      | none => rw [q1] at e; cases e
      | some sl =>
        rw [q1] at e
        match sl, q1, e with
        | .ow 1 (.lst ds), q1, e =>
          simp only at e
          cases q2 : u xs ds with
          | none => rw [q2] at e; cases e
          | some w =>
            obtain ⟨d1, ds'⟩ := w
            rw [q2] at e
            simp only [Option.some.injEq, Prod.mk.injEq] at e
            obtain ⟨rfl, rfl, rfl⟩ := e
            refine ⟨ad, env, T, F, A, xs, en, t1, R, q, fun us H' F' A' R' S' hu => ?_⟩
            obtain ⟨p', vs, e2, hp, hl, go⟩ := R'.mutL q1
            rw [e1] at e2
            cases e2
            refine hd _ F' H' p vs ds xs us d1 ds' Q R'.same hp hl hu q2 fun v vs' hv hl' => ?_
            obtain ⟨R2, S2⟩ := go ds' vs' hl'
            exact k v _ F' A' R2 (R'.st S' S2 R2) hv
  · rw [if_neg hi] at e; cases e
theorem ie_mut (slot : Slot "list" name id) (hty : typeOf (.builtin id) = pure (.type "method_descriptor")) (hm : MtR X id r) (hd : MutD r u) (ho : PE X (.Name x xpos) (tVar i)) (ha : IsL Z X (e :: es) as)
    (hbase : attributeBase (.Name x xpos) name X.env (eval (.Name x xpos) X.env) = eval (.Name x xpos) X.env := by rfl)
    (hfew : ((backTo cpos (starEach (e :: es) X.env)).all (fun x => !x.1) && (backToKw cpos (keywordEach [] X.env)).all (fun x => x.1.isSome)
      && decide ((e :: es).length + ([] : List Keyword).length + (if ([] : List Keyword).isEmpty then 0 else 1) < 30)) = true := by rfl)
    (hline : (apos.endLine == cpos.line) = true := by rfl) (hs : starEach (e :: es) X.env = (false, eval e X.env) :: starEach es X.env := by rfl) (hplain : (backTo cpos (starEach es X.env)).any (·.1) = false := by rfl) :
    IsE Z X (.Call (.Attribute (.Name x xpos) name apos) (e :: es) [] cpos) (mmut i u as) :=
  ⟨PE.imp (pe_bm PySem.F.plainAttrs_list slot hty hm ho ha.pa hbase hfew hline hs hplain) fun σ H Q h => mut_core (X := X) hd h⟩
theorem ie_mut0 (slot : Slot "list" name id) (hty : typeOf (.builtin id) = pure (.type "method_descriptor")) (hm : MtR X id r) (hd : MutD r u) (ho : PE X (.Name x xpos) (tVar i))
    (hbase : attributeBase (.Name x xpos) name X.env (eval (.Name x xpos) X.env) = eval (.Name x xpos) X.env := by rfl) (hline : (apos.endLine == cpos.line) = true := by rfl) :
    IsE Z X (.Call (.Attribute (.Name x xpos) name apos) [] [] cpos) (mmut i u mnil) :=
  ⟨PE.imp (pe_bm0 PySem.F.plainAttrs_list slot hty hm ho hbase hline) fun σ H Q h => by
    obtain ⟨v, e1, ty, q⟩ := mut_core (X := X) hd h
    refine ⟨v, e1, ty, ?_⟩
    obtain ⟨ad, env, T, F, A, os, env', T', R, e, k⟩ := q
    simp only [mnil, Option.some.injEq, Prod.mk.injEq] at e
    obtain ⟨rfl, rfl, rfl⟩ := e
    exact k [] H F A R Stp.refl .nil⟩
end
/-! ### append, extend, insert, pop -/
theorem hl1 {rt : V} {F : Hp} {d : D} {vs : List V} (h : HoldsL rt F [d] vs) : ∃ v, vs = [v] ∧ Holds rt F d v := by
  simp only [HoldsL] at h
  obtain ⟨v, r, rfl, h1, rfl⟩ := h
  exact ⟨v, rfl, h1⟩
theorem hl2 {rt : V} {F : Hp} {d e : D} {vs : List V} (h : HoldsL rt F [d, e] vs) : ∃ v w, vs = [v, w] ∧ Holds rt F d v ∧ Holds rt F e w := by
  simp only [HoldsL] at h
  obtain ⟨v, r, rfl, h1, w, r2, rfl, h2, rfl⟩ := h
  exact ⟨v, w, rfl, h1, h2⟩
def uAppend : List D → List D → Option (D × List D)
  | [d], ds => if ds.length < sizeLine then some (.non, ds ++ [d]) else none
  | _, _ => none
theorem ud_append : MutD rAppend uAppend := by
  intro rt F H p vs ds as us d ds' Q s hp hl ha e k
  match as, e with
  | [a], e =>
    simp only [uAppend] at e
    split at e
    · rename_i hz
      simp only [Option.some.injEq, Prod.mk.injEq] at e
      obtain ⟨rfl, rfl⟩ := e
      obtain ⟨v, rfl, hv⟩ := hl1 ha
      exact ⟨p, vs, v, rfl, rfl, hp, by rw [hl.length]; exact hz, k _ _ (by simp only [Holds]) (hl.app (.one hv))⟩
    · cases e
def uExtend : List D → List D → Option (D × List D)
  | [.lst es], ds => if ds.length + es.length ≤ sizeLine then some (.non, ds ++ es) else none
  | _, _ => none
theorem ud_extend : MutD rExtend uExtend := by
  intro rt F H p vs ds as us d ds' Q s hp hl ha e k
  match as, e with
  | [.lst es], e =>
    simp only [uExtend] at e
    split at e
    · rename_i hz
      simp only [Option.some.injEq, Prod.mk.injEq] at e
      obtain ⟨rfl, rfl⟩ := e
      obtain ⟨v, rfl, hv⟩ := hl1 ha
      simp only [Holds] at hv
      obtain ⟨b, ws, rfl, f, l⟩ := hv
      exact ⟨p, b, vs, ws, rfl, rfl, hp, s _ _ f, by rw [hl.length, l.length]; exact hz, k _ _ (by simp only [Holds]) (hl.app l)⟩
    · cases e
def uInsert : List D → List D → Option (D × List D)
  | [.int i, d], ds => if ds.length < sizeLine ∧ 0 ≤ i ∧ i < 2 ^ 63 then some (.non, ds.take i.toNat ++ [d] ++ ds.drop i.toNat) else none
  | _, _ => none
theorem ud_insert : MutD (fun x vs H Q => ∃ (l : Addr) (xs : List V) (i : Int) (y : V), x = .ref l ∧ vs = [.int i, y] ∧ H l = some (.lst xs) ∧ xs.length < sizeLine ∧ 0 ≤ i ∧ i < 2 ^ 63 ∧ Q .non (upd H l (.lst (xs.take i.toNat ++ [y] ++ xs.drop i.toNat)))) uInsert := by
  intro rt F H p vs ds as us d ds' Q s hp hl ha e k
  match as, e with
  | [.int i, a], e =>
    simp only [uInsert] at e
    split at e
    · rename_i hz
      simp only [Option.some.injEq, Prod.mk.injEq] at e
      obtain ⟨rfl, rfl⟩ := e
      obtain ⟨v, w, rfl, hv, hw⟩ := hl2 ha
      simp only [Holds] at hv
      subst hv
      exact ⟨p, vs, i, w, rfl, rfl, hp, by rw [hl.length]; exact hz.1, hz.2.1, hz.2.2, k _ _ (by simp only [Holds]) (((hl.take _).app (.one hw)).app (hl.drop _))⟩
    · cases e
def uPop : List D → List D → Option (D × List D)
  | [], ds => match ds[ds.length - 1]? with
    | some d => some (d, ds.dropLast)
    | none => none
  | _, _ => none
theorem HoldsL.dropLast {rt : V} {F : Hp} {ds : List D} {vs : List V} (h : HoldsL rt F ds vs) : HoldsL rt F ds.dropLast vs.dropLast := by
  rw [List.dropLast_eq_take, List.dropLast_eq_take, h.length]
  exact h.take _
theorem ud_pop : MutD rPop uPop := by
  intro rt F H p vs ds as us d ds' Q s hp hl ha e k
  match as, e with
  | [], e =>
    simp only [uPop] at e
    cases q : ds[ds.length - 1]? with
    | none => rw [q] at e; cases e
    | some d' =>
      rw [q] at e
      simp only [Option.some.injEq, Prod.mk.injEq] at e
      obtain ⟨rfl, rfl⟩ := e
      simp only [HoldsL] at ha
      subst ha
      obtain ⟨v, ev, hv⟩ := hl.get q
      exact ⟨p, vs, v, rfl, rfl, hp, by rw [hl.length]; exact ev, k _ _ hv hl.dropLast⟩
def uPopAt : List D → List D → Option (D × List D)
  | [.int i], ds => match ixN ds.length i with
    | some j => if -(2 ^ 63) ≤ i ∧ i < 2 ^ 63 then match ds[j]? with
      | some d => some (d, ds.eraseIdx j)
      | none => none
      else none
    | none => none
  | _, _ => none
theorem ud_popAt : MutD rPopAt uPopAt := by
  intro rt F H p vs ds as us d ds' Q s hp hl ha e k
  match as, e with
  | [.int i], e =>
    simp only [uPopAt] at e
    cases q : ixN ds.length i with
    | none => rw [q] at e; cases e
    | some j =>
      rw [q] at e
      simp only at e
      split at e
      · rename_i hz
        cases q2 : ds[j]? with
        | none => rw [q2] at e; cases e
        | some d' =>
          rw [q2] at e
          simp only [Option.some.injEq, Prod.mk.injEq] at e
          obtain ⟨rfl, rfl⟩ := e
          obtain ⟨v, rfl, hv⟩ := hl1 ha
          simp only [Holds] at hv
          subst hv
          obtain ⟨w, ew, hw⟩ := hl.get q2
          obtain ⟨h1, _⟩ := ixN_seq q
          exact ⟨p, vs, i, j, w, rfl, rfl, hp, hz.1, hz.2, by rw [hl.length]; exact h1, ew, k _ _ hw (hl.eraseIdx j)⟩
      · cases e

/-! ### x[k] = e, x += e -/
def ssub {Z : TSys} (i : Nat) (mk me : M Z) : SM Z := fun e t => match me e t with
  | some (d, e1, t1) => if isL1 e1 i then match mk e1 t1 with
    | some (.int k, e2, t2) => match e2[i]? with
      | some (.ow 1 (.lst ds)) => match ixN ds.length k with
        | some j => some (.nx, e2.set i (.ow 1 (.lst (ds.set j d))), t2)
        | none => none
      | _ => none
    | _ => none
    else none
  | none => none
section
variable {Z : TSys} {X : Cx} {x : Str} {xpos pos spos : Pos} {e k : Expr} {i : Nat} {mk me : M Z}
theorem is_sub (he : IsE Z X e me) (ho : PE X (.Name x xpos) (tVar i)) (hk : IsE Z X k mk) (hs : swapsWithSole [.Subscript (.Name x xpos) k spos] e pos.line X.env = pure false := by rfl) (hw : swappedStores [.Subscript (.Name x xpos) k spos] e X.env = pure none := by rfl)
    (h1 : (assignEach [.Subscript (.Name x xpos) k spos] X.env).map (·.2) = [assign (.Subscript (.Name x xpos) k spos) X.env] := by rfl)
    (ha : ∀ v, assign (.Subscript (.Name x xpos) k spos) X.env v = (do
      let ov ← holding [v] (eval (.Name x xpos) X.env)
      let iv ← holding [v, ov] (eval k X.env)
      standAt spos
      holding [v, ov, iv] (setItem ov iv v)
      release [v, ov, iv] []) := by intro _; rfl) : IsS Z X (.Assign [.Subscript (.Name x xpos) k spos] e pos) (ssub i mk me) :=
  ⟨PS.imp (ps_asg he.pe (pg_sub ho hk.pe set_list ha) hs hw h1) fun Dn σ H ⟨ad, env, T, F, A, fl, env', T', R, e, kk⟩ => by
    unfold ssub at e
    cases q : me env T with
    | none => rw [q] at e; cases e
    | some z =>
      obtain ⟨d, e1, t1⟩ := z
      rw [q] at e
      simp only at e
      refine ⟨ad, env, T, F, A, d, e1, t1, R, q, fun v H' F' A' R' S' hv => ?_⟩
      by_cases hi : isL1 e1 i = true
      · rw [if_pos hi] at e
        obtain ⟨ds0, q0⟩ := isL1_get hi
        obtain ⟨p, vs0, es, _, _, _⟩ := R'.mutL q0
        refine ⟨.ref p, es, ?_⟩
        cases q2 : mk e1 t1 with
        | none => rw [q2] at e; cases e
        | some z2 =>
          obtain ⟨dk, e2, t2⟩ := z2
          rw [q2] at e
          cases dk with
          | int kx =>
            simp only at e
            refine ⟨ad, e1, t1, F', A', .int kx, e2, t2, R', q2, fun w H2 F2 A2 R2 S2 hw => ?_⟩
            simp only [Holds] at hw
            subst hw
            cases q1 : e2[i]? with
            | none => rw [q1] at e; cases e
            | some sl =>
              rw [q1] at e
              match sl, q1, e with
              | .ow 1 (.lst ds), q1, e =>
                simp only at e
                cases q3 : ixN ds.length kx with
                | none => rw [q3] at e; cases e
                | some j =>
                  rw [q3] at e
                  simp only [Option.some.injEq, Prod.mk.injEq] at e
                  obtain ⟨rfl, rfl, rfl⟩ := e
                  obtain ⟨p', vs, es', hp, hl, go⟩ := R2.mutL q1
                  rw [es] at es'
                  cases es'
                  obtain ⟨R3, S3⟩ := go (ds.set j d) (vs.set j v) (hl.set j (hv.mono S2.sF))
                  exact ⟨p, vs, kx, j, rfl, rfl, hp, by rw [hl.length]; exact q3, kk σ _ F2 A2 R3 ((S'.trans S2).trans S3)⟩
          | _ => cases e
      · rw [if_neg hi] at e; cases e⟩
end
/-- x op= e on shared data -/
def saug {Z : TSys} (i : Nat) (g : D → D → Option D) (m : M Z) : SM Z := fun e t => match e[i]? with
  | some (.sh d) => match m e t with
    | some (y, e1, t1) => match g d y with
      | some r => some (.nx, e1.set i (.sh r), t1)
      | none => none
    | none => none
  | _ => none
theorem is_aug {Z : TSys} {X : Cx} {x : Str} {pos pos' : Pos} {e : Expr} {i : Nat} {m : M Z} {op : Operator} {r : R2} {g : D → D → Option D} (hN : X.N.Nodup) (hi : X.N[i]? = some x) (hx : Loc X.env.scope x) (ho : OpR X (inplaceOp op) r) (hd : OpD r g) (he : IsE Z X e m)
    (hf : X.fn x = true ∨ X.env.scope.names.lookup x = some .local := by first | exact .inl rfl | exact .inr rfl | assumption) : IsS Z X (.AugAssign (.Name x pos') op e pos) (saug i g m) :=
  ⟨PS.imp (ps_aug hN hi hx he.pe (show PIp X op r from ho) hf) fun Dn σ H ⟨ad, env, T, F, A, fl, env', T', R, e, kk⟩ => by
    unfold saug at e
    cases q0 : env[i]? with
    | none => rw [q0] at e; cases e
    | some s0 =>
      rw [q0] at e
      cases s0 with
      | sh d =>
        simp only at e
        obtain ⟨o, A0, A1, A2, e1, eA, ⟨_, v, eo, hv⟩, _⟩ := R.env.split q0
        subst eo
        refine ⟨v, e1, ?_⟩
        cases q : m env T with
        | none => rw [q] at e; cases e
        | some z =>
          obtain ⟨y, e2, t2⟩ := z
          rw [q] at e
          simp only at e
          cases q2 : g d y with
          | none => rw [q2] at e; cases e
          | some r' =>
            rw [q2] at e
            simp only [Option.some.injEq, Prod.mk.injEq] at e
            obtain ⟨rfl, rfl, rfl⟩ := e
            refine ⟨ad, env, T, F, A, y, e2, t2, R, q, fun w H' F' A' R' S' hw => ?_⟩
            refine hd _ F' H' d y r' v w _ R'.same (HB.of R'.same (hv.mono S'.sF)) (HB.of R'.same hw) q2 fun z F2 H2 n hz => ?_
            obtain ⟨R2, S2⟩ := R'.new n
            obtain ⟨A3, R3, S3⟩ := R2.setSh i hz
            exact kk _ H2 F2 A3 R3 ((S'.trans S2).trans S3)
      | _ => cases e⟩
theorem iop_addA {X : Cx} : OpR X (inplaceOp .Add) (fun x y H Q => (rI0 fun i j => .int (i + j)) x y H Q ∨ ∃ i j, x = .str i ∧ y = .str j ∧ i.length + j.length ≤ sizeLine ∧ Q (.str (i ++ j)) H) := iop_add.or iop_add_str
def addIS : D → D → Option D
  | .int i, .int j => some (.int (i + j))
  | .str x, .str y => if x.length + y.length ≤ sizeLine then some (.str (x ++ y)) else none
  | _, _ => none
theorem od_addIS : OpD (fun x y H Q => (rI0 fun i j => .int (i + j)) x y H Q ∨ ∃ i j, x = .str i ∧ y = .str j ∧ i.length + j.length ≤ sizeLine ∧ Q (.str (i ++ j)) H) addIS := by
  intro rt F H dx dy d x y Q s hx hy e k
  cases dx with
  | int i =>
    cases dy with
    | int j =>
      simp only [addIS, Option.some.injEq] at e
      subst e
      exact .inl ⟨i, j, hx.int, hy.int, fin0 s k (by simp only [Holds])⟩
    | _ => cases e
  | str i =>
    cases dy with
    | str j =>
      simp only [addIS] at e
      split at e
      · rename_i hz
        simp only [Option.some.injEq] at e
        subst e
        exact .inr ⟨i, j, hx.str, hy.str, hz, fin0 s k (by simp only [Holds])⟩
      · cases e
    | _ => cases e
  | _ => cases e
end DL

/-! The data layer, 10: products, index, join, isinstance. -/
namespace DL
open PySem L2 PySem.Spec PyProof.Rows

/-! ### tuple * int -/
theorem tuple_mulSame (l : Addr) (items : Array Value) (n : Nat) (dd : Option Addr) (sl : Array (Option Value)) (x : Int) (u : Tok) (c0 : (decide (x < -(2 ^ 63)) || decide (x ≥ 2 ^ 63)) = false) (c1 : (items.isEmpty || x == 1) = true) :
    Meets (Builtin.«tuple.__mul__» ⟨[.ref l, .int x u], []⟩) (fun _ R s => s.heap.get? l = some { cls := .type "tuple", dict := dd, data := .seq items n, slots := sl } ∧ R (.ok (.ret (Value.ref l))) s) :=
  .of_wp fun prog w A R s h => by
    obtain ⟨hp, g, d, tk, os⟩ := s
    obtain ⟨hl, h⟩ := h
    have f1 := AutoSeq1.idx_int
    wp_walk using wpAny_loadPart' hl
    repeat (first
      | (refine wpAny_ite_false (decide_eq_false (by rw [c0]; exact Bool.false_ne_true)) ?_; wp_walk using wpAny_loadPart' hl)
      | (refine wpAny_ite_true (decide_eq_true (by rw [c1])) ?_; wp_walk using wpAny_loadPart' hl))
    exact ⟨_, rfl, h⟩
theorem tuple_mulNone (l : Addr) (items : Array Value) (n : Nat) (dd : Option Addr) (sl : Array (Option Value)) (x : Int) (u : Tok) (c0 : (decide (x < -(2 ^ 63)) || decide (x ≥ 2 ^ 63)) = false) (c1 : (items.isEmpty || x == 1) = false) (c2 : (decide (x ≤ 0) || items.isEmpty) = true) :
    Meets (Builtin.«tuple.__mul__» ⟨[.ref l, .int x u], []⟩) (fun _ R s => s.heap.get? l = some { cls := .type "tuple", dict := dd, data := .seq items n, slots := sl } ∧
      R (.ok (.ret (Value.ref s.heap.objs.size))) { s with heap := s.heap.push { cls := Value.type "tuple", data := Data.seq #[] }, toks := s.toks }) :=
  .of_wp fun prog w A R s h => by
    obtain ⟨hp, g, d, tk, os⟩ := s
    obtain ⟨hl, h⟩ := h
    have f1 := AutoSeq1.idx_int
    wp_walk using wpAny_loadPart' hl
    repeat (first
      | (refine wpAny_ite_false (decide_eq_false (by rw [c0]; exact Bool.false_ne_true)) ?_; wp_walk using wpAny_loadPart' hl)
      | (refine wpAny_ite_false (decide_eq_false (by rw [c1]; exact Bool.false_ne_true)) ?_; wp_walk using wpAny_loadPart' hl)
      | (refine wpAny_ite_true (decide_eq_true (by rw [c2])) ?_; wp_walk using wpAny_loadPart' hl))
    exact ⟨_, rfl, h⟩

def rRepF (K : PySem.W.Frag) : R2 := fun x y H Q => ∃ l k xs, x = .ref l ∧ y = .int k ∧ SqT K H l xs ∧ k ≤ 1000 ∧ -(2 ^ 63) ≤ k ∧ xs.length ≤ 1000 ∧
  (k = 1 → Q (.ref l) H) ∧ (xs = [] → Q (.ref l) H) ∧ ∀ p o, H p = none → o.dict = none → Q (.ref p) (upd H p (.frz o (.tup (List.replicate k.toNat xs).flatten)))
section
variable {X : Cx}
theorem op_repF : OpR X (binaryOp .Mult) (rRepF X.K) := by
  intro pins s σ H x y v u Q I rx ry h
  obtain ⟨l, k, xs, rfl, rfl, hT, h2, h1, hz, q1, q0, q⟩ := h
  cases rx
  obtain ⟨t, rfl⟩ := ry
  obtain ⟨its, r, ⟨⟨cls, dd, data, sl⟩, ho, hc, n, hd⟩, hs⟩ := I.tuple hT
  simp only at hc hd
  subst hc hd
  have hle : its.length = xs.length := r.length.symm
  have hsz0 : its.toArray.size = xs.length := by rw [List.size_toArray, hle]
  have c0 : (decide (k < -(2 ^ 63)) || decide (k ≥ 2 ^ 63)) = false := by
    rw [decide_eq_false (by omega), decide_eq_false (by omega)] <;> rfl
  refine wpAny_binaryOp_repeat_ref (T := "tuple") (U := "int") (by decide) ⟨_, ho, rfl⟩ (fun s' => typeIs_int s' k t) noFill_tuple_mul F.fills_int_mul F.slot_int_rmul repeat_tuple F.slot_int_index.lookup
    (call_meets F.slot_int_rmul (typeIs_int s k t) F.entry_int_rmul (F.args_int_rmul_2 _ _) (int_rmul_tuple k t l its.toArray n dd sl) ⟨ho, rfl, ⟨_, ho, rfl⟩, ?_⟩)
  by_cases c1 : (its.toArray.isEmpty || k == 1) = true
  · refine call_meets F.slot_tuple_mul ⟨_, ho, rfl⟩ F.entry_tuple_mul (F.args_tuple_mul_2 _ _) (tuple_mulSame l its.toArray n dd sl k t c0 c1) ⟨ho, ?_⟩
    refine ⟨.ref l, H, I, rfl, ?_⟩
    rw [Bool.or_eq_true] at c1
    rcases c1 with z | z
    · exact q0 (by
        have : its.toArray.size = 0 := by simpa using z
        rw [hsz0] at this
        exact List.eq_nil_of_length_eq_zero this)
    · exact q1 (by simpa using z)
  · have c1' : (its.toArray.isEmpty || k == 1) = false := by simpa using c1
    have ne : its.toArray.isEmpty = false := (Bool.or_eq_false_iff.mp c1').1
    by_cases c2 : (decide (k ≤ 0) || its.toArray.isEmpty) = true
    · refine call_meets F.slot_tuple_mul ⟨_, ho, rfl⟩ F.entry_tuple_mul (F.args_tuple_mul_2 _ _) (tuple_mulNone l its.toArray n dd sl k t c0 c1' c2) ⟨ho, ?_⟩
      rw [ne, Bool.or_false] at c2
      have k0 : k.toNat = 0 := by have := of_decide_eq_true c2; omega
      rw [k0] at q
      exact ⟨.ref s.heap.objs.size, _, laidT I (xs := []) (us := []) .nil (Nat.zero_le _) s.toks, rfl, q _ _ (I.hok.fresh (Nat.le_refl _)) rfl⟩
    · have c2' : (decide (k ≤ 0) || its.toArray.isEmpty) = false := by simpa using c2
      rw [ne, Bool.or_false] at c2
      have kp : 1 ≤ k := by
        have : ¬ k ≤ 0 := fun z => c2 (decide_eq_true z)
        omega
      have hm : ((its.toArray.size : Nat) : Int) * k ≤ 1000000 := by
        rw [hsz0]
        have a1 : ((xs.length : Nat) : Int) * k ≤ 1000 * k := Int.mul_le_mul_of_nonneg_right (by omega) (by omega)
        omega
      have flen : (List.replicate k.toNat its).flatten.length ≤ sizeLine := by
        rw [PyProof.Rows.lm_len_rep_flat, hle, sizeLine_eq]
        have a1 : k.toNat * xs.length ≤ 1000 * 1000 := Nat.mul_le_mul (by omega) hz
        omega
      have flen2 : (List.replicate k.toNat xs).flatten.length ≤ sizeLine := by
        rw [PyProof.Rows.lm_len_rep_flat, sizeLine_eq]
        have a1 : k.toNat * xs.length ≤ 1000 * 1000 := Nat.mul_le_mul (by omega) hz
        omega
      have c4 : Builtin.Tuple.tupleTooMany (((its.toArray.size : Nat) : Int) * k) = false := by
        unfold Builtin.Tuple.tupleTooMany
        rw [sizeLine_eq]
        exact decide_eq_false (by omega)
      refine call_meets F.slot_tuple_mul ⟨_, ho, rfl⟩ F.entry_tuple_mul (F.args_tuple_mul_2 _ _) (tuple_mulW l its.toArray n dd sl k t c0 c1' c2' (by omega) c4 (by rw [size_rep, List.size_toArray]; exact flen)) ⟨ho, ?_⟩
      rw [size_rep]
      exact ⟨.ref s.heap.objs.size, _, laidT I (r.rep k.toNat) flen2 s.toks, rfl, q _ _ (I.hok.fresh (Nat.le_refl _)) rfl⟩
/-- text * int -/
def repS (k : Nat) (x : Str) : Str := ⟨((List.replicate k x.cps.toList).flatten).toArray⟩
theorem fold_cps (x : Str) : ∀ (k : Nat) (acc : Array Nat), (List.replicate k x.cps).foldl (· ++ ·) acc = acc ++ ((List.replicate k x.cps.toList).flatten).toArray
  | 0, acc => by simp
  | k + 1, acc => by
    rw [List.replicate_succ, List.foldl_cons, fold_cps x k, List.replicate_succ, List.flatten_cons]
    apply Array.ext'
    simp
def rRepS : R2 := fun x y H Q => ∃ z k, x = .str z ∧ y = .int k ∧ k ≤ 1000 ∧ -(2 ^ 63) ≤ k ∧ z.length ≤ 1000 ∧ Q (.str (repS k.toNat z)) H
theorem op_repS : OpR X (binaryOp .Mult) rRepS := by
  intro pins s σ H x y v u Q I rx ry h
  obtain ⟨z, k, rfl, rfl, h2, h1, hz, q⟩ := h
  obtain ⟨t, rfl⟩ := rx
  obtain ⟨t', rfl⟩ := ry
  have fin : ∀ {z' : Str}, z' = repS k.toNat z → ∀ tk, EP X pins σ Q (.str z' tk) { s with toks := s.toks + 1 } := fun {z'} e tk => by
    subst e
    exact ⟨.str (repS k.toNat z), H, I.tok _, ⟨_, rfl⟩, q⟩
  refine PySem.P.mul_str (by rw [decide_eq_false (by omega), decide_eq_false (by omega)]; rfl) (fun hk hne => ?_) (fun hk hne => ?_) ?_
  · have kp : 1 ≤ k := by omega
    have : (1000 : Int) ≤ (2 ^ 63 - 1) / k := by
      rw [Int.le_ediv_iff_mul_le (by omega)]
      omega
    omega
  · unfold Builtin.Str.tooLong
    have : z.length * k.toNat ≤ 1000 * 1000 := Nat.mul_le_mul hz (by omega)
    first
      | (rw [sizeLine_eq]; exact decide_eq_false (by omega))
      | (simp; omega)
  · by_cases hk : k < 1
    · rw [if_pos hk]
      refine ⟨by decide, fin ?_ _⟩
      unfold repS
      rw [show k.toNat = 0 by omega]
      rfl
    · rw [if_neg hk]
      by_cases h1' : (k == 1 || z.length == 0) = true
      · rw [if_pos h1']
        have e : z = repS k.toNat z := by
          unfold repS
          rw [Bool.or_eq_true] at h1'
          rcases h1' with w | w
          · have : k = 1 := by simpa using w
            subst this
            simp
          · have w' : z.cps.size = 0 := by
              have w0 : z.length = 0 := by simpa using w
              exact w0
            have w2 : z.cps = #[] := Array.eq_empty_of_size_eq_zero w'
            obtain ⟨c⟩ := z
            simp only at w2
            subst w2
            simp
        exact ⟨.str (repS k.toNat z), H, I, by rw [← e]; exact ⟨_, rfl⟩, q⟩
      · rw [if_neg h1']
        refine ⟨?_, fin ?_ _⟩
        · show (⟨(List.replicate k.toNat z.cps).foldl (· ++ ·) #[]⟩ : Str).length ≤ sizeLine
          rw [fold_cps]
          show (#[] ++ ((List.replicate k.toNat z.cps.toList).flatten).toArray).size ≤ sizeLine
          have : z.length * k.toNat ≤ 1000 * 1000 := Nat.mul_le_mul hz (by omega)
          simp only [Array.size_append, List.size_toArray, PyProof.Rows.lm_len_rep_flat]
          rw [sizeLine_eq]
          have e : z.cps.toList.length = z.length := by simp [Str.length]
          rw [e, Nat.mul_comm]
          simp
          omega
        · rw [fold_cps]; unfold repS; simp
end

def repD (k : Nat) (xs : List D) : List D := (List.replicate k xs).flatten
def mulD : D → D → Option D
  | .int i, .int j => if (-(2 ^ 64) < i ∧ i < 2 ^ 64) ∨ (-(2 ^ 64) < j ∧ j < 2 ^ 64) then some (.int (i * j)) else none
  | .str z, .int k => if k ≤ 1000 ∧ -(2 ^ 63) ≤ k ∧ z.length ≤ 1000 then some (.str (repS k.toNat z)) else none
  | .tup xs, .int k => if k ≤ 1000 ∧ -(2 ^ 63) ≤ k ∧ xs.length ≤ 1000 then some (.tup (repD k.toNat xs)) else none
  | .lst xs, .int k => if k ≤ 1000 ∧ -(2 ^ 63) ≤ k ∧ xs.length ≤ 1000 then some (.lst (repD k.toNat xs)) else none
  | _, _ => none
def mulN : D → D → Option (List D)
  | .lst xs, .int k => if k ≤ 1000 ∧ -(2 ^ 63) ≤ k ∧ xs.length ≤ 1000 then some (repD k.toNat xs) else none
  | _, _ => none
theorem HoldsL.rep {rt : V} {F : Hp} {ds : List D} {vs : List V} (h : HoldsL rt F ds vs) : ∀ k : Nat, HoldsL rt F (repD k ds) (List.replicate k vs).flatten
  | 0 => .nil
  | k + 1 => by
    unfold repD
    rw [List.replicate_succ, List.replicate_succ, List.flatten_cons, List.flatten_cons]
    exact h.app (h.rep k)
theorem repD_length (k : Nat) (ds : List D) : (repD k ds).length = k * ds.length := by unfold repD; rw [PyProof.Rows.lm_len_rep_flat]
theorem on_rep : OpN rRep mulN := by
  intro rt F H dx dy ds x y Q s hx hy e k
  cases dx with
  | lst xs =>
    cases dy with
    | int n =>
      simp only [mulN] at e
      split at e
      · rename_i hz
        simp only [Option.some.injEq] at e
        subst e
        obtain ⟨a, vs, rfl, f, l⟩ := hx.lst
        refine ⟨a, n, vs, rfl, hy.int, f, hz.2.1, by omega, ?_, fun p hp => k p _ hp (l.rep _)⟩
        rw [l.length]
        have : xs.length * n.toNat ≤ 1000 * 1000 := Nat.mul_le_mul hz.2.2 (by omega)
        exact Nat.le_trans this (by decide)
      · cases e
    | _ => cases e
  | _ => cases e
def rMulA (K : PySem.W.Frag) : R2 := fun x y H Q => (rI CMul fun i j => .int (i * j)) x y H Q ∨ rRepS x y H Q ∨ rRepF K x y H Q ∨ rRep x y H Q
theorem op_mulA {X : Cx} : OpR X (binaryOp .Mult) (rMulA X.K) := op_mul.or (op_repS.or (op_repF.or op_rep))
theorem od_mul {K : PySem.W.Frag} : OpD (rMulA K) mulD := by
  intro rt F H dx dy d x y Q s hx hy e k
  cases dy with
  | int n =>
    cases dx with
    | int i =>
      simp only [mulD] at e
      split at e
      · rename_i hz
        simp only [Option.some.injEq] at e
        subst e
        exact .inl ⟨i, n, hx.int, hy.int, hz, fin0 s k (by simp only [Holds])⟩
      · cases e
    | str z =>
      simp only [mulD] at e
      split at e
      · rename_i hz
        simp only [Option.some.injEq] at e
        subst e
        exact .inr (.inl ⟨z, n, hx.str, hy.int, hz.1, hz.2.1, hz.2.2, fin0 s k (by simp only [Holds])⟩)
      · cases e
    | tup xs =>
      simp only [mulD] at e
      split at e
      · rename_i hz
        simp only [Option.some.injEq] at e
        subst e
        obtain ⟨a, vs, rfl, f, l⟩ := hx.tup
        refine .inr (.inr (.inl ⟨a, n, vs, rfl, hy.int, (f.mono s).sq, hz.1, hz.2.1, by rw [l.length]; exact hz.2.2, fun e1 => ?_, fun e0 => ?_, fun p o hp ho => finT s k hp ho (l.rep _)⟩))
        · subst e1
          refine fin0 s k ?_
          simp only [Holds]
          exact ⟨a, vs, rfl, f, by unfold repD; simpa using l⟩
        · subst e0
          have : xs = [] := List.eq_nil_of_length_eq_zero l.length.symm
          subst this
          refine fin0 s k ?_
          simp only [Holds]
          exact ⟨a, [], rfl, f, by unfold repD; simpa using l⟩
      · cases e
    | lst xs =>
      simp only [mulD] at e
      refine .inr (.inr (.inr (on_rep.toD rt F H (.lst xs) (.int n) d x y Q s hx hy ?_ k)))
      simp only [mulN]
      split at e
      · rename_i hz; rw [if_pos hz]; exact e
      · cases e
    | _ => cases e
  | _ => cases dx <;> cases e

/-! ### methods of texts, lists, tuples that change nothing -/
def MtD (r : V → List V → Hp → VK → Prop) (g : D → List D → Option D) : Prop := ∀ (rt : V) (F H : Hp) (dx d : D) (ds : List D) (x : V) (vs : List V) (Q : VK), Same F H → HB rt F H dx x → HBL rt F H ds vs → g dx ds = some d →
  (∀ v F' H', New F H F' H' → Holds rt F' d v → Q v H') → r x vs H Q
/-- the kind of a datum -/
def kindD : D → String
  | .non => "NoneType"
  | .bl _ => "bool"
  | .int _ => "int"
  | .str _ => "str"
  | .tup _ => "tuple"
  | .lst _ => "list"
  | .dic _ _ => "dict"
  | .set _ => "set"
  | .tape => "?"
/-- what may have a method: the receiver's type, its own dict is none -/
def tyF (H : Hp) (T : String) (x : V) : Prop := (∃ z, x = .str z ∧ T = "str") ∨ (∃ p xs, x = .ref p ∧ H p = some (.lst xs) ∧ T = "list") ∨ (∃ p xs, x = .ref p ∧ TupF H p xs ∧ T = "tuple") ∨ (∃ p kvs, x = .ref p ∧ H p = some (.dK kvs) ∧ T = "dict") ∨ (∃ p kvs, x = .ref p ∧ H p = some (.dT kvs) ∧ T = "dict")
theorem tyF_is {X : Cx} {pins : List (Addr × Obj)} {σ : L2.St} {H : Hp} {s : Shared} {T : String} {x : V} {v : Value} (I : Inv X pins σ H s) (r : RelV x v) (ty : tyF H T x) :
    s.TypeIs v T ∧ ∀ a, v = .ref a → ∃ ob, s.heap.get? a = some ob ∧ ob.dict = none := by
  rcases ty with ⟨z, rfl, rfl⟩ | ⟨p, xs, rfl, e, rfl⟩ | ⟨p, xs, rfl, e, rfl⟩ | ⟨p, kvs, rfl, e, rfl⟩ | ⟨p, kvs, rfl, e, rfl⟩
  · exact tyV_is (X := X) (x := .str z) (T := "str") I r rfl
  · exact tyV_is (X := X) (x := .ref p) (T := "list") I r (.inl ⟨rfl, xs, SqL.of e⟩)
  · cases r
    obtain ⟨o, e, hd⟩ := e
    obtain ⟨ho, _, its, rv, o', ho', hc, _⟩ := I.hok p _ e
    rw [ho] at ho'
    cases ho'
    refine ⟨⟨o, ho, hc⟩, fun a ea => ?_⟩
    cases ea
    exact ⟨o, ho, hd⟩
  · exact tyV_is (X := X) (x := .ref p) (T := "dict") I r (.inr (.inr (.inl ⟨rfl, .inl ⟨kvs, e⟩⟩)))
  · exact tyV_is (X := X) (x := .ref p) (T := "dict") I r (.inr (.inr (.inl ⟨rfl, .inr ⟨kvs, e⟩⟩)))
theorem HB.ty {rt : V} {F H : Hp} {d : D} {x : V} (s : Same F H) (h : HB rt F H d x) (k : kindD d = "str" ∨ kindD d = "list" ∨ kindD d = "tuple" ∨ kindD d = "dict") : tyF H (kindD d) x := by
  cases d with
  | str z => exact .inl ⟨z, h.str, rfl⟩
  | lst xs => obtain ⟨a, vs, rfl, f, l⟩ := h.lst; exact .inr (.inl ⟨a, vs, rfl, f, rfl⟩)
  | tup xs => obtain ⟨a, vs, rfl, f, l⟩ := h.tup; exact .inr (.inr (.inl ⟨a, vs, rfl, f.mono s, rfl⟩))
  | dic ks xs =>
    obtain ⟨a, vs, rfl, l, f⟩ := h
    rcases f with ⟨kk, _, _, f⟩ | ⟨kk, _, _, f⟩
    · exact .inr (.inr (.inr (.inl ⟨a, _, rfl, f, rfl⟩)))
    · exact .inr (.inr (.inr (.inr ⟨a, _, rfl, f, rfl⟩)))
  | _ => simp [kindD] at k
def tBMF (T : String) (r : V → List V → Hp → VK → Prop) (to : TE) (t : TA) : TE := fun σ H Q => to σ H fun x H1 => tyF H1 T x ∧ t σ H1 fun xs H2 => r x xs H2 Q
section
variable {X : Cx} {o e : Expr} {es : List Expr} {to : TE} {t : TA} {name : Str} {apos cpos : Pos} {T id : String} {r : V → List V → Hp → VK → Prop}
theorem pe_bmF (pa : PlainAttrs T) (slot : Slot T name id) (hty : typeOf (.builtin id) = pure (.type "method_descriptor")) (hm : MtR X id r) (ho : PE X o to) (ha : PA X (e :: es) t)
    (hbase : attributeBase o name X.env (eval o X.env) = eval o X.env := by rfl)
    (hfew : ((backTo cpos (starEach (e :: es) X.env)).all (fun x => !x.1) && (backToKw cpos (keywordEach [] X.env)).all (fun x => x.1.isSome)
      && decide ((e :: es).length + ([] : List Keyword).length + (if ([] : List Keyword).isEmpty then 0 else 1) < 30)) = true := by rfl)
    (hline : (apos.endLine == cpos.line) = true := by rfl) (hs : starEach (e :: es) X.env = (false, eval e X.env) :: starEach es X.env := by rfl) (hplain : (backTo cpos (starEach es X.env)).any (·.1) = false := by rfl) :
    PE X (.Call (.Attribute o name apos) (e :: es) [] cpos) (tBMF T r to t) := by
  refine ⟨fun pins s σ H Q I h => ?_⟩
  refine wpAny_Call_method_late hbase hfew hline rfl (thn (ho.run pins s σ H _ I h) fun v s1 ⟨x, H1, I1, r1, ty, q1⟩ => ?_)
  obtain ⟨h1, h2⟩ := tyF_is I1 r1 ty
  refine ⟨T, id, pa, slot, hty, h1, h2, ?_⟩
  have hA := ha.run cpos pins s1 σ H1 _ I1 q1
  rw [hs] at hA ⊢
  refine Calls.callWith_builtin (by show (false || (backTo cpos (starEach es X.env)).any (·.1)) = false; rw [hplain] <;> rfl) (Calls.evalArgs_plain ?_)
  exact thn hA fun us s2 ⟨vs, H2, I2, r2, q2⟩ => hm pins s2 σ H2 x vs v us Q I2 r1 r2 q2
end
def mmt {Z : TSys} (T : String) (g : D → List D → Option D) (a : Arg Z) (as : List (Arg Z)) : M Z := fun e t => if slotOk a e then match evA a e t with
  | some (o, e1, t1) => match getA a o e1 with
    | some d0 => if kindD d0 = T then match evN as e1 t1 with
      | some (ds, e2, t2) => match getA a o e2 with
        | some d => match g d ds with
          | some r => some (r, e2, t2)
          | none => none
        | none => none
      | none => none
      else none
    | none => none
  | none => none
  else none
section
variable {Z : TSys} {X : Cx} {o e : Expr} {es : List Expr} {name : Str} {apos cpos : Pos} {T id : String} {r : V → List V → Hp → VK → Prop} {g : D → List D → Option D} {A : Arg Z} {as : List (Arg Z)}
theorem ie_mt (hT : T = "str" ∨ T = "list" ∨ T = "tuple" ∨ T = "dict") (pa : PlainAttrs T) (slot : Slot T name id) (hty : typeOf (.builtin id) = pure (.type "method_descriptor")) (hm : MtR X id r) (hd : MtD r g) (ho : IsA Z X o A) (ha : IsAs Z X (e :: es) as)
    (hbase : attributeBase o name X.env (eval o X.env) = eval o X.env := by rfl)
    (hfew : ((backTo cpos (starEach (e :: es) X.env)).all (fun x => !x.1) && (backToKw cpos (keywordEach [] X.env)).all (fun x => x.1.isSome)
      && decide ((e :: es).length + ([] : List Keyword).length + (if ([] : List Keyword).isEmpty then 0 else 1) < 30)) = true := by rfl)
    (hline : (apos.endLine == cpos.line) = true := by rfl) (hs : starEach (e :: es) X.env = (false, eval e X.env) :: starEach es X.env := by rfl) (hplain : (backTo cpos (starEach es X.env)).any (·.1) = false := by rfl) :
    IsE Z X (.Call (.Attribute o name apos) (e :: es) [] cpos) (mmt T g A as) :=
  ⟨PE.imp (pe_bmF pa slot hty hm ho.pe ha.pa hbase hfew hline hs hplain) fun σ H Q ⟨ad, env, T0, F, A0, d, env', T', R, e, k⟩ => by
    unfold mmt at e
    by_cases so : slotOk A env = true
    · rw [if_pos so] at e
      cases q : evA A env T0 with
      | none => rw [q] at e; cases e
      | some z =>
        obtain ⟨o1, e1, t1⟩ := z
        rw [q] at e
        simp only at e
        cases g1 : getA A o1 e1 with
        | none => rw [g1] at e; cases e
        | some d0 =>
          rw [g1] at e
          simp only at e
          by_cases hk : kindD d0 = T
          · rw [if_pos hk] at e
            refine ⟨ad, env, T0, F, A0, o1, e1, t1, R, q, slotOk.has R so, fun v H' F' A' R' S' hv => ⟨?_, ?_⟩⟩
            · have := HB.ty R'.same (hv.get R' g1) (by rw [hk]; exact hT)
              rw [hk] at this
              exact this
            · cases q2 : evN as e1 t1 with
              | none => rw [q2] at e; cases e
              | some z2 =>
                obtain ⟨ds, e2, t2⟩ := z2
                rw [q2] at e
                simp only at e
                cases g2 : getA A o1 e2 with
                | none => rw [g2] at e; cases e
                | some d1 =>
                  rw [g2] at e
                  simp only at e
                  cases g3 : g d1 ds with
                  | none => rw [g3] at e; cases e
                  | some dr =>
                    rw [g3] at e
                    simp only [Option.some.injEq, Prod.mk.injEq] at e
                    obtain ⟨rfl, rfl, rfl⟩ := e
                    refine evN_run (Q := fun us H2 => r v us H2 Q) q2 R' fun us H2 F2 A2 R2 S2 hu => ?_
                    refine hd _ F2 H2 d1 dr ds v us Q R2.same ((hv.mono S2.sF).get R2 g2) hu g3 fun w F3 H3 n hw => ?_
                    obtain ⟨R3, S3⟩ := R2.new n
                    exact k w H3 F3 A2 R3 ((S'.trans S2).trans S3) hw
          · rw [if_neg hk] at e; cases e
    · rw [if_neg so] at e; cases e⟩
end
/-- sep.join(list or tuple of texts) -/
def joinG : D → List D → Option D
  | .str a, [d] => match seqD d with
    | some ds => match strsD ds with
      | some ys => if (ys.map (·.length)).sum + ys.length * a.length ≤ 16777216 then some (.str (Str.join a ys)) else none
      | none => none
    | none => none
  | _, _ => none
theorem md_join {K : PySem.W.Frag} : MtD (fun x xs H Q => ∃ a p, ∃ ys : List Str, x = .str a ∧ xs = [.ref p] ∧ (SqL K H p (ys.map V.str) ∨ SqT K H p (ys.map V.str)) ∧ (ys.map (·.length)).sum + ys.length * a.length ≤ 16777216 ∧ Q (.str (Txt.join a ys)) H) joinG := by
  intro rt F H dx d ds x vs Q s hx ha e k
  cases dx with
  | str a =>
    match ds, e with
    | [d1], e =>
      simp only [joinG] at e
      cases q : seqD d1 with
      | none => rw [q] at e; cases e
      | some xs =>
        rw [q] at e
        simp only at e
        cases q2 : strsD xs with
        | none => rw [q2] at e; cases e
        | some ys =>
          rw [q2] at e
          simp only at e
          split at e
          · rename_i hz
            simp only [Option.some.injEq] at e
            subst e
            obtain ⟨v, rfl, hv⟩ := hbl1 ha
            have es := strsD_inv q2
            subst es
            obtain ⟨p, us, rfl, f, l⟩ := hv.seq (K := K) s (ds := ys.map .str) (by cases d1 <;> simp_all [seqD])
            have eu := holds_strs l
            subst eu
            exact ⟨a, p, ys, hx.str, rfl, f, hz, fin0 s k (by simp only [Holds]; rw [TL.join_eq])⟩
          · cases e
  | _ => cases e
/-- text.find(text) -/
def findG : D → List D → Option D
  | .str a, [.str b] => some (.int (Txt.find a b))
  | _, _ => none
theorem md_find : MtD (fun x xs H Q => ∃ a b, x = .str a ∧ xs = [.str b] ∧ Q (.int (Txt.find a b)) H) findG := by
  intro rt F H dx d ds x vs Q s hx ha e k
  cases dx with
  | str a =>
    match ds, e with
    | [.str b], e =>
      simp only [findG, Option.some.injEq] at e
      subst e
      obtain ⟨v, rfl, hv⟩ := hbl1 ha
      exact ⟨a, b, hx.str, by rw [hv.str], fin0 s k (by simp only [Holds])⟩
  | _ => cases e
/-- xs.index(y), found -/
def idxOfD (y : D) : List D → Option Nat
  | [] => none
  | d :: ds => if eqvD d y then some 0 else (idxOfD y ds).map (· + 1)
def indexG : D → List D → Option D
  | x, [y] => match seqD x with
    | some ds => if okD 30 y && ds.all (okD 30) && decide (ds.length ≤ 1000000) then (idxOfD y ds).map fun j => .int (j : Nat) else none
    | none => none
  | _, _ => none
theorem idxOfD_spec {y : D} : ∀ {ds : List D} {j : Nat}, idxOfD y ds = some j → ∃ z, ds[j]? = some z ∧ eqvD z y = true ∧ ∀ (m : Nat) (w : D), m < j → ds[m]? = some w → eqvD w y = false
  | [], _, h => by cases h
  | d :: ds, j, h => by
    unfold idxOfD at h
    by_cases q : eqvD d y = true
    · rw [if_pos q] at h
      cases h
      exact ⟨d, rfl, q, fun m w hm => by omega⟩
    · rw [if_neg q] at h
      cases q2 : idxOfD y ds with
      | none => rw [q2] at h; cases h
      | some i =>
        rw [q2] at h
        simp only [Option.map_some, Option.some.injEq] at h
        subst h
        obtain ⟨z, h1, h2, h3⟩ := idxOfD_spec q2
        refine ⟨z, by simpa using h1, h2, fun m w hm hw => ?_⟩
        cases m with
        | zero => simp at hw; subst hw; simpa using q
        | succ m => exact h3 m w (by omega) (by simpa using hw)
def rIndexT (K : PySem.W.Frag) : V → List V → Hp → VK → Prop := fun x xs H Q => ∃ (a : Addr) (y : V) (d : PyData) (ds : List PyData) (j : Nat) (z : PyData), x = V.ref a ∧ xs = [y] ∧ Dp K H (V.ref a) (.tuple ds) ∧ Dp K H y d ∧
  PyData.canLayAll0 ds = true ∧ SeqAt.shaped d = true ∧ ds[j]? = some z ∧ PyData.eqv z d = true ∧ (∀ (m : Nat) (z' : PyData), m < j → ds[m]? = some z' → PyData.eqv z' d = false) ∧ Q (.int (j : Nat)) H
theorem mt_indexT {X : Cx} {k : Nat} (hr : Room k X.A) : MtR X "tuple.index" (rIndexT X.K) := by
  intro pins s σ H x xs v us Q I rx rxs h
  obtain ⟨a, y, d, ds, j, z, rfl, rfl, hl, hy, sl, sd, hz, hzj, hno, q⟩ := h
  cases rx
  cases rxs with
  | cons ry rt =>
    rename_i uy ut
    cases rt
    obtain ⟨bs, r1⟩ := Dp.reads I d y uy hy ry
    have hroom : X.A.units + 1 + min (PyData.depthAll ds) d.depth < cLine := room_in hr sd
    cases hl with
    | tup hs ha =>
      obtain ⟨its, rv, ⟨⟨cls, dd, data, sls⟩, ho, hc, n, hdt⟩, hlen⟩ := I.tuple hs
      simp only at hc hdt
      subst hc hdt
      obtain ⟨as, h4⟩ := Dp.readsAll I ds _ its ha rv
      have hn : its.length = ds.length := SeqAt.ReadsAll.length ds its as h4
      have hmap : its.map (SeqAt.readOf s.heap) = ds := SeqAt.readsAll_map ds its as sl h4
      obtain ⟨hjd, _⟩ := List.getElem?_eq_some_iff.mp hz
      have hjl : j < its.length := by omega
      have hj : j < its.toArray.size := by simpa using hjl
      have eqs := SeqAt.items_eqAt (vs := its.toArray) (show ReadsAll s.heap its.toArray.toList ds as from h4) r1 sl (SeqAt.canLay_of_shaped sd) hroom
      have at_ : ∀ (m : Nat) (hm : m < its.toArray.size), ds[m]? = some (SeqAt.readOf s.heap its.toArray[m]) := by
        intro m hm
        have hml : m < its.length := by simpa using hm
        rw [← hmap, List.getElem?_map, List.getElem?_eq_getElem hml]
        simp
      refine call_meets PySem.F.slot_tuple_index ⟨_, ho, rfl⟩ PySem.F.entry_tuple_index (PySem.F.args_tuple_index_2 _ _)
        (PySem.SeqAt.tuple_index2_found a its.toArray n dd sls uy (fun m => match ds[m]? with | some w => PyData.eqv w d | none => false) j hj (Nat.zero_le _) hj ?_ ?_) ⟨ho, fun m hm => ?_, ?_⟩
      · rw [hz]; exact hzj
      · intro m hm _ hmj
        rw [at_ m hm]
        exact hno m _ hmj (at_ m hm)
      · rw [at_ m hm]
        exact eqs _ (Array.getElem_mem hm)
      · exact ⟨.int (j : Nat), H, I.tok _, ⟨_, rfl⟩, q⟩
theorem idx_py {y : D} {ds : List D} {j : Nat} (h : idxOfD y ds = some j) : ∃ z, (toPyL ds)[j]? = some z ∧ PyData.eqv z (toPy y) = true ∧ ∀ (m : Nat) (w : PyData), m < j → (toPyL ds)[m]? = some w → PyData.eqv w (toPy y) = false := by
  obtain ⟨z, h1, h2, h3⟩ := idxOfD_spec h
  refine ⟨toPy z, by rw [toPyL_map, List.getElem?_map, h1]; rfl, by rw [eqvD_py]; exact h2, fun m w hm hw => ?_⟩
  rw [toPyL_map, List.getElem?_map] at hw
  cases q : ds[m]? with
  | none => rw [q] at hw; cases hw
  | some w' =>
    rw [q] at hw
    simp only [Option.map_some, Option.some.injEq] at hw
    subst hw
    rw [eqvD_py]
    exact h3 m w' hm q
theorem md_indexT {K : PySem.W.Frag} : MtD (rIndexT K) (fun x ys => match x with | .tup ds => indexG (.tup ds) ys | _ => none) := by
  intro rt F H dx d ds x vs Q s hx ha e k
  cases dx with
  | tup xs =>
    match ds, e with
    | [y], e =>
      simp only [indexG, seqD] at e
      split at e
      · rename_i hz
        simp only [Bool.and_eq_true, List.all_eq_true] at hz
        cases q : idxOfD y xs with
        | none => rw [q] at e; cases e
        | some j =>
          rw [q] at e
          simp only [Option.map_some, Option.some.injEq] at e
          subst e
          obtain ⟨v, rfl, hv⟩ := hbl1 ha
          obtain ⟨z, h1, h2, h3⟩ := idx_py q
          obtain ⟨a, us, rfl, f, l⟩ := hx.tup
          exact ⟨a, v, toPy y, toPyL xs, j, z, rfl, rfl, .tup (f.mono s).sq (HoldsL.dp hz.1.2 (l.mono s)), (hv.inH s).dp hz.1.1, layAll_of hz.1.2, okD_shaped hz.1.1 (by decide), h1, h2, h3, fin0 s k (by simp only [Holds])⟩
      · cases e
    | [], e => cases e
    | _ :: _ :: _, e => cases e
  | _ => cases e
theorem md_indexL {K : PySem.W.Frag} : MtD (rIndexD K) (fun x ys => match x with | .lst ds => indexG (.lst ds) ys | _ => none) := by
  intro rt F H dx d ds x vs Q s hx ha e k
  cases dx with
  | lst xs =>
    match ds, e with
    | [y], e =>
      simp only [indexG, seqD] at e
      split at e
      · rename_i hz
        simp only [Bool.and_eq_true, List.all_eq_true] at hz
        cases q : idxOfD y xs with
        | none => rw [q] at e; cases e
        | some j =>
          rw [q] at e
          simp only [Option.map_some, Option.some.injEq] at e
          subst e
          obtain ⟨v, rfl, hv⟩ := hbl1 ha
          obtain ⟨z, h1, h2, h3⟩ := idx_py q
          obtain ⟨a, us, rfl, f, l⟩ := hx.lst
          have ok31 : okD 31 (.lst xs) = true := by simp only [okD, List.all_eq_true]; exact hz.1.2
          exact ⟨a, v, toPy y, toPyL xs, j, z, rfl, rfl, .lst (SqL.of f) (HoldsL.dp hz.1.2 (l.mono s)), (hv.inH s).dp hz.1.1, okD_shaped ok31 (by decide), okD_shaped hz.1.1 (by decide), h1, h2, h3, fin0 s k (by simp only [Holds])⟩
      · cases e
    | [], e => cases e
    | _ :: _ :: _, e => cases e
  | _ => cases e

/-! ### isinstance -/
theorem HB.tyx {K : PySem.W.Frag} {rt : V} {F H : Hp} {d : D} {x : V} (s : Same F H) (h : HB rt F H d x) (nt : noTape d = true) : TyX K H x (.type (kindD d)) := by
  cases d with
  | non => rw [h.non]; exact .base .non
  | bl b => rw [h.bl]; exact .base (.bl b)
  | int b => rw [h.int]; exact .base (.int b)
  | str b => rw [h.str]; exact .base (.str b)
  | tup b => obtain ⟨a, vs, rfl, ⟨o, e, _⟩, _⟩ := h.tup; exact .fTuple (s _ _ e)
  | lst b => obtain ⟨a, vs, rfl, e, _⟩ := h.lst; exact .base (.lst e)
  | dic ks b =>
    obtain ⟨a, vs, rfl, l, f⟩ := h
    rcases f with ⟨kk, _, _, f⟩ | ⟨kk, _, _, f⟩
    · exact .base (.dK f)
    · exact .base (.dT f)
  | set b => exact (show False from by simpa only [HB, Holds] using h).elim
  | tape => cases nt
/-- which kinds are of a class (written) -/
def isinstD (T : String) (d : D) : Option Bool := if noTape d then some (kindD d == T || (kindD d == "bool" && T == "int")) else none
def misinst {Z : TSys} (T : String) (a : Arg Z) : M Z := fun e t => match ev1 a e t with
  | some (d, e1, t1) => match isinstD T d with
    | some b => some (.bl b, e1, t1)
    | none => none
  | none => none
theorem ie_isinst {Z : TSys} {X : Cx} {T : String} {x : Str} {e : Expr} {a : Arg Z} {p p2 pos : Pos} (hg : Gl X "isinstance") (hm : X.mg "isinstance" = none) (hg2 : Gl X x) (hm2 : X.mg x = none) (hv2 : bootBuiltins x = some (.type T)) (ha : IsA Z X e a)
    (kit : ∀ n ∈ ["NoneType", "bool", "int", "str", "tuple", "list", "dict"], PySem.W.kitOne X.K (.type n) (.type T) = some (n == T || (n == "bool" && T == "int")))
    (hn2 : x ≠ "__name__" := by decide) (hd2 : (x == ("__debug__" : Str)) = false := by decide)
    (hs : starEach [e, .Name x p2] X.env = (false, eval e X.env) :: starEach [.Name x p2] X.env := by rfl) (hs2 : starEach [.Name x p2] X.env = (false, eval (.Name x p2) X.env) :: starEach [] X.env := by rfl)
    (hpl : (backTo pos (starEach [.Name x p2] X.env)).any (·.1) = false := by rfl) : IsE Z X (.Call (.Name "isinstance" p) [e, .Name x p2] [] pos) (misinst T a) :=
  ⟨PE.imp (pe_callB call_isi hg hm (by decide +kernel) (pa_cons ha.pe (pa_cons (pe_bltn (v := .ty T) hg2 hm2 hv2 rfl hn2 hd2) pa_nil hs2) hs) (by decide) (by decide) hs hpl) fun σ H Q ⟨ad, env, T0, F, A0, d, env', T', R, e, k⟩ => by
    unfold misinst at e
    cases q : ev1 a env T0 with
    | none => rw [q] at e; cases e
    | some z =>
      obtain ⟨d0, e1, t1⟩ := z
      rw [q] at e
      simp only at e
      unfold isinstD at e
      by_cases nt : noTape d0 = true
      · rw [if_pos nt] at e
        simp only [Option.some.injEq, Prod.mk.injEq] at e
        obtain ⟨rfl, rfl, rfl⟩ := e
        refine ev1_run q R fun v H' F' A' R' S' hv => ?_
        refine ⟨v, .ty T, .type (kindD d0), .type T, _, rfl, .ty T, hv.tyx R'.same nt, kit (kindD d0) ?_, k _ H' F' A' R' S' (by simp only [Holds])⟩
        cases d0 <;> first | (simp [kindD]; done) | (exact (show False from by simpa only [HB, Holds] using hv).elim) | (cases nt)
      · rw [if_neg nt] at e; cases e⟩
end DL

/-! The data layer: a, b = x, y with values that are owned. -/
namespace DL
open PySem L2

def OwnZs (rt : V) (F H : Hp) : List (Nat × D) → List V → List Addr → Prop
  | [], vs, B => vs = [] ∧ B = []
  | x :: xs, vs, B => ∃ v r B1 B2, vs = v :: r ∧ B = B1 ++ B2 ∧ Own rt F H x.1 x.2 v B1 ∧ OwnZs rt F H xs r B2
theorem OwnZs.length {rt : V} {F H : Hp} : ∀ {xs : List (Nat × D)} {vs : List V} {B : List Addr}, OwnZs rt F H xs vs B → vs.length = xs.length
  | [], _, _, h => by rw [h.1]; rfl
  | x :: xs, _, _, h => by
    obtain ⟨v, r, B1, B2, e1, e2, h1, h2⟩ := h
    subst e1
    simp only [List.length_cons, h2.length]
def evOs {Z : TSys} : List (Nat × M Z) → List Sl → Z.T → Option (List (Nat × D) × List Sl × Z.T)
  | [], e, t => some ([], e, t)
  | (n, m) :: ms, e, t => match m e t with
    | some (d, e1, t1) => match evOs ms e1 t1 with
      | some (ds, e2, t2) => some ((n, d) :: ds, e2, t2)
      | none => none
    | none => none
theorem evOs_len {Z : TSys} : ∀ {ms : List (Nat × M Z)} {env : List Sl} {T : Z.T} {xs : List (Nat × D)} {e1 : List Sl} {t1 : Z.T}, evOs ms env T = some (xs, e1, t1) → xs.length = ms.length
  | [], env, T, xs, e1, t1, h => by
    simp only [evOs, Option.some.injEq, Prod.mk.injEq] at h
    rw [← h.1]
    rfl
  | (n, m) :: ms, env, T, xs, e1, t1, h => by
    unfold evOs at h
    split at h
    · split at h
      · rename_i q
        simp only [Option.some.injEq, Prod.mk.injEq] at h
        rw [← h.1, List.length_cons, List.length_cons, evOs_len q]
      · cases h
    · cases h
def denOs (Z : TSys) (ms : List (Nat × M Z)) : TA := fun σ H Q => ∃ (ad : Z.Ad) (env : List Sl) (T : Z.T) (F : Hp) (A : List Addr) (ds : List (Nat × D)) (env' : List Sl) (T' : Z.T),
  Rel Z ad env T F σ H A ∧ evOs ms env T = some (ds, env', T') ∧ ∀ vs H' F' A' B, Rel Z ad env' T' F' σ H' A' → Stp Z ad A F H A' F' H' → OwnZs (Z.root ad) F' H' ds vs B → B.Nodup → (∀ a ∈ B, a ∉ A' ∧ H a = none ∧ a ∉ Z.addrs ad) → Q vs H'
structure IsOs (Z : TSys) (X : Cx) (es : List Expr) (ms : List (Nat × M Z)) : Prop where
  pa : PA X es (denOs Z ms)
theorem IsE.o {Z : TSys} {X : Cx} {e : Expr} {m : M Z} (h : IsE Z X e m) : IsO Z 0 X e m := ⟨PE.imp h.pe fun σ H Q ⟨ad, env, T, F, A, r, env', T', R, e, k⟩ =>
  ⟨ad, env, T, F, A, r, env', T', R, e, fun v H' F' A' R' S' hv => k v H' F' A' [] R' S' ⟨rfl, hv⟩ List.nodup_nil fun a ha => by cases ha⟩⟩
/-- what stands outside stays so over a step -/
theorem Own.over {Z : TSys} {ad : Z.Ad} {rt : V} {A A1 B : List Addr} {F H F1 H1 : Hp} {n : Nat} {d : D} {v : V} (S : Stp Z ad A F H A1 F1 H1) (h : Own rt F H n d v B) (hB : ∀ a ∈ B, a ∉ A ∧ a ∉ Z.addrs ad) : Own rt F1 H1 n d v B ∧ ∀ a ∈ B, a ∉ A1 ∧ ∃ o, H a = some o := by
  have key : ∀ a ∈ B, (H1 a = H a ∧ F1 a = none) ∧ a ∉ A1 ∧ ∃ o, H a = some o := fun a ha => by
    obtain ⟨f, o, ho⟩ := h.at a ha
    obtain ⟨nA, nT⟩ := hB a ha
    refine ⟨⟨(S.fr a o ho nA nT).trans ho.symm, ?_⟩, fun z => ?_, o, ho⟩
    · cases q : F1 a with
      | none => rfl
      | some x =>
        rcases S.nF a (by rw [q]; exact fun z => by cases z) with w | w | w
        · exact absurd f w
        · exact absurd w nA
        · rw [ho] at w; cases w
    · rcases S.nA a z with w | w
      · exact nA w
      · rw [ho] at w; cases w
  exact ⟨h.keep S.sF fun a ha => (key a ha).1, fun a ha => (key a ha).2⟩
section
variable {Z : TSys} {X : Cx} {e : Expr} {es : List Expr}
theorem os_nil : IsOs Z X [] [] := ⟨PA.imp pa_nil fun σ H Q ⟨ad, env, T, F, A, ds, env', T', R, e, k⟩ => by
  simp only [evOs, Option.some.injEq, Prod.mk.injEq] at e
  obtain ⟨rfl, rfl, rfl⟩ := e
  exact k [] H F A [] R Stp.refl ⟨rfl, rfl⟩ List.nodup_nil fun a ha => by cases ha⟩
theorem os_cons {n : Nat} {m : M Z} {ms : List (Nat × M Z)} (ha : IsO Z n X e m) (hl : IsOs Z X es ms) (hs : starEach (e :: es) X.env = (false, eval e X.env) :: starEach es X.env := by rfl) : IsOs Z X (e :: es) ((n, m) :: ms) := ⟨PA.imp (pa_cons ha.pe hl.pa hs) fun σ H Q ⟨ad, env, T, F, A, ds, env', T', R, e, k⟩ => by
  unfold evOs at e
  cases q : m env T with
  | none => rw [q] at e; cases e
  | some z =>
    obtain ⟨d, e1, t1⟩ := z
    rw [q] at e
    simp only at e
    cases q2 : evOs ms e1 t1 with
    | none => rw [q2] at e; cases e
    | some z =>
      obtain ⟨ds', e2, t2⟩ := z
      rw [q2] at e
      simp only [Option.some.injEq, Prod.mk.injEq] at e
      obtain ⟨rfl, rfl, rfl⟩ := e
      refine ⟨ad, env, T, F, A, d, e1, t1, R, q, fun v H1 F1 A1 B1 R1 S1 o1 n1 d1 => ?_⟩
      refine ⟨ad, e1, t1, F1, A1, ds', e2, t2, R1, q2, fun vs H2 F2 A2 B2 R2 S2 o2 n2 d2 => ?_⟩
      obtain ⟨o1', k1⟩ := o1.over S2 fun a ha => ⟨(d1 a ha).1, (d1 a ha).2.2⟩
      refine k (v :: vs) H2 F2 A2 (B1 ++ B2) R2 (S1.trans S2) ⟨v, vs, B1, B2, rfl, rfl, o1', o2⟩ ?_ fun a ha => ?_
      · refine List.nodup_append.mpr ⟨n1, n2, fun a ha b hb => ?_⟩
        rintro rfl
        obtain ⟨_, o, ho⟩ := k1 a ha
        rw [(d2 a hb).2.1] at ho; cases ho
      · rcases List.mem_append.mp ha with z | z
        · exact ⟨(k1 a z).1, (d1 a z).2.1, (d1 a z).2.2⟩
        · exact ⟨(d2 a z).1, S1.none (d2 a z).2.1, (d2 a z).2.2⟩⟩
end
def slOf : Nat → D → Sl
  | 0, d => .sh d
  | n + 1, d => .ow (n + 1) d
def setSls : List Nat → List (Nat × D) → List Sl → List Sl
  | i :: is, x :: xs, e => setSls is xs (e.set i (slOf x.1 x.2))
  | _, _, e => e
def setVs : List Nat → List V → L2.St → L2.St
  | i :: is, v :: vs, σ => setVs is vs (σ.set i (some v))
  | _, _, σ => σ
section
variable {Z : TSys} {ad : Z.Ad} {T : Z.T} {F H : Hp}
theorem Rel.setSls : ∀ {is : List Nat} {xs : List (Nat × D)} {vs : List V} {B A : List Addr} {env : List Sl} {σ : L2.St}, Rel Z ad env T F σ H A → OwnZs (Z.root ad) F H xs vs B → B.Nodup → (∀ a ∈ B, a ∉ A ∧ a ∉ Z.addrs ad) →
    ∃ A', Rel Z ad (DL.setSls is xs env) T F (setVs is vs σ) H A' ∧ ∀ a ∈ A', a ∈ A ∨ a ∈ B
  | [], xs, vs, B, A, env, σ, R, _, _, _ => by
    unfold DL.setSls setVs
    exact ⟨A, R, fun a h => .inl h⟩
  | i :: is, [], vs, B, A, env, σ, R, h, _, _ => by
    rw [h.1]
    exact ⟨A, R, fun a h => .inl h⟩
  | i :: is, (n, d) :: xs, vs, B, A, env, σ, R, h, nB, hB => by
    obtain ⟨v, r, B1, B2, rfl, rfl, h1, h2⟩ := h
    obtain ⟨n1, n2, n12⟩ := List.nodup_append.mp nB
    have step : ∃ A', Rel Z ad (env.set i (slOf n d)) T F (σ.set i (some v)) H A' ∧ ∀ a ∈ A', a ∈ A ∨ a ∈ B1 := by
      cases n with
      | zero =>
        obtain ⟨A', R', S'⟩ := R.setSh i h1.2
        refine ⟨A', R', fun a ha => ?_⟩
        rcases S'.nA a ha with z | z
        · exact .inl z
        · obtain ⟨_, o, e⟩ := R'.at a ha
          rw [e] at z; cases z
      | succ n =>
        obtain ⟨A', R', _, q⟩ := R.setOw i h1 n1 fun a ha => hB a (List.mem_append_left _ ha)
        exact ⟨A', R', q⟩
    obtain ⟨A1, R1, q1⟩ := step
    obtain ⟨A2, R2, q2⟩ := Rel.setSls (is := is) R1 h2 n2 fun a ha => ⟨fun z => by
      rcases q1 a z with w | w
      · exact (hB a (List.mem_append_right _ ha)).1 w
      · exact n12 a w a ha rfl, (hB a (List.mem_append_right _ ha)).2⟩
    refine ⟨A2, R2, fun a ha => ?_⟩
    rcases q2 a ha with z | z
    · rcases q1 a z with w | w
      · exact .inl w
      · exact .inr (List.mem_append_left _ w)
    · exact .inr (List.mem_append_right _ z)
end
def spar {Z : TSys} (is : List Nat) (ms : List (Nat × M Z)) : SM Z := fun e t => match evOs ms e t with
  | some (xs, e1, t1) => some (.nx, setSls is xs e1, t1)
  | none => none
section
variable {Z : TSys} {X : Cx}
theorem par_core {is : List Nat} {ms : List (Nat × M Z)} {D : Ends} {σ : L2.St} {H : Hp} (h : denS Z (spar is ms) D σ H) : denOs Z ms σ H fun vs H1 => vs.length = ms.length ∧ D.nx (setVs is vs σ) H1 := by
  obtain ⟨ad, env, T, F, A, fl, env', T', R, e, k⟩ := h
  unfold spar at e
  cases q : evOs ms env T with
  | none => rw [q] at e; cases e
  | some z =>
    obtain ⟨xs, e1, t1⟩ := z
    rw [q] at e
    simp only [Option.some.injEq, Prod.mk.injEq] at e
    obtain ⟨rfl, rfl, rfl⟩ := e
    refine ⟨ad, env, T, F, A, xs, e1, t1, R, q, fun vs H' F' A' B R' S' ho nB hB => ⟨?_, ?_⟩⟩
    · rw [ho.length]
      exact evOs_len q
    · obtain ⟨A2, R2, q2⟩ := R'.setSls (is := is) ho nB fun a ha => ⟨(hB a ha).1, (hB a ha).2.2⟩
      refine k _ H' F' A2 R2 ⟨S'.sF, fun a ha => S'.nF a ha, fun a ha => ?_, S'.fr, S'.ex⟩
      rcases q2 a ha with z | z
      · exact S'.nA a z
      · exact .inr (hB a z).2.1
theorem is_par2 {i j : Nat} {x y : Str} {a b : Expr} {ma mb : Nat × M Z} {px py pt pos : Pos} {kt k2 pt2} (hc : X.calm = true) (hN : X.N.Nodup) (hi : X.N[i]? = some x) (hj : X.N[j]? = some y) (hij : i ≠ j)
    (hx : X.env.scope.names.lookup x = some .local) (hy : X.env.scope.names.lookup y = some .local) (ha : IsOs Z X [a, b] [ma, mb])
    (hw : swappedStores [.Tuple [.Name x px, .Name y py] kt pt] (.Tuple [a, b] k2 pt2) X.env = pure (some [x, y]))
    (hs : swapsWithSole [.Tuple [.Name x px, .Name y py] kt pt] (.Tuple [a, b] k2 pt2) pos.line X.env = pure false := by rfl) :
    IsS Z X (.Assign [.Tuple [.Name x px, .Name y py] kt pt] (.Tuple [a, b] k2 pt2) pos) (spar [i, j] [ma, mb]) := ⟨PS.imp (ps_par hc hN hi hj hij hx hy ha.pa hw hs) fun D σ H h => by
  obtain ⟨ad, env, T, F, A, xs, env', T', R, e, k⟩ := par_core h
  refine ⟨ad, env, T, F, A, xs, env', T', R, e, fun vs H' F' A' B R' S' ho nB hB => ?_⟩
  obtain ⟨hl, q⟩ := k vs H' F' A' B R' S' ho nB hB
  match vs, hl with
  | [v, w], _ => exact ⟨v, w, rfl, q⟩⟩
theorem is_par3 {i j l : Nat} {x y z : Str} {a b c : Expr} {ma mb mc : Nat × M Z} {px py pz pt pos : Pos} {kt k2 pt2} (hc : X.calm = true) (hN : X.N.Nodup) (hi : X.N[i]? = some x) (hj : X.N[j]? = some y) (hl : X.N[l]? = some z) (hij : i ≠ j) (hil : i ≠ l) (hjl : j ≠ l)
    (hx : X.env.scope.names.lookup x = some .local) (hy : X.env.scope.names.lookup y = some .local) (hz : X.env.scope.names.lookup z = some .local) (ha : IsOs Z X [a, b, c] [ma, mb, mc])
    (hw : swappedStores [.Tuple [.Name x px, .Name y py, .Name z pz] kt pt] (.Tuple [a, b, c] k2 pt2) X.env = pure (some [x, y, z]))
    (hs : swapsWithSole [.Tuple [.Name x px, .Name y py, .Name z pz] kt pt] (.Tuple [a, b, c] k2 pt2) pos.line X.env = pure false := by rfl) :
    IsS Z X (.Assign [.Tuple [.Name x px, .Name y py, .Name z pz] kt pt] (.Tuple [a, b, c] k2 pt2) pos) (spar [i, j, l] [ma, mb, mc]) := ⟨PS.imp (ps_par3 hc hN hi hj hl hij hil hjl hx hy hz ha.pa hw hs) fun D σ H h => by
  obtain ⟨ad, env, T, F, A, xs, env', T', R, e, k⟩ := par_core h
  refine ⟨ad, env, T, F, A, xs, env', T', R, e, fun vs H' F' A' B R' S' ho nB hB => ?_⟩
  obtain ⟨hl, q⟩ := k vs H' F' A' B R' S' ho nB hB
  match vs, hl with
  | [v, w, u], _ => exact ⟨v, w, u, rfl, q⟩⟩
/-- names, some of them cells: the tuple is laid and unpacked -/
def gNames : List Nat → TGs
  | [] => gNil
  | i :: is => gCons (gName i) (gNames is)
theorem gNames_run : ∀ {is : List Nat} {vs : List V} {σ : L2.St} {H : Hp} {Q : L2.St → Hp → Prop}, vs.length = is.length → Q (setVs is vs σ) H → gNames is vs σ H Q
  | [], [], _, _, _, _, h => ⟨rfl, h⟩
  | i :: is, v :: vs, σ, H, Q, e, h => ⟨v, vs, rfl, gNames_run (is := is) (by simpa using e) h⟩
theorem is_parT {es ts : List Expr} {is : List Nat} {ms : List (Nat × M Z)} {pt pos : Pos} {kt k2 pt2} (hc : X.calm = true) (ha : IsOs Z X es ms) (hg : PGs X ts (gNames is)) (hk : is.length = ms.length) (hk2 : (decide (ms.length ≤ 1000)) = true)
    (hn : (assignEach ts X.env).length = ms.length := by rfl) (hst : (assignEach ts X.env).findIdx? (·.1) = none := by rfl)
    (hs : swapsWithSole [.Tuple ts kt pt] (.Tuple es k2 pt2) pos.line X.env = pure false := by rfl) (hw : swappedStores [.Tuple ts kt pt] (.Tuple es k2 pt2) X.env = pure none := by rfl)
    (h1 : (assignEach [.Tuple ts kt pt] X.env).map (·.2) = [assign (.Tuple ts kt pt) X.env] := by rfl) :
    IsS Z X (.Assign [.Tuple ts kt pt] (.Tuple es k2 pt2) pos) (spar is ms) := ⟨PS.imp (ps_asg (pe_tup ha.pa) (pg_tup (n := ms.length) hc hg hn hst) hs hw h1) fun D σ H ⟨ad, env, T, F, A, fl, env', T', R, e, k⟩ => by
  unfold spar at e
  cases q : evOs ms env T with
  | none => rw [q] at e; cases e
  | some z =>
    obtain ⟨xs, e1, t1⟩ := z
    rw [q] at e
    simp only [Option.some.injEq, Prod.mk.injEq] at e
    obtain ⟨rfl, rfl, rfl⟩ := e
    refine ⟨ad, env, T, F, A, xs, e1, t1, R, q, fun vs H' F' A' B R' S' ho nB hB => ?_⟩
    have hlen : vs.length = ms.length := by
      rw [ho.length]
      exact evOs_len q
    refine ⟨by rw [hlen]; exact sz1000 (by simpa using hk2), fun p hp => ?_⟩
    have pB : ∀ a ∈ B, a ≠ p := fun a ha z => by
      subst z
      have : ∀ {xs : List (Nat × DL.D)} {vs : List V} {B : List Addr}, OwnZs (Z.root ad) F' H' xs vs B → ∀ a ∈ B, ∃ o, H' a = some o := by
        intro xs
        induction xs with
        | nil => intro vs B h a ha; rw [h.2] at ha; cases ha
        | cons x xs ih =>
          intro vs B h a ha
          obtain ⟨v, r, B1, B2, _, e2, h1, h2⟩ := h
          subst e2
          rcases List.mem_append.mp ha with w | w
          · exact (h1.at a w).2
          · exact ih h2 a w
      obtain ⟨o, e⟩ := this ho a ha
      rw [hp] at e; cases e
    obtain ⟨R2, S2⟩ := R'.own hp (.tup vs)
    have hsq : SqT X.K (L2.upd H' p (.tup vs)) p vs := .inl (.inl upd_same)
    refine ⟨p, vs, rfl, hsq, hlen, gNames_run (by rw [hlen, hk]) ?_⟩
    have ho2 : OwnZs (Z.root ad) F' (L2.upd H' p (.tup vs)) xs vs B := by
      have : ∀ {xs : List (Nat × DL.D)} {us : List V} {C : List Addr}, (∀ a ∈ C, a ∈ B) → OwnZs (Z.root ad) F' H' xs us C → OwnZs (Z.root ad) F' (L2.upd H' p (.tup vs)) xs us C := by
        intro xs
        induction xs with
        | nil => intro us C _ h; exact h
        | cons x xs ih =>
          intro us C hC h
          obtain ⟨v, r, B1, B2, e1, e2, h1, h2⟩ := h
          subst e2
          refine ⟨v, r, B1, B2, e1, rfl, h1.keep (Same.refl _) fun a ha => ⟨upd_ne (pB a (hC a (List.mem_append_left _ ha))), (h1.at a ha).1⟩, ih (fun a ha => hC a (List.mem_append_right _ ha)) h2⟩
      exact this (fun a h => h) ho
    obtain ⟨A2, R3, q2⟩ := R2.setSls (is := is) ho2 nB fun a ha => ⟨(hB a ha).1, (hB a ha).2.2⟩
    have S3 := S'.trans S2
    refine k _ _ F' A2 R3 ⟨S3.sF, fun a ha => S3.nF a ha, fun a ha => ?_, S3.fr, S3.ex⟩
    rcases q2 a ha with z | z
    · exact S3.nA a z
    · exact .inr (hB a z).2.1⟩
end
end DL

/-! The data layer: chains of comparisons, str, sorted, len(set(..)). -/
namespace DL
open PySem L2

section
variable {Z : TSys} {X : Cx} {a b c : Expr} {A B C : Arg Z} {pos : Pos} {r r' : R2} {g g' : D → D → Option D}
theorem ie_chain {op op' : CmpOp} (ho : OpR X (compareOp op) r) (hd : OpD r g) (ho' : OpR X (compareOp op') r') (hd' : OpD r' g') (ha : IsA Z X a A) (hb : IsA Z X b B) (hc : IsA Z X c C)
    (hm : lastMarks [op, op'] [b, c] = false := by with_unfolding_all rfl) : IsE Z X (.Compare a [op, op'] [b, c] pos) (mchain g g' A B C) :=
  ⟨PE.imp (pe_chain ho ho' ha.pe hb.pe hc.pe hm) fun _ _ _ h => chain_core hd hd' h⟩
theorem it_chain {op op' : CmpOp} (ho : OpR X (compareOp op) r) (hd : OpD r g) (ho' : OpR X (compareOp op') r') (hd' : OpD r' g') (ha : IsA Z X a A) (hb : IsA Z X b B) (hc : IsA Z X c C)
    (hm : lastMarks [op, op'] [b, c] = false := by with_unfolding_all rfl) : IsT Z X (.Compare a [op, op'] [b, c] pos) (asB (mchain g g' A B C)) :=
  ⟨PT.imp (pt_chain ho ho' ha.pe hb.pe hc.pe hm) fun _ _ _ h => asB_core (t := tChain r r' (denA Z A) (denA Z B) (denA Z C)) (m := mchain g g' A B C) (fun _ _ _ h' => chain_core hd hd' h') h⟩
end

/-! ### is, is not of bools -/
def isBD (x y : D) : Option D := match x, y with
  | .bl a, .bl b => some (.bl (decide (a = b)))
  | _, _ => none
def isntBD (x y : D) : Option D := match x, y with
  | .bl a, .bl b => some (.bl (!decide (a = b)))
  | _, _ => none
theorem od_isB : OpD rIsB isBD := by
  intro rt F H dx dy d x y Q s hx hy e k
  cases dx with
  | bl a =>
    cases dy with
    | bl b =>
      simp only [isBD, Option.some.injEq] at e
      subst e
      exact ⟨a, b, hx.bl, hy.bl, fin0 s k (by simp only [Holds])⟩
    | _ => cases e
  | _ => cases e
theorem od_isntB : OpD rNotB isntBD := by
  intro rt F H dx dy d x y Q s hx hy e k
  cases dx with
  | bl a =>
    cases dy with
    | bl b =>
      simp only [isntBD, Option.some.injEq] at e
      subst e
      exact ⟨a, b, hx.bl, hy.bl, fin0 s k (by simp only [Holds])⟩
    | _ => cases e
  | _ => cases e

/-! ### str(i) -/
def str1 : List D → Option D
  | [.int i] => if i.natAbs.log2 < 1920 then some (.str (toString i)) else none
  | _ => none
theorem cd_str : CallD (fun xs H Q => ∃ i, xs = [V.int i] ∧ i.natAbs.log2 < 1920 ∧ Q (V.str (toString i)) H) str1 := by
  intro rt F H ds d vs Q s h e k
  match ds, e with
  | [.int i], e =>
    simp only [str1] at e
    split at e
    · rename_i hz
      simp only [Option.some.injEq] at e
      subst e
      obtain ⟨v, rfl, hv⟩ := hbl1 h
      rw [hv.int]
      exact ⟨i, rfl, hz, fin0 s k (by simp only [Holds])⟩
    · cases e

/-! ### sorted(ints) -/
def sortI (ns : List Int) : List Int := ns.mergeSort (fun a b => decide (a ≤ b))
theorem sortI_perm (ns : List Int) : (sortI ns).Perm ns := List.mergeSort_perm ..
theorem sortI_pair (ns : List Int) : (sortI ns).Pairwise (· ≤ ·) := by
  have h := List.pairwise_mergeSort (le := fun a b : Int => decide (a ≤ b)) (fun a b c h1 h2 => by simp at *; omega) (fun a b => by simp; omega) ns
  exact h.imp fun h => by simpa using h
theorem pair_perm_eq : ∀ {xs ys : List Int}, xs.Perm ys → xs.Pairwise (· ≤ ·) → ys.Pairwise (· ≤ ·) → xs = ys
  | [], ys, p, _, _ => by rw [List.nil_perm.mp p]
  | x :: xs, ys, p, h1, h2 => by
    match ys, p, h2 with
    | [], p, _ => exact absurd p.length_eq (by simp)
    | y :: ys, p, h2 => 
      rw [List.pairwise_cons] at h1 h2
      have e : x = y := by
        have a1 : x ∈ y :: ys := p.mem_iff.mp List.mem_cons_self
        have a2 : y ∈ x :: xs := p.mem_iff.mpr List.mem_cons_self
        have b1 : y ≤ x := by
          rcases List.mem_cons.mp a1 with z | z
          · omega
          · exact h2.1 x z
        have b2 : x ≤ y := by
          rcases List.mem_cons.mp a2 with z | z
          · omega
          · exact h1.1 y z
        omega
      subst e
      rw [pair_perm_eq (p.cons_inv) h1.2 h2.2]
def sortedI1 : List D → Option (List D)
  | [.lst ds] => match intsD ds with
    | some ns => some ((sortI ns).map .int)
    | none => none
  | _ => none
theorem holds_mapInt {rt : V} {F : Hp} : ∀ (ns : List Int), HoldsL rt F (ns.map D.int) (ns.map V.int)
  | [] => .nil
  | n :: ns => .cons (by simp only [Holds]) (holds_mapInt ns)
theorem cn_sortedI {K : PySem.W.Frag} : CallN (rSortedI K) sortedI1 := by
  intro rt F H ds d vs Q s h e k
  match ds, e with
  | [.lst xs], e =>
    simp only [sortedI1] at e
    cases q : intsD xs with
    | none => rw [q] at e; cases e
    | some ns =>
      rw [q] at e
      simp only [Option.some.injEq] at e
      subst e
      have ex := intsD_inv q
      subst ex
      obtain ⟨v, rfl, hv⟩ := hbl1 h
      obtain ⟨a, us, rfl, f, l⟩ := hv.lst
      have eu := holds_ints l
      subst eu
      refine ⟨a, ns, rfl, SqL.of f, fun ns' p hp hs hn => ?_⟩
      have : ns' = sortI ns := pair_perm_eq (hp.trans (sortI_perm ns).symm) hs (sortI_pair ns)
      subst this
      exact k p _ hn (holds_mapInt _)

/-! ### len(set(ints)) -/
def distN (ns : List Int) : Nat := (ns.foldl PyProof.Rows.step_dedup []).length
theorem map_getD : ∀ (ns : List Int), (List.range ns.length).map (fun i => ns.getD i 0) = ns := fun ns => by
  apply List.ext_getElem
  · simp
  · intro i h1 h2
    simp [h2]
theorem firstMet_dist (ns : List Int) : (PyProof.Rows.firstMet (fun i => ns.getD i 0) ns.length).length = distN ns := by
  unfold PyProof.Rows.firstMet distN
  rw [map_getD]
theorem distN_le (ns : List Int) : distN ns ≤ ns.length := by
  have : ∀ (xs acc : List Int), (xs.foldl PyProof.Rows.step_dedup acc).length ≤ acc.length + xs.length := by
    intro xs
    induction xs with
    | nil => intro acc; simp
    | cons x xs ih =>
      intro acc
      rw [List.foldl_cons]
      refine Nat.le_trans (ih _) ?_
      unfold PyProof.Rows.step_dedup
      split
      · simp only [List.length_cons]; omega
      · simp only [List.length_append, List.length_cons, List.length_nil]; omega
  simpa [distN] using this ns []
def tLenSet (K : PySem.W.Frag) (ta : TE) : TE := fun σ H Q => ta σ H fun x H1 => ∃ (l : Addr) (ns : List Int), x = V.ref l ∧ SqL K H1 l (ns.map V.int) ∧ ns.length ≤ 4000 ∧ Q (.int (distN ns : Nat)) H1
theorem pe_lenSet {X : Cx} {a : Expr} {ta : TE} {p p2 q pos : Pos} (hg : Gl X "len") (hm : X.mg "len" = none) (hg2 : Gl X "set") (hm2 : X.mg "set" = none) (ha : PE X a ta) (hc : X.calm = true)
    (na : starEach [a] X.env = (false, eval a X.env) :: starEach [] X.env := by rfl) : PE X (.Call (.Name "len" p) [.Call (.Name "set" p2) [a] [] q] [] pos) (tLenSet X.K ta) := by
  refine ⟨fun pins s σ H Q I h => ?_⟩
  refine PyProof.Rows.Call_ (ld_blt I hg hm PySem.boot_len (PyProof.Rows.callWith_builtin1 (PyProof.Rows.args_cons ?_ rfl) rfl rfl))
  refine PyProof.Rows.Call_ (ld_blt I hg2 hm2 PyProof.Rows.boot_set (PyProof.Rows.callWith_type1 (PyProof.Rows.args_cons (thn (ha.run pins s σ H _ I h) fun v s1 ⟨x, H1, I1, r1, q1⟩ => PyProof.Rows.args_nil ?_) na) na rfl))
  obtain ⟨l, ns, rfl, hq, hl, q1⟩ := q1
  cases r1
  obtain ⟨its, r, pl, hz⟩ := I1.list hq
  have hlen : its.toArray.size = ns.length := by rw [List.size_toArray, ← r.length, List.length_map]
  refine PySem.call_set_list (I1.ok.hd hc) pl.isList (ns := ns) (by simpa using r.ints) (by rw [hlen]; unfold scanBound; omega) fun h' tk hS hk => PyProof.Rows.args_nil ?_
  rw [hlen, firstMet_dist] at hS
  obtain ⟨o, es, ep, t, ho, hex, hd, _, _, _, hf, hn⟩ := hS
  have I2 : Inv X pins σ H1 { s1 with heap := h', toks := tk } := I1.kept fun b o e => hk b o (Heap.lt_size e) e
  have hle := distN_le ns
  exact call_len_set ho hex hd hf (by rw [hn] <;> omega) ⟨.int (distN ns : Nat), H1, I2.tok _, ⟨_, by rw [hn]⟩, q1⟩
def mlenset {Z : TSys} (m : M Z) : M Z := fun e t => match m e t with
  | some (.lst ds, e1, t1) => match intsD ds with
    | some ns => if ns.length ≤ 4000 then some (.int (distN ns : Nat), e1, t1) else none
    | none => none
  | _ => none
def mlensetA {Z : TSys} (a : Arg Z) : M Z := fun e t => match ev1 a e t with
  | some (.lst ds, e1, t1) => match intsD ds with
    | some ns => if ns.length ≤ 4000 then some (.int (distN ns : Nat), e1, t1) else none
    | none => none
  | _ => none
theorem ie_lenset {Z : TSys} {X : Cx} {a : Expr} {A : Arg Z} {p p2 q pos : Pos} (hg : Gl X "len") (hm : X.mg "len" = none) (hg2 : Gl X "set") (hm2 : X.mg "set" = none) (ha : IsA Z X a A) (hc : X.calm = true)
    (na : starEach [a] X.env = (false, eval a X.env) :: starEach [] X.env := by rfl) : IsE Z X (.Call (.Name "len" p) [.Call (.Name "set" p2) [a] [] q] [] pos) (mlensetA A) :=
  ⟨PE.imp (pe_lenSet hg hm hg2 hm2 ha.pe hc na) fun σ H Q ⟨ad, env, T, F, A0, d, env', T', R, e, k⟩ => by
  unfold mlensetA at e
  cases q : ev1 A env T with
  | none => rw [q] at e; cases e
  | some z =>
    obtain ⟨d0, e1, t1⟩ := z
    rw [q] at e
    cases d0 with
    | lst ds =>
      simp only at e
      cases q2 : intsD ds with
      | none => rw [q2] at e; cases e
      | some ns =>
        rw [q2] at e
        simp only at e
        split at e
        · rename_i hz
          simp only [Option.some.injEq, Prod.mk.injEq] at e
          obtain ⟨rfl, rfl, rfl⟩ := e
          refine ev1_run q R fun v H' F' A' R' S' hv => ?_
          have ex := intsD_inv q2
          subst ex
          obtain ⟨a, us, rfl, f, l⟩ := hv.lst
          have eu := holds_ints l
          subst eu
          exact ⟨a, ns, rfl, SqL.of f, hz, k _ H' F' A' R' S' (by simp only [Holds])⟩
        · cases e
    | _ => cases e⟩
end DL

/-! The data layer: lists of lists that a slot owns. -/
namespace DL
open PySem L2

section
variable {rt : V} {F H : Hp}
theorem OwnL.length {P : D → V → List Addr → Prop} : ∀ {ds : List D} {vs : List V} {A : List Addr}, OwnL P ds vs A → vs.length = ds.length
  | [], _, _, h => by rw [h.1]; rfl
  | d :: ds, _, _, h => by
    obtain ⟨v, r, A1, A2, e1, e2, h1, h2⟩ := h
    subst e1
    simp only [List.length_cons, h2.length]
theorem OwnL.split {P : D → V → List Addr → Prop} : ∀ {ds : List D} {vs : List V} {B : List Addr} {j : Nat} {d : D}, OwnL P ds vs B → ds[j]? = some d →
    ∃ v B0 B1 B2, vs[j]? = some v ∧ B = B0 ++ B1 ++ B2 ∧ P d v B1 ∧ ∀ {P' : D → V → List Addr → Prop} {d' : D} {v' : V} {C : List Addr}, (∀ d v C, (∀ a ∈ C, a ∈ B0 ++ B2) → P d v C → P' d v C) → P' d' v' C → OwnL P' (ds.set j d') (vs.set j v') (B0 ++ C ++ B2)
  | [], _, _, _, _, _, e => by simp at e
  | x :: ds, _, _, 0, d, h, e => by
    obtain ⟨v, r, A1, A2, e1, e2, h1, h2⟩ := h
    subst e1 e2
    simp at e; subst e
    refine ⟨v, [], A1, A2, rfl, rfl, h1, fun {P' d' v' C} k hc => ⟨v', r, C, A2, rfl, rfl, hc, h2.imp fun d v C hC => k d v C (by simpa using hC)⟩⟩
  | x :: ds, _, _, j + 1, d, h, e => by
    obtain ⟨v, r, A1, A2, e1, e2, h1, h2⟩ := h
    subst e1 e2
    obtain ⟨w, B0, B1, B2, q1, q2, q3, q4⟩ := h2.split (j := j) (by simpa using e)
    subst q2
    refine ⟨w, A1 ++ B0, B1, B2, by simpa using q1, by simp [List.append_assoc], q3, fun {P' d' v' C} k hc => ?_⟩
    refine ⟨v, r.set j v', A1, B0 ++ C ++ B2, rfl, by simp [List.append_assoc], k x v A1 (fun a ha => by simp [ha]) h1, q4 (fun d v C hC => k d v C fun a ha => ?_) hc⟩
    rcases List.mem_append.mp (hC a ha) with z | z
    · simp [z]
    · simp [z]
end
section
variable {Z : TSys} {ad : Z.Ad} {env : List Sl} {T : Z.T} {F H : Hp} {σ : L2.St} {A : List Addr}
/-- a list of lists, one of them changed -/
theorem Rel.nest (R : Rel Z ad env T F σ H A) {i : Nat} {ds : List D} (hi : env[i]? = some (.ow 2 (.lst ds))) :
    ∃ q vs, σ[i]? = some (some (.ref q)) ∧ H q = some (.lst vs) ∧ q ∈ A ∧ vs.length = ds.length ∧
      ∀ j es, ds[j]? = some (.lst es) → ∃ p us, vs[j]? = some (.ref p) ∧ H p = some (.lst us) ∧ p ∈ A ∧ p ≠ q ∧ HoldsL (Z.root ad) F es us ∧
        ∀ es' us', HoldsL (Z.root ad) F es' us' → Rel Z ad (env.set i (.ow 2 (.lst (ds.set j (.lst es'))))) T F σ (L2.upd H p (.lst us')) A ∧ Stp Z ad A F H A F (L2.upd H p (.lst us')) := by
  obtain ⟨o, A0, A1, A2, e1, eA, ⟨v, eo, hv⟩, re⟩ := R.env.split hi
  subst eA eo
  obtain ⟨q, B, e, f, eA, vs, hq, hl⟩ := hv
  subst e eA
  have qin : q ∈ A0 ++ (q :: B) ++ A2 := by simp
  refine ⟨q, vs, e1, hq, qin, hl.length, fun j es hj => ?_⟩
  obtain ⟨v, B0, B1, B2, w1, w2, w3, w4⟩ := hl.split hj
  obtain ⟨p, C, e, fp, eB1, us, hp, hu⟩ := w3
  obtain ⟨hu', eC⟩ := OwnL.zero hu
  subst e eC eB1 w2
  have nd := R.nd
  have pin : p ∈ A0 ++ (q :: (B0 ++ [p] ++ B2)) ++ A2 := by simp
  have npq : p ≠ q := by
    rintro rfl
    rw [List.nodup_append, List.nodup_append] at nd
    have := nd.1.2.1
    simp at this
  refine ⟨p, us, w1, hp, pin, npq, hu', fun es' us' h' => ?_⟩
  have off : ∀ a ∈ A0 ++ A2, a ≠ p := fun a ha z => by
    subst z
    rw [List.nodup_append, List.nodup_append] at nd
    rcases List.mem_append.mp ha with z | z
    · exact nd.1.2.2 a z a (by simp) rfl
    · exact nd.2.2 a (by simp) a z rfl
  have off2 : ∀ a ∈ B0 ++ B2, a ≠ p := fun a ha z => by
    subst z
    rw [List.nodup_append, List.nodup_append] at nd
    have n1 := nd.1.2.1
    rw [List.nodup_cons, List.nodup_append, List.nodup_append] at n1
    rcases List.mem_append.mp ha with z | z
    · exact n1.2.1.2.2 a z a (by simp) rfl
    · exact n1.2.2.2 a (by simp) a z rfl
  have fin : ∀ a ∈ A0 ++ (q :: (B0 ++ [p] ++ B2)) ++ A2, F a = none := fun a ha => (R.at a ha).1
  have own2 : OwnL (Own (Z.root ad) F (L2.upd H p (.lst us')) 1) (ds.set j (.lst es')) (vs.set j (.ref p)) (B0 ++ [p] ++ B2) :=
    w4 (P' := Own (Z.root ad) F (L2.upd H p (.lst us')) 1) (d' := .lst es') (v' := .ref p) (C := [p]) (fun d v C hC hP => hP.keep (Same.refl _) fun a ha => ⟨L2.upd_ne (off2 a (hC a ha)), (hP.at a ha).1⟩) ⟨p, [], rfl, fp, rfl, us', L2.upd_same, OwnL.ofHolds h'⟩
  rw [set_self w1] at own2
  have e2 := re (F' := F) (H' := L2.upd H p (.lst us')) (y := .ow 2 (.lst (ds.set j (.lst es')))) (o' := some (.ref q)) (B := q :: (B0 ++ [p] ++ B2)) (Same.refl _) (fun a ha => ⟨L2.upd_ne (off a ha), fin a (by
    rcases List.mem_append.mp ha with z | z
    · simp [z]
    · simp [z])⟩)
    ⟨.ref q, rfl, q, _, rfl, f, rfl, vs, (L2.upd_ne (Ne.symm npq)).trans hq, own2⟩
  rw [set_self e1] at e2
  refine ⟨⟨fun a o z => ?_, e2, R.nd, Z.loc R.tp fun b hb => L2.upd_ne fun z => (R.tf b hb).2 (z ▸ pin), R.tf⟩, Same.refl _, fun a h => .inl h, fun a h => .inl h, fun a o z hA _ => ?_, fun a o z => ?_⟩
  · rw [L2.upd_ne fun w => by rw [w, fp] at z; cases z]
    exact R.same _ _ z
  · rw [L2.upd_ne fun (w : a = p) => hA (by rw [w]; exact pin)]; exact z
  · by_cases w : a = p
    · subst w; exact ⟨_, L2.upd_same⟩
    · rw [L2.upd_ne w]; exact ⟨o, z⟩
/-- .. one of them exchanged for a new one -/
theorem Rel.nestSet (R : Rel Z ad env T F σ H A) {i j : Nat} {ds : List D} {d d' : D} {v : V} {C : List Addr} (hi : env[i]? = some (.ow 2 (.lst ds))) (hj : ds[j]? = some d) (hv : Own (Z.root ad) F H 1 d' v C) (nC : C.Nodup) (dC : ∀ a ∈ C, a ∉ A ∧ a ∉ Z.addrs ad) :
    ∃ q vs A', σ[i]? = some (some (.ref q)) ∧ H q = some (.lst vs) ∧ vs.length = ds.length ∧ Rel Z ad (env.set i (.ow 2 (.lst (ds.set j d')))) T F σ (L2.upd H q (.lst (vs.set j v))) A' ∧ (∀ a ∈ A', a ∈ A ∨ a ∈ C) ∧ q ∈ A := by
  obtain ⟨o, A0, A1, A2, e1, eA, ⟨v0, eo, hv0⟩, re⟩ := R.env.split hi
  subst eA eo
  obtain ⟨q, B, e, f, eA, vs, hq, hl⟩ := hv0
  subst e eA
  have qin : q ∈ A0 ++ (q :: B) ++ A2 := by simp
  obtain ⟨u, B0, B1, B2, w1, w2, w3, w4⟩ := hl.split hj
  subst w2
  have nd := R.nd
  have fin : ∀ a ∈ A0 ++ (q :: (B0 ++ B1 ++ B2)) ++ A2, F a = none := fun a ha => (R.at a ha).1
  have qC : q ∉ C := fun z => (dC q z).1 qin
  have off : ∀ a ∈ A0 ++ A2, a ≠ q := fun a ha z => by
    subst z
    rw [List.nodup_append, List.nodup_append] at nd
    rcases List.mem_append.mp ha with z | z
    · exact nd.1.2.2 a z a (by simp) rfl
    · exact nd.2.2 a (by simp) a z rfl
  have off2 : ∀ a ∈ B0 ++ B2, a ≠ q := fun a ha z => by
    subst z
    rw [List.nodup_append, List.nodup_append] at nd
    have n1 := nd.1.2.1
    rw [List.nodup_cons] at n1
    rcases List.mem_append.mp ha with z | z
    · exact n1.1 (by simp [z])
    · exact n1.1 (by simp [z])
  have own2 : OwnL (Own (Z.root ad) F (L2.upd H q (.lst (vs.set j v))) 1) (ds.set j d') (vs.set j v) (B0 ++ C ++ B2) :=
    w4 (P' := Own (Z.root ad) F (L2.upd H q (.lst (vs.set j v))) 1) (d' := d') (v' := v) (C := C) (fun d v C hC hP => hP.keep (Same.refl _) fun a ha => ⟨L2.upd_ne (off2 a (hC a ha)), (hP.at a ha).1⟩) (hv.keep (Same.refl _) fun a ha => ⟨L2.upd_ne fun z => qC (z ▸ ha), (hv.at a ha).1⟩)
  have e2 := re (F' := F) (H' := L2.upd H q (.lst (vs.set j v))) (y := .ow 2 (.lst (ds.set j d'))) (o' := some (.ref q)) (B := q :: (B0 ++ C ++ B2)) (Same.refl _) (fun a ha => ⟨L2.upd_ne (off a ha), fin a (by
    rcases List.mem_append.mp ha with z | z
    · simp [z]
    · simp [z])⟩)
    ⟨.ref q, rfl, q, _, rfl, f, rfl, _, L2.upd_same, own2⟩
  rw [set_self e1] at e2
  have sub : ∀ a ∈ A0 ++ (q :: (B0 ++ C ++ B2)) ++ A2, a ∈ A0 ++ (q :: (B0 ++ B1 ++ B2)) ++ A2 ∨ a ∈ C := fun a ha => by
    simp only [List.mem_append, List.mem_cons] at ha ⊢
    rcases ha with (z | z | (z | z) | z) | z
    · simp [z]
    · simp [z]
    · simp [z]
    · simp [z]
    · simp [z]
    · simp [z]
  refine ⟨q, vs, A0 ++ (q :: (B0 ++ C ++ B2)) ++ A2, e1, hq, hl.length, ⟨fun a o z => ?_, e2, ?_, Z.loc R.tp fun b hb => L2.upd_ne fun z => (R.tf b hb).2 (z ▸ qin), fun a ha => ⟨(R.tf a ha).1, fun z => ?_⟩⟩, sub, qin⟩
  · rw [L2.upd_ne fun w => by rw [w, f] at z; cases z]
    exact R.same _ _ z
  · have d1 : ∀ a ∈ C, a ∉ A0 ++ (q :: (B0 ++ B1 ++ B2)) ++ A2 := fun a ha => (dC a ha).1
    simp only [List.nodup_append, List.nodup_cons, List.mem_append, List.mem_cons] at nd d1 ⊢
    grind
  · rcases sub a z with w | w
    · exact (R.tf a ha).2 w
    · exact (dC a w).2 ha
end

/-! ### quiet expressions: what the slots own stays as it is -/
abbrev MQ (Z : TSys) := List Sl → Z.T → Option (D × Z.T)
abbrev MQL (Z : TSys) := List Sl → Z.T → Option (List D × Z.T)
def denQ (Z : TSys) (m : MQ Z) : TE := fun σ H Q => ∃ (ad : Z.Ad) (env : List Sl) (T : Z.T) (F : Hp) (A : List Addr) (r : D) (T' : Z.T),
  Rel Z ad env T F σ H A ∧ m env T = some (r, T') ∧ ∀ v H' F', Rel Z ad env T' F' σ H' A → Stp Z ad A F H A F' H' → (∀ a ∈ A, H' a = H a) → Holds (Z.root ad) F' r v → Q v H'
def denQL (Z : TSys) (m : MQL Z) : TA := fun σ H Q => ∃ (ad : Z.Ad) (env : List Sl) (T : Z.T) (F : Hp) (A : List Addr) (r : List D) (T' : Z.T),
  Rel Z ad env T F σ H A ∧ m env T = some (r, T') ∧ ∀ v H' F', Rel Z ad env T' F' σ H' A → Stp Z ad A F H A F' H' → (∀ a ∈ A, H' a = H a) → HoldsL (Z.root ad) F' r v → Q v H'
structure IsQ (Z : TSys) (X : Cx) (e : Expr) (m : MQ Z) : Prop where
  pe : PE X e (denQ Z m)
structure IsQL (Z : TSys) (X : Cx) (es : List Expr) (m : MQL Z) : Prop where
  pa : PA X es (denQL Z m)
def qcst {Z : TSys} (d : D) : MQ Z := fun e t => some (d, t)
def qvar {Z : TSys} (i : Nat) : MQ Z := fun e t => match e[i]? with
  | some (.sh d) => some (d, t)
  | _ => none
def qnil {Z : TSys} : MQL Z := fun e t => some ([], t)
def qcons {Z : TSys} (m : MQ Z) (l : MQL Z) : MQL Z := fun e t => match m e t with
  | some (d, t1) => match l e t1 with
    | some (ds, t2) => some (d :: ds, t2)
    | none => none
  | none => none
def mq {Z : TSys} (m : MQ Z) : M Z := fun e t => match m e t with
  | some (d, t1) => some (d, e, t1)
  | none => none
def qcall {Z : TSys} (n : Nat) (f : FnM Z) (l : MQL Z) : MQ Z := fun e t => match l e t with
  | some (ds, t1) => if ds.length = n then f ds t1 else none
  | none => none
/-- the item that x[k] names -/
def nestAt (env : List Sl) (i : Nat) (k : D) : Option (List D × Nat × List D) := match env[i]?, k with
  | some (.ow 2 (.lst ds)), .int k => match ixN ds.length k with
    | some j => match ds[j]? with
      | some (.lst es) => some (ds, j, es)
      | _ => none
    | none => none
  | _, _ => none
theorem nestAt_inv {env : List Sl} {i : Nat} {k : D} {ds : List D} {j : Nat} {es : List D} (h : nestAt env i k = some (ds, j, es)) : ∃ kk, k = .int kk ∧ env[i]? = some (.ow 2 (.lst ds)) ∧ ixN ds.length kk = some j ∧ ds[j]? = some (.lst es) := by
  unfold nestAt at h
  split at h
  · rename_i ds' kk q
    split at h
    · rename_i j' q2
      split at h
      · rename_i es' q3
        simp only [Option.some.injEq, Prod.mk.injEq] at h
        obtain ⟨rfl, rfl, rfl⟩ := h
        exact ⟨kk, rfl, q, q2, q3⟩
      · cases h
    · cases h
  · cases h
/-- len(x[k]) -/
def qlenx {Z : TSys} (i : Nat) (mk : MQ Z) : MQ Z := fun e t => match mk e t with
  | some (k, t1) => match nestAt e i k with
    | some (_, _, es) => some (.int es.length, t1)
    | none => none
  | none => none
section
variable {Z : TSys} {X : Cx} {e k : Expr} {es : List Expr} {x : Str} {pos xpos spos : Pos} {i : Nat}
theorem IsQ.toE {m : MQ Z} (h : IsQ Z X e m) : IsE Z X e (mq m) := ⟨PE.imp h.pe fun σ H Q ⟨ad, env, T, F, A, r, env', T', R, e, k⟩ => by
  unfold mq at e
  cases q : m env T with
  | none => rw [q] at e; cases e
  | some z =>
    obtain ⟨d, t1⟩ := z
    rw [q] at e
    simp only [Option.some.injEq, Prod.mk.injEq] at e
    obtain ⟨rfl, rfl, rfl⟩ := e
    exact ⟨ad, env, T, F, A, d, t1, R, q, fun v H' F' R' S' _ hv => k v H' F' A R' S' hv⟩⟩
theorem iq_int {n j} : IsQ Z X (.Constant (.int n) j pos) (qcst (.int n)) := ⟨PE.imp pe_int fun σ H Q ⟨ad, env, T, F, A, r, T', R, e, k⟩ => by
  simp only [qcst, Option.some.injEq, Prod.mk.injEq] at e
  obtain ⟨rfl, rfl⟩ := e
  exact k _ H F R Stp.refl (fun _ _ => rfl) (by simp only [Holds])⟩
theorem iq_var (h : PE X (.Name x pos) (tVar i)) : IsQ Z X (.Name x pos) (qvar i) := ⟨PE.imp h fun σ H Q ⟨ad, env, T, F, A, r, T', R, e, k⟩ => by
  unfold qvar at e
  cases q : env[i]? with
  | none => rw [q] at e; cases e
  | some s =>
    rw [q] at e
    cases s with
    | sh d =>
      simp only [Option.some.injEq, Prod.mk.injEq] at e
      obtain ⟨rfl, rfl⟩ := e
      obtain ⟨o, A0, A1, A2, e1, _, ⟨_, v, e2, hv⟩, _⟩ := R.env.split q
      exact ⟨v, by rw [e1, e2], k v H F R Stp.refl (fun _ _ => rfl) hv⟩
    | _ => cases e⟩
theorem iql_nil : IsQL Z X [] qnil := ⟨PA.imp pa_nil fun σ H Q ⟨ad, env, T, F, A, r, T', R, e, k⟩ => by
  simp only [qnil, Option.some.injEq, Prod.mk.injEq] at e
  obtain ⟨rfl, rfl⟩ := e
  exact k _ H F R Stp.refl (fun _ _ => rfl) .nil⟩
theorem iql_cons {m : MQ Z} {l : MQL Z} (ha : IsQ Z X e m) (hl : IsQL Z X es l) (hs : starEach (e :: es) X.env = (false, eval e X.env) :: starEach es X.env := by rfl) : IsQL Z X (e :: es) (qcons m l) := ⟨PA.imp (pa_cons ha.pe hl.pa hs) fun σ H Q ⟨ad, env, T, F, A, r, T', R, e, k⟩ => by
  unfold qcons at e
  cases q : m env T with
  | none => rw [q] at e; cases e
  | some z =>
    obtain ⟨d, t1⟩ := z
    rw [q] at e
    simp only at e
    cases q2 : l env t1 with
    | none => rw [q2] at e; cases e
    | some z =>
      obtain ⟨ds, t2⟩ := z
      rw [q2] at e
      simp only [Option.some.injEq, Prod.mk.injEq] at e
      obtain ⟨rfl, rfl⟩ := e
      exact ⟨ad, env, T, F, A, d, t1, R, q, fun v H1 F1 R1 S1 a1 hv => ⟨ad, env, t1, F1, A, ds, t2, R1, q2, fun vs H2 F2 R2 S2 a2 hvs => k (v :: vs) H2 F2 R2 (S1.trans S2) (fun a ha => (a2 a ha).trans (a1 a ha)) (.cons (hv.mono S2.sF) hvs)⟩⟩⟩
theorem iq_call {n : Nat} {f : FnM Z} {l : MQL Z} {p : Pos} (hf : Fn Z X.prog X.w X.K X.mg X.base X.A x n f) (hg : Gl X x) (ha : IsQL Z X (e :: es) l) (hdb : (x == ("__debug__" : Str)) = false := by decide)
    (he : starEach (e :: es) X.env = (false, eval e X.env) :: starEach es X.env := by rfl) (hpl : (backTo pos (starEach es X.env)).any (·.1) = false := by rfl) : IsQ Z X (.Call (.Name x p) (e :: es) [] pos) (qcall n f l) := by
  obtain ⟨k, fa, fd, ps, hn, F, hr, hm, hk, hb⟩ := hf.ex
  refine ⟨PE.imp (pe_call F hr hg hm hk hb .nil pass0 ha.pa hdb he hpl) fun σ H Q ⟨ad, env, T, F0, A, r, T', R, e, kk⟩ => ?_⟩
  unfold qcall at e
  cases q : l env T with
  | none => rw [q] at e; cases e
  | some z =>
    obtain ⟨ds, t1⟩ := z
    rw [q] at e
    simp only at e
    by_cases hl : ds.length = n
    · rw [if_pos hl] at e
      refine ⟨ad, env, T, F0, A, ds, t1, R, q, fun vs H' F' R' S' a' hv => ?_⟩
      show spD Z n f (vs ++ []) H' Q E0
      rw [List.append_nil]
      refine ⟨by rw [hv.length, hl], ad, ds, t1, F', r, T', hv, R'.bare, e, fun v H2 F2 R2 S2 hw => ?_⟩
      obtain ⟨R3, S3⟩ := R'.back R2 S2
      refine kk v H2 F2 R3 (S'.trans S3) (fun a ha => ?_) hw
      obtain ⟨_, o, ho⟩ := R'.at a ha
      rw [← a' a ha, ho]
      exact S2.fr a o ho (by simp) fun z => (R'.tf a z).2 ha
    · rw [if_neg hl] at e; cases e
/-- x[k], as the address of the item -/
theorem item_run {mk : MQ Z} {ad : Z.Ad} {env : List Sl} {T : Z.T} {F H : Hp} {σ : L2.St} {A : List Addr} (R : Rel Z ad env T F σ H A) {kd : D} {t1 : Z.T} (hk : mk env T = some (kd, t1)) {ds es : List D} {j : Nat} (hn : nestAt env i kd = some (ds, j, es)) {K : PySem.W.Frag} {Q : VK}
    (go : ∀ q vs p us H' F', Rel Z ad env t1 F' σ H' A → Stp Z ad A F H A F' H' → (∀ a ∈ A, H' a = H a) → σ[i]? = some (some (.ref q)) → H' q = some (.lst vs) → q ∈ A → vs.length = ds.length → vs[j]? = some (.ref p) → H' p = some (.lst us) → p ∈ A → Q (.ref p) H') :
    tOp (rIx K) (tVar i) (denQ Z mk) σ H Q := by
  obtain ⟨kk, rfl, h1, h2, h3⟩ := nestAt_inv hn
  obtain ⟨q, vs, e1, hq, qin, hlen, itm⟩ := R.nest h1
  refine ⟨.ref q, e1, ad, env, T, F, A, .int kk, t1, R, hk, fun v H' F' R' S' a' hv => ?_⟩
  simp only [Holds] at hv
  subst hv
  obtain ⟨p, us, w1, w2, w3, _, _, _⟩ := itm j es h3
  have hq' : H' q = some (.lst vs) := (a' q qin).trans hq
  refine .inl ⟨q, vs, kk, .ref p, rfl, rfl, SqL.of hq', ?_, go q vs p us H' F' R' S' a' e1 hq' qin hlen w1 ((a' p w3).trans w2) w3⟩
  unfold L2.atI
  rw [hlen, h2]
  exact w1
theorem iq_lenx {mk : MQ Z} {p : Pos} (hg : Gl X "len") (hm : X.mg "len" = none) (ho : PE X (.Name x xpos) (tVar i)) (hk : IsQ Z X k mk) (hs : PlainIx k := by exact fun _ _ => rfl)
    (hst : starEach [Expr.Subscript (.Name x xpos) k spos] X.env = (false, eval (Expr.Subscript (.Name x xpos) k spos) X.env) :: starEach [] X.env := by rfl) :
    IsQ Z X (.Call (.Name "len" p) [.Subscript (.Name x xpos) k spos] [] pos) (qlenx i mk) :=
  ⟨PE.imp (pe_callB call_len hg hm PySem.boot_len (pa_cons (pe_ix ix_seq ho hk.pe hs) pa_nil hst) (by decide) (by decide) hst rfl) fun σ H Q ⟨ad, env, T, F, A, r, T', R, e, kk⟩ => by
  unfold qlenx at e
  cases q : mk env T with
  | none => rw [q] at e; cases e
  | some z =>
    obtain ⟨kd, t1⟩ := z
    rw [q] at e
    simp only at e
    cases q2 : nestAt env i kd with
    | none => rw [q2] at e; cases e
    | some z =>
      obtain ⟨ds, j, es⟩ := z
      rw [q2] at e
      simp only [Option.some.injEq, Prod.mk.injEq] at e
      obtain ⟨rfl, rfl⟩ := e
      refine item_run (Q := _) R q q2 fun q vs p us H' F' R' S' a' e1 hq qin hlen w1 w2 w3 => ?_
      obtain ⟨kk2, _, h1, h2, h3⟩ := nestAt_inv q2
      obtain ⟨q', vs', e1', hq', _, _, itm⟩ := R'.nest h1
      rw [e1] at e1'; cases e1'
      rw [hq] at hq'; cases hq'
      obtain ⟨p', us', w1', w2', _, _, hu, _⟩ := itm j es h3
      rw [w1] at w1'; cases w1'
      refine ⟨.ref p, us'.length, rfl, .inl ⟨us', SqL.of w2', rfl⟩, kk _ H' F' R' S' a' ?_⟩
      simp only [Holds]
      rw [hu.length]⟩
end
/-! ### x[k].m(..), x[a] + [x[b].pop(c)], x[k] = a new list -/
def mmut2 {Z : TSys} (i : Nat) (u : List D → List D → Option (D × List D)) (mk : MQ Z) (as : MQL Z) : M Z := fun e t => match mk e t with
  | some (k, t1) => match nestAt e i k with
    | some (ds, j, es) => match as e t1 with
      | some (xs, t2) => match u xs es with
        | some (d, es') => some (d, e.set i (.ow 2 (.lst (ds.set j (.lst es')))), t2)
        | none => none
      | none => none
    | none => none
  | none => none
def mcatpop {Z : TSys} (i : Nat) (ma mb mc : MQ Z) : M Z := fun e t => match ma e t with
  | some (ka, t1) => match nestAt e i ka with
    | some (_, ja, _) => match mmut2 i uPopAt mb (qcons mc qnil) e t1 with
      | some (d, e2, t2) => match e2[i]? with
        | some (.ow 2 (.lst ds')) => match ds'[ja]? with
          | some (.lst es) => if es.length + 1 ≤ sizeLine then some (.lst (es ++ [d]), e2, t2) else none
          | _ => none
        | _ => none
      | none => none
    | none => none
  | none => none
section
variable {Z : TSys} {X : Cx} {e k : Expr} {es : List Expr} {x name : Str} {pos xpos spos apos cpos : Pos} {i : Nat} {id : String} {r : V → List V → Hp → VK → Prop} {u : List D → List D → Option (D × List D)}
theorem mut2_core (hd : MutD r u) {mk : MQ Z} {as : MQL Z} {K : PySem.W.Frag} {ad : Z.Ad} {env : List Sl} {T : Z.T} {F H : Hp} {σ : L2.St} {A : List Addr} (R : Rel Z ad env T F σ H A) {d : D} {env' : List Sl} {T' : Z.T} (e : mmut2 i u mk as env T = some (d, env', T')) {Q : VK}
    (go : ∀ v H' F', Rel Z ad env' T' F' σ H' A → Stp Z ad A F H A F' H' → (∀ q vs, σ[i]? = some (some (.ref q)) → H q = some (.lst vs) → H' q = some (.lst vs)) → Holds (Z.root ad) F' d v → Q v H') :
    tBM K "list" r (tOp (rIx K) (tVar i) (denQ Z mk)) (denQL Z as) σ H Q := by
  unfold mmut2 at e
  cases q : mk env T with
  | none => rw [q] at e; cases e
  | some z =>
    obtain ⟨kd, t1⟩ := z
    rw [q] at e
    simp only at e
    cases q2 : nestAt env i kd with
    | none => rw [q2] at e; cases e
    | some z =>
      obtain ⟨ds, j, es⟩ := z
      rw [q2] at e
      simp only at e
      cases q3 : as env t1 with
      | none => rw [q3] at e; cases e
      | some z =>
        obtain ⟨xs, t2⟩ := z
        rw [q3] at e
        simp only at e
        cases q4 : u xs es with
        | none => rw [q4] at e; cases e
        | some z =>
          obtain ⟨d', es'⟩ := z
          rw [q4] at e
          simp only [Option.some.injEq, Prod.mk.injEq] at e
          obtain ⟨rfl, rfl, rfl⟩ := e
          refine item_run R q q2 fun q vs p us H1 F1 R1 S1 a1 e1 hq qin hlen w1 w2 w3 => ⟨.inl ⟨rfl, us, SqL.of w2⟩, ?_⟩
          refine ⟨ad, env, t1, F1, A, xs, t2, R1, q3, fun vxs H2 F2 R2 S2 a2 hx => ?_⟩
          obtain ⟨kk2, _, h1, h2, h3⟩ := nestAt_inv q2
          obtain ⟨q', vs', e1', hq', _, _, itm⟩ := R2.nest h1
          rw [e1] at e1'; cases e1'
          rw [a2 q qin, hq] at hq'; cases hq'
          obtain ⟨p', us', w1', w2', _, npq, hu, chg⟩ := itm j es h3
          rw [w1] at w1'; cases w1'
          refine hd _ F2 H2 p us' es xs vxs d' es' Q R2.same w2' hu hx q4 fun v vs2 hv hl2 => ?_
          obtain ⟨R3, S3⟩ := chg es' vs2 hl2
          refine go v _ F2 R3 ((S1.trans S2).trans S3) (fun q3 vs3 g1 g2 => ?_) hv
          rw [e1] at g1; cases g1
          rw [L2.upd_ne (Ne.symm npq), a2 q qin, a1 q qin]
          exact g2
theorem ie_mut2 {mk : MQ Z} {as : MQL Z} (slot : Slot "list" name id) (hty : typeOf (.builtin id) = pure (.type "method_descriptor")) (hm : MtR X id r) (hd : MutD r u) (ho : PE X (.Name x xpos) (tVar i)) (hk : IsQ Z X k mk) (ha : IsQL Z X (e :: es) as) (hp : PlainIx k := by exact fun _ _ => rfl)
    (hbase : attributeBase (.Subscript (.Name x xpos) k spos) name X.env (eval (.Subscript (.Name x xpos) k spos) X.env) = eval (.Subscript (.Name x xpos) k spos) X.env := by rfl)
    (hfew : ((backTo cpos (starEach (e :: es) X.env)).all (fun x => !x.1) && (backToKw cpos (keywordEach [] X.env)).all (fun x => x.1.isSome)
      && decide ((e :: es).length + ([] : List Keyword).length + (if ([] : List Keyword).isEmpty then 0 else 1) < 30)) = true := by rfl)
    (hline : (apos.endLine == cpos.line) = true := by rfl) (hs : starEach (e :: es) X.env = (false, eval e X.env) :: starEach es X.env := by rfl) (hplain : (backTo cpos (starEach es X.env)).any (·.1) = false := by rfl) :
    IsE Z X (.Call (.Attribute (.Subscript (.Name x xpos) k spos) name apos) (e :: es) [] cpos) (mmut2 i u mk as) :=
  ⟨PE.imp (pe_bm PySem.F.plainAttrs_list slot hty hm (pe_ix ix_seq ho hk.pe hp) ha.pa hbase hfew hline hs hplain) fun σ H Q ⟨ad, env, T, F, A, d, env', T', R, e, kk⟩ =>
    mut2_core hd R e fun v H' F' R' S' _ hv => kk v H' F' A R' S' hv⟩
theorem io_catpop {a b c : Expr} {ma mb mc : MQ Z} {x2pos s2pos lpos : Pos} (ho : PE X (.Name x xpos) (tVar i)) (ho2 : PE X (.Name x x2pos) (tVar i)) (ha : IsQ Z X a ma) (hb : IsQ Z X b mb) (hc : IsQ Z X c mc) (hpa : PlainIx a := by exact fun _ _ => rfl) (hpb : PlainIx b := by exact fun _ _ => rfl)
    (hbase : attributeBase (.Subscript (.Name x x2pos) b s2pos) ("pop" : Str) X.env (eval (.Subscript (.Name x x2pos) b s2pos) X.env) = eval (.Subscript (.Name x x2pos) b s2pos) X.env := by rfl)
    (hfew : ((backTo cpos (starEach [c] X.env)).all (fun x => !x.1) && (backToKw cpos (keywordEach [] X.env)).all (fun x => x.1.isSome)
      && decide (([c] : List Expr).length + ([] : List Keyword).length + (if ([] : List Keyword).isEmpty then 0 else 1) < 30)) = true := by rfl)
    (hline : (apos.endLine == cpos.line) = true := by rfl) (hs : starEach [c] X.env = (false, eval c X.env) :: starEach [] X.env := by rfl)
    (hs2 : starEach [.Call (.Attribute (.Subscript (.Name x x2pos) b s2pos) ("pop" : Str) apos) [c] [] cpos] X.env = (false, eval (.Call (.Attribute (.Subscript (.Name x x2pos) b s2pos) ("pop" : Str) apos) [c] [] cpos) X.env) :: starEach [] X.env := by rfl) :
    IsO Z 1 X (.BinOp (.Subscript (.Name x xpos) a spos) .Add (.List [.Call (.Attribute (.Subscript (.Name x x2pos) b s2pos) ("pop" : Str) apos) [c] [] cpos] lpos) pos) (mcatpop i ma mb mc) :=
  ⟨PE.imp (pe_op op_cat (pe_ix ix_seq ho ha.pe hpa) (pe_lst (pa_cons (pe_bm PySem.F.plainAttrs_list PySem.F.slot_list_pop PySem.F.type_list_pop mt_popAt (pe_ix ix_seq ho2 hb.pe hpb) (iql_cons hc iql_nil hs).pa hbase hfew hline hs rfl) pa_nil hs2))) fun σ H Q ⟨ad, env, T, F, A, d, env', T', R, e, kk⟩ => by
    unfold mcatpop at e
    cases q : ma env T with
    | none => rw [q] at e; cases e
    | some z =>
      obtain ⟨ka, t1⟩ := z
      rw [q] at e
      simp only at e
      cases q2 : nestAt env i ka with
      | none => rw [q2] at e; cases e
      | some z =>
        obtain ⟨ds, ja, es0⟩ := z
        rw [q2] at e
        simp only at e
        cases q3 : mmut2 i uPopAt mb (qcons mc qnil) env t1 with
        | none => rw [q3] at e; cases e
        | some z =>
          obtain ⟨d1, e2, t2⟩ := z
          rw [q3] at e
          simp only at e
          cases q4 : e2[i]? with
          | none => rw [q4] at e; cases e
          | some sl =>
            rw [q4] at e
            match sl, q4, e with
            | .ow 2 (.lst ds'), q4, e =>
              simp only at e
              cases q5 : ds'[ja]? with
              | none => rw [q5] at e; cases e
              | some it =>
                rw [q5] at e
                match it, q5, e with
                | .lst es, q5, e =>
                  simp only at e
                  by_cases hz : es.length + 1 ≤ sizeLine
                  · rw [if_pos hz] at e
                    simp only [Option.some.injEq, Prod.mk.injEq] at e
                    obtain ⟨rfl, rfl, rfl⟩ := e
                    show tOp (rIx X.K) (tVar i) (denQ Z ma) σ H _
                    refine item_run R q q2 fun qa vs p us H1 F1 R1 S1 a1 e1 hq qin hlen w1 w2 w3 => ?_
                    refine mut2_core (K := X.K) ud_popAt R1 q3 fun v H2 F2 R2 S2 keep hv => ?_
                    have hq2 : H2 qa = some (.lst vs) := keep qa vs e1 hq
                    obtain ⟨q', vs', e1', hq', _, _, itm⟩ := R2.nest q4
                    rw [e1] at e1'; cases e1'
                    rw [hq2] at hq'; cases hq'
                    obtain ⟨p', us', w1', w2', w3', npq, hu, _⟩ := itm ja es q5
                    rw [w1] at w1'; cases w1'
                    refine ⟨sz1000 (by simp), fun pp hpp => ?_⟩
                    have np : p ≠ pp := fun z => by rw [z, hpp] at w2'; cases w2'
                    refine ⟨p, pp, us', [v], rfl, rfl, (L2.upd_ne np).trans w2', L2.upd_same, by simpa [hu.length] using hz, fun r hr => ?_⟩
                    obtain ⟨R3, S3⟩ := R2.own hpp (.lst [v])
                    obtain ⟨R4, S4⟩ := R3.own hr (.lst (us' ++ [v]))
                    have hr2 : H2 r = none := by
                      by_cases z : r = pp
                      · subst z; rw [L2.upd_same] at hr; cases hr
                      · rw [L2.upd_ne z] at hr; exact hr
                    have S0 := S1.trans S2
                    have fr : F2 r = none := R2.same.free hr2
                    obtain ⟨nA, nT⟩ := R2.notin hr2
                    exact kk (.ref r) _ F2 A [r] R4 ((S0.trans S3).trans S4) ⟨r, [], rfl, fr, rfl, us' ++ [v], L2.upd_same, OwnL.ofHolds (hu.app (.one hv))⟩ (by simp) fun a ha => by
                      have : a = r := by simpa using ha
                      subst this
                      exact ⟨nA, S0.none hr2, nT⟩
                  · rw [if_neg hz] at e; cases e⟩
end
end DL

/-! The data layer: comprehensions whose elements are owned. -/
namespace DL
open PySem L2

theorem OwnL.over {Z : TSys} {ad : Z.Ad} {rt : V} {A A1 : List Addr} {F H F1 H1 : Hp} {n : Nat} (S : Stp Z ad A F H A1 F1 H1) : ∀ {ds : List D} {vs : List V} {B : List Addr}, OwnL (Own rt F H n) ds vs B → (∀ a ∈ B, a ∉ A ∧ a ∉ Z.addrs ad) → OwnL (Own rt F1 H1 n) ds vs B ∧ ∀ a ∈ B, a ∉ A1 ∧ ∃ o, H a = some o
  | [], _, _, h, _ => ⟨h, fun a ha => by rw [h.2] at ha; cases ha⟩
  | d :: ds, _, _, h, hB => by
    obtain ⟨v, r, B1, B2, e1, e2, h1, h2⟩ := h
    subst e1 e2
    obtain ⟨k1, k2⟩ := h1.over S fun a ha => hB a (List.mem_append_left _ ha)
    obtain ⟨k3, k4⟩ := h2.over S fun a ha => hB a (List.mem_append_right _ ha)
    refine ⟨⟨v, r, B1, B2, rfl, rfl, k1, k3⟩, fun a ha => ?_⟩
    rcases List.mem_append.mp ha with z | z
    · exact k2 a z
    · exact k4 a z
theorem OwnL.app {P : D → V → List Addr → Prop} : ∀ {ds es : List D} {vs us : List V} {A B : List Addr}, OwnL P ds vs A → OwnL P es us B → OwnL P (ds ++ es) (vs ++ us) (A ++ B)
  | [], _, _, _, _, _, h, k => by obtain ⟨e1, e2⟩ := h; subst e1 e2; exact k
  | d :: ds, _, _, _, _, _, h, k => by
    obtain ⟨v, r, A1, A2, e1, e2, h1, h2⟩ := h
    subst e1 e2
    exact ⟨v, _, A1, _, rfl, by simp [List.append_assoc], h1, h2.app k⟩
theorem OwnL.keep {rt : V} {F F' H H' : Hp} {n : Nat} (s : Same F F') {ds : List D} {vs : List V} {B : List Addr} (h : OwnL (Own rt F H n) ds vs B) (k : ∀ a ∈ B, H' a = H a ∧ F' a = none) : OwnL (Own rt F' H' n) ds vs B :=
  h.imp fun d v C hC hP => hP.keep s fun a ha => k a (hC a ha)
theorem OwnL.at {rt : V} {F H : Hp} {n : Nat} : ∀ {ds : List D} {vs : List V} {B : List Addr}, OwnL (Own rt F H n) ds vs B → ∀ a ∈ B, F a = none ∧ ∃ o, H a = some o
  | [], _, _, h, a, ha => by rw [h.2] at ha; cases ha
  | d :: ds, _, _, h, a, ha => by
    obtain ⟨v, r, B1, B2, e1, e2, h1, h2⟩ := h
    subst e2
    rcases List.mem_append.mp ha with z | z
    · exact h1.at a z
    · exact h2.at a z
section
variable {Z : TSys}
theorem lc_loopO {n : Nat} {own is : List Nat} {g : G} {tt : MB Z} {el : M Z} (sub : ∀ j ∈ is, j ∈ own) {ad : Z.Ad} {ds : List D} {J : It} {σ : L2.St} {L : Addr} {e1 : List Sl} {t1 : Z.T} {F1 H1 : Hp} {A1 : List Addr} {acc : List D} {e2 : List Sl} {t2 : Z.T} {K : Hp → Prop}
    (R1 : Rel Z ad e1 t1 F1 (L2.wipe σ own) H1 A1) (o1 : Out Z ad L A1 F1) (h1 : H1 L = some (.lst [])) (wk : Walks (Z.root ad) F1 ds J) (hz : acc.length ≤ sizeLine)
    (q : lcL own g tt el ds [] e1 t1 = some (acc, e2, t2))
    (hK : ∀ H' F' A' us B, Rel Z ad e2 t2 F' (L2.wipe σ own) H' A' → (∀ a o, H1 a = some o → a ∉ A1 → a ∉ Z.addrs ad → a ≠ L → H' a = some o) → Same F1 F' → (∀ a, F' a ≠ none → F1 a ≠ none ∨ a ∈ A1 ∨ H1 a = none) → (∀ a ∈ A', a ∈ A1 ∨ H1 a = none) → (∀ a o, H1 a = some o → ∃ o', H' a = some o') → Out Z ad L A' F' → H' L = some (.lst us) →
      OwnL (Own (Z.root ad) F' H' n) acc us B → B.Nodup → (∀ a ∈ B, a ∉ A' ∧ a ∉ Z.addrs ad ∧ a ≠ L ∧ H1 a = none) → K H') :
    ∃ W : Nat → Nat → Hp → Prop, (∃ m, W 0 m H1) ∧ ∀ i m H, W i m H → (J.stop i H ∧ K H) ∨ (J.go i H ∧ ∃ Nx : Hp → Prop, (∀ H', Nx H' → ∃ m', m' < m ∧ W (i + 1) m' H') ∧ ∀ x H', J.yld i H x H' → denG Z is g x (L2.wipe σ own) H' fun σ2 H2 => L2.wipe σ2 own = L2.wipe σ own ∧ denB Z tt σ2 H2 fun b H3 =>
      if b = true then denO Z n el σ2 H3 fun y H4 => ∃ acc, H4 L = some (.lst acc) ∧ acc.length < sizeLine ∧ Nx (upd H4 L (.lst (acc ++ [y]))) else Nx H3) := by
  let W : Nat → Nat → Hp → Prop := fun i m H' => m = ds.length - i ∧ ∃ (en : List Sl) (T2 : Z.T) (F2 : Hp) (A2 : List Addr) (ac : List D) (us : List V) (B : List Addr),
    Rel Z ad en T2 F2 (L2.wipe σ own) H' A2 ∧ ((∀ a o, H1 a = some o → a ∉ A1 → a ∉ Z.addrs ad → a ≠ L → H' a = some o) ∧ Same F1 F2 ∧ (∀ a, F2 a ≠ none → F1 a ≠ none ∨ a ∈ A1 ∨ H1 a = none) ∧ (∀ a ∈ A2, a ∈ A1 ∨ H1 a = none) ∧ (∀ a o, H1 a = some o → ∃ o', H' a = some o')) ∧ Out Z ad L A2 F2 ∧ H' L = some (.lst us) ∧
    OwnL (Own (Z.root ad) F2 H' n) ac us B ∧ B.Nodup ∧ (∀ a ∈ B, a ∉ A2 ∧ a ∉ Z.addrs ad ∧ a ≠ L ∧ H1 a = none) ∧ lcL own g tt el (ds.drop i) ac en T2 = some (acc, e2, t2)
  have bck : ∀ {H2 : Hp}, (∀ a o, H1 a = some o → ∃ o', H2 a = some o') → ∀ a, H2 a = none → H1 a = none := fun c5 a e => by
    cases q : H1 a with
    | none => rfl
    | some o => obtain ⟨o', e'⟩ := c5 a o q; rw [e] at e'; cases e'
  have go : ∀ {A2 A3 : List Addr} {F2 F3 H2 H3 : Hp}, (∀ a o, H1 a = some o → a ∉ A1 → a ∉ Z.addrs ad → a ≠ L → H2 a = some o) ∧ Same F1 F2 ∧ (∀ a, F2 a ≠ none → F1 a ≠ none ∨ a ∈ A1 ∨ H1 a = none) ∧ (∀ a ∈ A2, a ∈ A1 ∨ H1 a = none) ∧ (∀ a o, H1 a = some o → ∃ o', H2 a = some o') → Stp Z ad A2 F2 H2 A3 F3 H3 →
      (∀ a o, H1 a = some o → a ∉ A1 → a ∉ Z.addrs ad → a ≠ L → H3 a = some o) ∧ Same F1 F3 ∧ (∀ a, F3 a ≠ none → F1 a ≠ none ∨ a ∈ A1 ∨ H1 a = none) ∧ (∀ a ∈ A3, a ∈ A1 ∨ H1 a = none) ∧ (∀ a o, H1 a = some o → ∃ o', H3 a = some o') := by
    intro A2 A3 F2 F3 H2 H3 ⟨c1, c2, c3, c4, c5⟩ S
    refine ⟨fun a o e hA hT hL => S.fr a o (c1 a o e hA hT hL) (fun z => ?_) hT, c2.trans S.sF, fun a ha => ?_, fun a ha => ?_, fun a o e => ?_⟩
    · rcases c4 a z with w | w
      · exact hA w
      · rw [e] at w; cases w
    · rcases S.nF a ha with w | w | w
      · exact c3 a w
      · exact .inr (c4 a w)
      · exact .inr (.inr (bck c5 a w))
    · rcases S.nA a ha with w | w
      · exact c4 a w
      · exact .inr (bck c5 a w)
    · obtain ⟨o', e'⟩ := c5 a o e
      exact S.ex a o' e'
  refine ⟨W, ⟨ds.length, by simp, e1, t1, F1, A1, [], [], [], R1, ⟨fun _ _ h _ _ _ => h, Same.refl _, fun _ h => .inl h, fun _ h => .inl h, fun _ o h => ⟨o, h⟩⟩, o1, h1, ⟨rfl, rfl⟩, List.nodup_nil, (fun a ha => by cases ha), q⟩, ?_⟩
  rintro i m H2 ⟨rfl, en, T2, F2, A2, ac, us, B, R2, c, hap, hDu, hac, nB, hB, e3⟩
  have sF : Same F1 H2 := c.2.1.trans R2.same
  by_cases hlt : i < ds.length
  · refine .inr ⟨wk.go i H2 ds[i] sF (List.getElem?_eq_getElem hlt), fun H' => W (i + 1) (ds.length - (i + 1)) H', fun H' h => ⟨_, by omega, h⟩, fun x H3 y => ?_⟩
    obtain ⟨F3, n3, hx⟩ := wk.yld i H2 ds[i] x H3 F2 sF R2.same c.2.1 (List.getElem?_eq_getElem hlt) y
    obtain ⟨R3, S3⟩ := R2.new n3
    rw [List.drop_eq_getElem_cons hlt] at e3
    simp only [lcL] at e3
    cases q3 : g ds[i] (wipeE en own) with
    | none => rw [q3] at e3; cases e3
    | some e4 =>
      rw [q3] at e3
      simp only at e3
      obtain ⟨A3w, R3w, S3w⟩ := R3.wipe own
      rw [wipe_wipe] at R3w
      refine ⟨ad, wipeE en own, T2, F3, A3w, ds[i], e4, R3w, hx, q3, fun σ4 A4 R4 S4 l4 o4 => ?_⟩
      have eσ : L2.wipe σ4 own = L2.wipe σ own := by
        rw [wipe_agree (τ := L2.wipe σ own) l4 fun j hj => o4 j fun z => hj (sub j z), wipe_wipe]
      refine ⟨eσ, ?_⟩
      have S24 := (S3.trans S3w).trans S4
      cases q4 : tt e4 T2 with
      | none => rw [q4] at e3; cases e3
      | some z4 =>
        obtain ⟨b4, e5, t5⟩ := z4
        rw [q4] at e3
        refine ⟨ad, e4, T2, F3, A4, b4, e5, t5, R4, q4, fun H5 F5 A5 R5 S5 => ?_⟩
        have S25 := S24.trans S5
        cases b4 with
        | false =>
          simp only at e3
          refine iteF ?_
          obtain ⟨A6, R6, S6⟩ := R5.wipe own
          rw [eσ] at R6
          have S26 := S25.trans S6
          obtain ⟨ap, hD6⟩ := hap.step S26 hDu
          obtain ⟨hac6, out6⟩ := hac.over S26 fun a ha => ⟨(hB a ha).1, (hB a ha).2.1⟩
          exact ⟨rfl, _, _, F5, A6, ac, us, B, R6, go c S26, ap, hD6, hac6, nB, fun a ha => ⟨(out6 a ha).1, (hB a ha).2⟩, e3⟩
        | true =>
          simp only at e3
          refine iteT ?_
          cases q5 : el e5 t5 with
          | none => rw [q5] at e3; cases e3
          | some z5 =>
            obtain ⟨y5, e6, t6⟩ := z5
            rw [q5] at e3
            simp only at e3
            refine ⟨ad, e5, t5, F5, A5, y5, e6, t6, R5, q5, fun v6 H6 F6 A6 B6 R6 S6 hv6 nB6 hB6 => ?_⟩
            obtain ⟨A7, R7, S7⟩ := R6.wipe own
            rw [eσ] at R7
            have S27 := (S25.trans S6).trans S7
            obtain ⟨ap5, hD5⟩ := hap.step S25 hDu
            obtain ⟨ap, hD6⟩ := hap.step S27 hDu
            obtain ⟨hac5, out5⟩ := hac.over S25 fun a ha => ⟨(hB a ha).1, (hB a ha).2.1⟩
            obtain ⟨hac7, out7⟩ := hac.over S27 fun a ha => ⟨(hB a ha).1, (hB a ha).2.1⟩
            obtain ⟨hv7, outv⟩ := hv6.over S7 fun a ha => ⟨(hB6 a ha).1, (hB6 a ha).2.2⟩
            have hl := (lcL_len e3).1
            simp only [List.length_append, List.length_singleton] at hl
            refine ⟨us, hD6, by rw [hac.length]; omega, ?_⟩
            obtain ⟨c1, c2, c3, c4, c5⟩ := go c S27
            have c5' := (go c S25).2.2.2.2
            have nL6 : ∀ a ∈ B6, a ≠ L := fun a ha z => by
              subst z
              rw [(hB6 a ha).2.1] at hD5; cases hD5
            refine ⟨rfl, _, _, F6, A7, ac ++ [y5], us ++ [v6], B ++ B6, R7.grow ap _, ⟨fun a o z hA hT hL => ?_, c2, c3, c4, fun a o z => ?_⟩, ap, upd_same, ?_, ?_, fun a ha => ?_, e3⟩
            · rw [upd_ne hL]; exact c1 a o z hA hT hL
            · by_cases w : a = L
              · subst w; exact ⟨_, upd_same⟩
              · rw [upd_ne w]; exact c5 a o z
            · refine OwnL.app (hac7.keep (Same.refl _) fun a ha => ⟨upd_ne (hB a ha).2.2.1, (hac7.at a ha).1⟩) ⟨v6, [], B6, [], rfl, by simp, hv7.keep (Same.refl _) fun a ha => ⟨upd_ne (nL6 a ha), (hv7.at a ha).1⟩, rfl, rfl⟩
            · refine List.nodup_append.mpr ⟨nB, nB6, fun a ha b hb z => ?_⟩
              subst z
              obtain ⟨_, o, ho⟩ := hac5.at a ha
              rw [(hB6 a hb).2.1] at ho; cases ho
            · rcases List.mem_append.mp ha with z | z
              · exact ⟨(out7 a z).1, (hB a z).2⟩
              · exact ⟨(outv a z).1, (hB6 a z).2.2, nL6 a z, bck c5' a (hB6 a z).2.1⟩
  · refine .inl ⟨wk.stop i H2 sF (by omega), ?_⟩
    rw [List.drop_eq_nil_of_le (by omega)] at e3
    simp only [lcL, Option.some.injEq, Prod.mk.injEq] at e3
    obtain ⟨rfl, rfl, rfl⟩ := e3
    obtain ⟨c1, c2, c3, c4, c5⟩ := c
    exact hK H2 F2 A2 us B R2 c1 c2 c3 c4 c5 hap hDu hac nB hB
end
section
variable {Z : TSys} {X : Cx}
theorem lc_runO {n : Nat} {own is : List Nat} {src : ML Z} {g : G} {tt : MB Z} {el : M Z} (sub : ∀ j ∈ is, j ∈ own) {σ : L2.St} {H : Hp} {Q : VK} (h : denO Z (n + 1) (mlc own src g tt el) σ H Q) :
    tLc (denI Z src) (denG Z is g) (denB Z tt) (denO Z n el) own σ H Q := by
  obtain ⟨ad, env, T, F, A, r, env', T', R, e, k⟩ := h
  unfold mlc at e
  cases q : src env T with
  | none => rw [q] at e; cases e
  | some z =>
    obtain ⟨ds, e1, t1⟩ := z
    rw [q] at e
    simp only at e
    by_cases hok : (ownOk e1 own && decide (ds.length ≤ sizeLine)) = true
    · rw [if_pos hok] at e
      have ok1 : ownOk e1 own = true := (Bool.and_eq_true_iff.mp hok).1
      have ok2 : ds.length ≤ sizeLine := of_decide_eq_true (Bool.and_eq_true_iff.mp hok).2
      cases q2 : lcL own g tt el ds [] (wipeE e1 own) t1 with
      | none => rw [q2] at e; cases e
      | some z2 =>
        obtain ⟨acc, e2, t2⟩ := z2
        rw [q2] at e
        simp only [Option.some.injEq, Prod.mk.injEq] at e
        obtain ⟨rfl, rfl, rfl⟩ := e
        refine ⟨ad, env, T, F, A, ds, e1, t1, R, q, fun J H1 F1 A1 R1 S1 wk L hL => ?_⟩
        obtain ⟨Aw, Rw, Sw⟩ := R1.wipe own
        obtain ⟨RD, SD⟩ := Rw.own hL (.lst [])
        obtain ⟨nD1, nD2⟩ := Rw.notin hL
        have fD : F1 L = none := R1.same.free hL
        refine lc_loopO (n := n) sub RD ⟨nD1, fD, nD2⟩ upd_same wk (by have := (lcL_len q2).2; simp at this; omega) q2 fun H2 F2 A2 us B R2 c1 c2 c3 c4 c5 ap hD hac nB hB => ?_
        have back1 : ∀ a, a ≠ L → L2.upd H1 L (.lst []) a = none → H1 a = none := fun a z w => by rw [upd_ne z] at w; exact w
        have S2 : Stp Z ad Aw F1 H1 A2 F2 H2 := ⟨c2, fun a ha => ?_, fun a ha => ?_, fun a o e hA hT => ?_, fun a o e => ?_⟩
        · obtain ⟨A4, R4, S4⟩ := R1.rest ok1 c2 own (fun v hv => hv) R2 (env2 := e2) (A2 := A2)
          rw [restS_wipe] at R4
          have S := (S1.trans (Sw.trans S2)).trans S4
          obtain ⟨ap4, hD4⟩ := ap.step S4 hD
          obtain ⟨hac4, out4⟩ := hac.over S4 fun a ha => ⟨(hB a ha).1, (hB a ha).2.1⟩
          refine k _ H2 F2 A4 (L :: B) R4 S ⟨L, B, rfl, ap4.2.1, rfl, us, hD4, hac4⟩ (List.nodup_cons.mpr ⟨fun z => (hB L z).2.2.1 rfl, nB⟩) fun a ha => ?_
          rcases List.mem_cons.mp ha with z | z
          · subst z
            exact ⟨ap4.1, S1.none hL, ap4.2.2⟩
          · exact ⟨(out4 a z).1, S1.none (back1 a (hB a z).2.2.1 (hB a z).2.2.2), (hB a z).2.1⟩
        · rcases c3 a ha with w | w | w
          · exact .inl w
          · exact .inr (.inl w)
          · by_cases z : a = L
            · subst z; exact .inr (.inr hL)
            · exact .inr (.inr (back1 a z w))
        · rcases c4 a ha with w | w
          · exact .inl w
          · by_cases z : a = L
            · subst z; exact .inr hL
            · exact .inr (back1 a z w)
        · have z : a ≠ L := fun z => by subst z; rw [hL] at e; cases e
          exact c1 a o (by rw [upd_ne z]; exact e) hA hT z
        · have z : a ≠ L := fun z => by subst z; rw [hL] at e; cases e
          exact c5 a o (by rw [upd_ne z]; exact e)
    · rw [if_neg hok] at e; cases e
end
section
variable {Z : TSys} {X : Cx} {elt tg iter : Expr} {ifs : List Expr} {scope : Scope} {own : List (Str × Nat)} {pos spos : Pos} {src : ML Z} {is : List Nat} {g : G} {tt : MB Z} {el : M Z} {n : Nat}
theorem io_lcN (own : List (Str × Nat)) (hc : X.calm = true) (hN : X.N.Nodup) (hi : IsI Z X tg iter src) (ok : BlkOk X.N X.env.scope scope own)
    (hg : ∀ (s : Shared) (H : Hp) (C : Addr) (cl : List (Str × Addr)) (fp : List Addr), IsG Z (X.blk s H scope (compEnvC scope cl C X.env) fp) tg is g) (ht : ∀ (s : Shared) (H : Hp) (C : Addr) (cl : List (Str × Addr)) (fp : List Addr), IsTs Z (X.blk s H scope (compEnvC scope cl C X.env) fp) ifs tt)
    (he : ∀ (s : Shared) (H : Hp) (C : Addr) (cl : List (Str × Addr)) (fp : List Addr), IsO Z n (X.blk s H scope (compEnvC scope cl C X.env) fp) elt el) (sub : ∀ j ∈ is, j ∈ own.map (·.2) := by decide) (hs : ∀ x, foldedSetIterable iter X.env x = pure x := by intro _; rfl) :
    IsO Z (n + 1) X (.ListComp elt [⟨tg, iter, ifs, 0⟩] scope pos) (mlc (own.map (·.2)) src g tt el) :=
  ⟨PE.imp (pe_lc hc hN hi.pi ok (fun s H C cl fp => (hg s H C cl fp).pg) (fun s H C cl fp => (ht s H C cl fp).pt) (fun s H C cl fp => (he s H C cl fp).pe) hs) fun σ H Q h => lc_runO sub h⟩
theorem is_lcN (own : List (Str × Nat)) {i : Nat} {y : Str} {py : Pos} (hc : X.calm = true) (hN : X.N.Nodup) (hy : X.N[i]? = some y) (hyl : X.env.scope.names.lookup y = some .local)
    (hsw : swapsWith (.ListComp elt [⟨tg, iter, ifs, 0⟩] scope pos) (some (.Name y py)) spos.line X.env = pure true) (hi : IsI Z X tg iter src) (ok : BlkOk X.N X.env.scope scope own)
    (hg : ∀ (s : Shared) (H : Hp) (C : Addr) (cl : List (Str × Addr)) (fp : List Addr), IsG Z (X.blk s H scope (compEnvC scope cl C X.env) fp) tg is g) (ht : ∀ (s : Shared) (H : Hp) (C : Addr) (cl : List (Str × Addr)) (fp : List Addr), IsTs Z (X.blk s H scope (compEnvC scope cl C X.env) fp) ifs tt)
    (he : ∀ (s : Shared) (H : Hp) (C : Addr) (cl : List (Str × Addr)) (fp : List Addr), IsO Z n (X.blk s H scope (compEnvC scope cl C X.env) fp) elt el) (sub : ∀ j ∈ is, j ∈ own.map (·.2) := by decide) (hs : ∀ x, foldedSetIterable iter X.env x = pure x := by intro _; rfl) :
    IsS Z X (.Assign [.Name y py] (.ListComp elt [⟨tg, iter, ifs, 0⟩] scope pos) spos) (ssetO i (n + 1) (mlc (own.map (·.2)) src g tt el)) :=
  ⟨PS.imp (ps_setLc hc hN hy hyl hsw hi.pi ok (fun s H C cl fp => (hg s H C cl fp).pg) (fun s H C cl fp => (ht s H C cl fp).pt) (fun s H C cl fp => (he s H C cl fp).pe) hs) fun D σ H h => setO_core (fun _ _ _ h => lc_runO sub h) h⟩
end
/-! ### x[k] = a new list -/
def ssub2 {Z : TSys} (i : Nat) (mk : MQ Z) (me : M Z) : SM Z := fun e t => match me e t with
  | some (d, e1, t1) => match mk e1 t1 with
    | some (.int k, t2) => match e1[i]? with
      | some (.ow 2 (.lst ds)) => match ixN ds.length k with
        | some j => some (.nx, e1.set i (.ow 2 (.lst (ds.set j d))), t2)
        | none => none
      | _ => none
    | _ => none
  | none => none
section
variable {Z : TSys} {X : Cx} {x : Str} {xpos pos spos : Pos} {e k : Expr} {i : Nat} {mk : MQ Z} {me : M Z}
theorem is_sub2 (he : IsO Z 1 X e me) (ho : PE X (.Name x xpos) (tVar i)) (hk : IsQ Z X k mk) (hs : swapsWithSole [.Subscript (.Name x xpos) k spos] e pos.line X.env = pure false := by rfl) (hw : swappedStores [.Subscript (.Name x xpos) k spos] e X.env = pure none := by rfl)
    (h1 : (assignEach [.Subscript (.Name x xpos) k spos] X.env).map (·.2) = [assign (.Subscript (.Name x xpos) k spos) X.env] := by rfl)
    (ha : ∀ v, assign (.Subscript (.Name x xpos) k spos) X.env v = (do
      let ov ← holding [v] (eval (.Name x xpos) X.env)
      let iv ← holding [v, ov] (eval k X.env)
      standAt spos
      holding [v, ov, iv] (setItem ov iv v)
      release [v, ov, iv] []) := by intro _; rfl) : IsS Z X (.Assign [.Subscript (.Name x xpos) k spos] e pos) (ssub2 i mk me) :=
  ⟨PS.imp (ps_asg he.pe (pg_sub ho hk.pe set_list ha) hs hw h1) fun Dn σ H ⟨ad, env, T, F, A, fl, env', T', R, e, kk⟩ => by
    unfold ssub2 at e
    cases q : me env T with
    | none => rw [q] at e; cases e
    | some z =>
      obtain ⟨d, e1, t1⟩ := z
      rw [q] at e
      simp only at e
      refine ⟨ad, env, T, F, A, d, e1, t1, R, q, fun v H' F' A' B R' S' hv nB hB => ?_⟩
      cases q2 : mk e1 t1 with
      | none => rw [q2] at e; cases e
      | some z2 =>
        obtain ⟨dk, t2⟩ := z2
        rw [q2] at e
        cases dk with
        | int kx =>
          simp only at e
          cases q1 : e1[i]? with
          | none => rw [q1] at e; cases e
          | some sl =>
            rw [q1] at e
            match sl, q1, e with
            | .ow 2 (.lst ds), q1, e =>
              simp only at e
              cases q3 : ixN ds.length kx with
              | none => rw [q3] at e; cases e
              | some j =>
                rw [q3] at e
                simp only [Option.some.injEq, Prod.mk.injEq] at e
                obtain ⟨rfl, rfl, rfl⟩ := e
                have hjl : j < ds.length := (ixN_seq q3).2.1
                have hj : ds[j]? = some ds[j] := List.getElem?_eq_getElem hjl
                obtain ⟨q, vs, e0, _⟩ := R'.nest q1
                refine ⟨.ref q, e0, ad, e1, t1, F', A', .int kx, t2, R', q2, fun w H2 F2 R2 S2 a2 hw => ?_⟩
                simp only [Holds] at hw
                subst hw
                obtain ⟨hv2, out2⟩ := hv.over S2 fun a ha => ⟨(hB a ha).1, (hB a ha).2.2⟩
                obtain ⟨q', vs', A3, e0', hq, hlen, R3, sA, qin⟩ := R2.nestSet q1 hj hv2 nB fun a ha => ⟨(out2 a ha).1, (hB a ha).2.2⟩
                rw [e0] at e0'; cases e0'
                refine ⟨q, vs', kx, j, rfl, rfl, hq, by rw [hlen]; exact q3, kk σ _ F2 A3 R3 ?_⟩
                have S := S'.trans S2
                refine ⟨S.sF, S.nF, fun a ha => ?_, fun a o z hA hT => ?_, fun a o z => ?_⟩
                · rcases sA a ha with z | z
                  · exact S.nA a z
                  · exact .inr (hB a z).2.1
                · have hne : a ≠ q := fun w => by
                    subst w
                    rcases S.nA a qin with w | w
                    · exact hA w
                    · rw [z] at w; cases w
                  rw [upd_ne hne]
                  exact S.fr a o z hA hT
                · obtain ⟨o', z'⟩ := S.ex a o z
                  by_cases w : a = q
                  · subst w; exact ⟨_, upd_same⟩
                  · rw [upd_ne w]; exact ⟨o', z'⟩
        | _ => cases e⟩
end
end DL

/-! The draws' tape, first kind: a list of a place and the cells. -/
namespace DL
open PySem L2

structure Tp where
  pl : Int
  cs : List Int
structure TpAt (ad : Addr × Addr) (t : Tp) (H : Hp) : Prop where
  hp : H ad.1 = some (.lst [.int t.pl, .ref ad.2])
  hq : H ad.2 = some (.lst (t.cs.map V.int))
  ne : ad.1 ≠ ad.2
  ok : t.cs ≠ []
  le : t.cs.length ≤ 63
@[reducible] def tz : TSys where
  T := Tp
  Ad := Addr × Addr
  addrs a := [a.1, a.2]
  root a := .ref a.1
  At := TpAt
  loc h k := ⟨(k _ (by simp)).trans h.hp, (k _ (by simp)).trans h.hq, h.ne, h.ok, h.le⟩
  has h m := by
    simp only [List.mem_cons, List.not_mem_nil, or_false] at m
    rcases m with rfl | rfl
    · exact ⟨_, h.hp⟩
    · exact ⟨_, h.hq⟩
/-- only the tape has changed -/
theorem Rel.tape {Z : TSys} {ad : Z.Ad} {env : List Sl} {T T' : Z.T} {F H H' : Hp} {σ : L2.St} {A : List Addr} (R : Rel Z ad env T F σ H A) (h : ∀ a, a ∉ Z.addrs ad → H' a = H a) (t : Z.At ad T' H') : Rel Z ad env T' F σ H' A ∧ Stp Z ad A F H A F H' := by
  have out : ∀ a, F a ≠ none → a ∉ Z.addrs ad := fun a ha z => ha (R.tf a z).1
  refine ⟨⟨fun a o e => ?_, R.env.keep (Same.refl _) fun a ha => ⟨h a fun z => (R.tf a z).2 ha, (R.at a ha).1⟩, R.nd, t, R.tf⟩, Same.refl _, fun a h => .inl h, fun a h => .inl h, fun a o e hA hT => (h a hT).trans e, fun a o e => ?_⟩
  · rw [h a (out a (by rw [e]; exact fun z => by cases z))]
    exact R.same _ _ e
  · by_cases z : a ∈ Z.addrs ad
    · exact Z.has t z
    · exact ⟨o, (h a z).trans e⟩

def tpIx (t : Tp) : Nat := (t.pl % (t.cs.length : Nat)).toNat
def tpCell (t : Tp) : Int := t.cs.getD (tpIx t) 0
def mix1 (c p : Int) : Int := (c * 48271 + p * 69621) % 2147483647
def mix2 (m p : Int) : Int := (m * 16807 + p * 7919) % 1000000007
def tpDraw (t : Tp) (n : Int) : Int := if tpCell t ≥ 1000000000000000000 then tpCell t % n else (mix2 (mix1 (tpCell t) (t.pl + 1)) (t.pl + 1) / 7) % n
def tpNext (t : Tp) (n : Int) : Tp := if tpCell t ≥ 1000000000000000000 then ⟨t.pl, t.cs.set (tpIx t) (tpCell t / n)⟩ else ⟨t.pl + 1, t.cs⟩
def tkR (t : Tp) (n : Int) : Int := if n < 2 then 0 else tpDraw t n
def tkT (t : Tp) (n : Int) : Tp := if n < 2 then t else tpNext t n
theorem tkR_lt {t : Tp} {n : Int} (h : 0 < n) : 0 ≤ tkR t n ∧ tkR t n < n := by
  unfold tkR
  split
  · omega
  · unfold tpDraw
    split
    · exact ⟨Int.emod_nonneg _ (by omega), Int.emod_lt_of_pos _ h⟩
    · exact ⟨Int.emod_nonneg _ (by omega), Int.emod_lt_of_pos _ h⟩
theorem tkR_nn {t : Tp} {n : Int} : 0 ≤ tkR t n := by
  by_cases h : 0 < n
  · exact (tkR_lt h).1
  · unfold tkR; rw [if_pos (by omega)]; exact Int.le_refl _
theorem tkR_small {t : Tp} {n : Int} (h : n < 2) : tkR t n = 0 := by
  unfold tkR; rw [if_pos h]
def takeM : SM tz := fun e t => match e with
  | [.sh .tape, .sh (.int n), _, _, _, _] => if n < 1073741824 then some (.rt (.int (tkR t n)), [.sh .tape, .sh (.int n), .no, .no, .no, .no], tkT t n) else none
  | _ => none
/-- the draw, as the defs see it -/
def takeF : FnM tz := runFn 6 2 takeM
theorem takeF_eq {n : Int} {t : Tp} (h : n < 1073741824) : takeF [.tape, .int n] t = some (.int (tkR t n), tkT t n) := by
  simp [takeF, runFn, takeM, h]
def tTake (K : PySem.W.Frag) : TS :=
  tSeq (tIfS (tTest (tOp (rI0 fun i j => .bl (decide (i < j))) (tVar 1) (tC (.int 2)))) (tRet (tC (.int 0))) tNext)
  (tSeq (tAsg (tOp (rIxL K) (tVar 0) (tC (.int 1))) (gName 2))
  (tSeq (tAsg (tOp (rI (fun _ j => 0 < j) fun i j => .int (i % j)) (tCB (fun xs H Q => (∃ i, xs = [V.int i] ∧ Q (.int i) H) ∨ ∃ k, xs = [V.bl k] ∧ Q (.int (if k then 1 else 0)) H) (tCons (tOp (rIxL K) (tVar 0) (tC (.int 0))) tNil))
      (tCB (fun xs H Q => ∃ p ys, xs = [V.ref p] ∧ (SqL K H p ys ∨ SqT K H p ys) ∧ Q (.int ys.length) H) (tCons (tVar 2) tNil))) (gName 3))
  (tSeq (tAsg (tOp (rIxL K) (tVar 2) (tVar 3)) (gName 4))
  (tSeq (tIfS (tTest (tOp (rI0 fun i j => .bl (decide (j ≤ i))) (tVar 4) (tC (.int 1000000000000000000))))
      (tSeq (tAsg (tOp (rI CDiv fun i j => .int (i / j)) (tVar 4) (tVar 1)) (gSub (tVar 2) (tVar 3) rSetL))
        (tRet (tOp (rI (fun _ j => 0 < j) fun i j => .int (i % j)) (tCB (fun xs H Q => (∃ i, xs = [V.int i] ∧ Q (.int i) H) ∨ ∃ k, xs = [V.bl k] ∧ Q (.int (if k then 1 else 0)) H) (tCons (tVar 4) tNil)) (tVar 1)))) tNext)
  (tSeq (tAsg (tOp (rI0 fun i j => .int (i + j)) (tOp (rIxL K) (tVar 0) (tC (.int 0))) (tC (.int 1))) (gSub (tVar 0) (tC (.int 0)) rSetL))
  (tSeq (tAsg (tOp (rI (fun _ j => 0 < j) fun i j => .int (i % j)) (tCB (fun xs H Q => (∃ i, xs = [V.int i] ∧ Q (.int i) H) ∨ ∃ k, xs = [V.bl k] ∧ Q (.int (if k then 1 else 0)) H)
      (tCons (tOp (rI0 fun i j => .int (i + j)) (tOp (rI CMul fun i j => .int (i * j)) (tVar 4) (tC (.int 48271))) (tOp (rI CMul fun i j => .int (i * j)) (tOp (rIxL K) (tVar 0) (tC (.int 0))) (tC (.int 69621)))) tNil)) (tC (.int 2147483647))) (gName 5))
  (tSeq (tAsg (tOp (rI (fun _ j => 0 < j) fun i j => .int (i % j)) (tCB (fun xs H Q => (∃ i, xs = [V.int i] ∧ Q (.int i) H) ∨ ∃ k, xs = [V.bl k] ∧ Q (.int (if k then 1 else 0)) H)
      (tCons (tOp (rI0 fun i j => .int (i + j)) (tOp (rI CMul fun i j => .int (i * j)) (tVar 5) (tC (.int 16807))) (tOp (rI CMul fun i j => .int (i * j)) (tOp (rIxL K) (tVar 0) (tC (.int 0))) (tC (.int 7919)))) tNil)) (tC (.int 1000000007))) (gName 5))
    (tRet (tOp (rI (fun _ j => 0 < j) fun i j => .int (i % j)) (tCB (fun xs H Q => (∃ i, xs = [V.int i] ∧ Q (.int i) H) ∨ ∃ k, xs = [V.bl k] ∧ Q (.int (if k then 1 else 0)) H)
      (tCons (tOp (rI CDiv fun i j => .int (i / j)) (tVar 5) (tC (.int 7))) tNil)) (tVar 1))))))))))
theorem takeM_inv {e : List Sl} {t : Tp} {fl : Fl} {e' : List Sl} {t' : Tp} (h : takeM e t = some (fl, e', t')) : ∃ (n : Int) (s2 s3 s4 s5 : Sl), e = [.sh .tape, .sh (.int n), s2, s3, s4, s5] ∧ n < 1073741824 ∧ fl = .rt (.int (tkR t n)) ∧ e' = [.sh .tape, .sh (.int n), .no, .no, .no, .no] ∧ t' = tkT t n := by
  unfold takeM at h
  split at h
  · rename_i n s2 s3 s4 s5
    by_cases hn : n < 1073741824
    · rw [if_pos hn] at h
      cases h
      exact ⟨n, s2, s3, s4, s5, rfl, hn, rfl, rfl, rfl⟩
    · rw [if_neg hn] at h; cases h
  · cases h
theorem bT {b : Bool} {A B : Prop} (e : b = true) (h : A) : if b = true then A else B := by rw [if_pos e]; exact h
theorem bF {b : Bool} {A B : Prop} (e : b = false) (h : B) : if b = true then A else B := by rw [if_neg (by rw [e]; decide)]; exact h
theorem take_core {K : PySem.W.Frag} {D : Ends} {σ : L2.St} {H : Hp} (h : denS tz takeM D σ H) : tTake K D σ H := by
  obtain ⟨⟨p, q⟩, env, T, F, A, fl, env', T', R, e, k⟩ := h
  obtain ⟨n, s2, s3, s4, s5, rfl, hn, rfl, rfl, rfl⟩ := takeM_inv e
  have hR := R.env
  obtain ⟨o0, r0, A0, A0', rfl, rfl, h0, o1, r1, A1, A1', rfl, rfl, h1, o2, r2, A2, A2', rfl, rfl, h2, o3, r3, A3, A3', rfl, rfl, h3, o4, r4, A4, A4', rfl, rfl, h4, o5, r5, A5, A5', rfl, rfl, h5, rfl, rfl⟩ := hR
  obtain ⟨_, v0, rfl, hv0⟩ := h0
  obtain ⟨_, v1, rfl, hv1⟩ := h1
  simp only [Holds] at hv0 hv1
  subst hv0 hv1
  obtain ⟨hp, hq, ne, ok, le⟩ := R.tp
  dsimp only at hp hq ne
  have wp : ∀ {Hx : Hp} {T2 : Tp} {σ2 : L2.St}, (∀ a, a ∉ ([p, q] : List Addr) → Hx a = H a) → TpAt (p, q) T2 Hx → (∃ a b c d, σ2 = [some (.ref p), some (.int n), a, b, c, d]) → ∃ A', Rel tz (p, q) [.sh .tape, .sh (.int n), .no, .no, .no, .no] T2 F σ2 Hx A' ∧ Stp tz (p, q) (A0 ++ (A1 ++ (A2 ++ (A3 ++ (A4 ++ (A5 ++ [])))))) F H A' F Hx := by
    rintro Hx T2 σ2 hx ht ⟨a, b, c, d, rfl⟩
    obtain ⟨R1, S1⟩ := Rel.tape (Z := tz) (ad := (p, q)) (T' := T2) R hx ht
    obtain ⟨B1, R2, S2⟩ := R1.setNo 2 a
    obtain ⟨B2, R3, S3⟩ := R2.setNo 3 b
    obtain ⟨B3, R4, S4⟩ := R3.setNo 4 c
    obtain ⟨B4, R5, S5⟩ := R4.setNo 5 d
    exact ⟨B4, R5, (((S1.trans S2).trans S3).trans S4).trans S5⟩
  refine ⟨_, rfl, n, 2, rfl, rfl, decide (n < 2), rfl, ?_⟩
  by_cases n2 : n < 2
  · refine bT (decide_eq_true n2) ?_
    obtain ⟨A', R', S'⟩ := wp (Hx := H) (T2 := tkT T n) (σ2 := [some (.ref p), some (.int n), o2, o3, o4, o5]) (fun _ _ => rfl) (by unfold tkT; rw [if_pos n2]; exact ⟨hp, hq, ne, ok, le⟩) ⟨_, _, _, _, rfl⟩
    exact k _ H F A' R' S' (.int 0) (by unfold tkR; rw [if_pos n2]; simp only [Holds])
  · refine bF (decide_eq_false n2) ?_
    have hlen : 0 < T.cs.length := List.length_pos_iff.mpr ok
    have hix : tpIx T < T.cs.length := by
      unfold tpIx
      have a := Int.emod_lt_of_pos T.pl (b := (T.cs.length : Int)) (by omega)
      have b := Int.emod_nonneg T.pl (b := (T.cs.length : Int)) (by omega)
      omega
    have hixI : T.pl % (T.cs.length : Int) = (tpIx T : Int) := by
      unfold tpIx
      have b := Int.emod_nonneg T.pl (b := (T.cs.length : Int)) (by omega)
      omega
    have ixn : ixN T.cs.length (T.pl % (T.cs.length : Int)) = some (tpIx T) := by
      rw [hixI]; unfold ixN
      rw [if_pos (by omega), if_pos (by omega)]; rfl
    have hget : T.cs[tpIx T]? = some (tpCell T) := by
      unfold tpCell
      rw [List.getD_eq_getElem?_getD, List.getElem?_eq_getElem hix]; rfl
    refine ⟨_, rfl, p, _, 1, .ref q, rfl, rfl, SqL.of hp, rfl, ?_⟩
    refine ⟨_, rfl, p, _, 0, .int T.pl, rfl, rfl, SqL.of hp, rfl, .inl ⟨T.pl, rfl, _, rfl, q, _, rfl, .inl (SqL.of hq), ?_⟩⟩
    refine ⟨T.pl, ((T.cs.map V.int).length : Nat), rfl, rfl, by simpa using hlen, ?_⟩
    refine ⟨_, rfl, _, rfl, q, _, _, .int (tpCell T), rfl, rfl, SqL.of hq, ?_, ?_⟩
    · unfold L2.atI
      rw [List.length_map, ixn]
      simp only [Option.bind_some, List.getElem?_map, hget, Option.map_some]
    refine ⟨_, rfl, tpCell T, 1000000000000000000, rfl, rfl, decide (1000000000000000000 ≤ tpCell T), rfl, ?_⟩
    by_cases big : 1000000000000000000 ≤ tpCell T
    · refine bT (decide_eq_true big) ?_
      refine ⟨_, rfl, _, rfl, tpCell T, n, rfl, rfl, ⟨by omega, hn⟩, ?_⟩
      refine ⟨_, rfl, _, rfl, q, _, _, tpIx T, rfl, rfl, hq, by rw [List.length_map]; exact ixn, ?_⟩
      refine ⟨_, rfl, .inl ⟨tpCell T, rfl, _, rfl, tpCell T, n, rfl, rfl, by omega, ?_⟩⟩
      obtain ⟨A', R', S'⟩ := wp (Hx := L2.upd H q (.lst ((T.cs.map V.int).set (tpIx T) (.int (tpCell T / n))))) (T2 := tkT T n) (σ2 := [some (.ref p), some (.int n), some (.ref q), some (.int (T.pl % ((T.cs.map V.int).length : Nat))), some (.int (tpCell T)), o5])
        (fun a ha => upd_ne fun z => ha (by simp [z])) (by
          unfold tkT tpNext
          rw [if_neg n2, if_pos big]
          exact ⟨(upd_ne ne).trans hp, upd_same.trans (by simp), ne, by simpa using ok, by simpa using le⟩) ⟨_, _, _, _, rfl⟩
      exact k _ _ F A' R' S' (.int (tpCell T % n)) (by unfold tkR tpDraw; rw [if_neg n2, if_pos big]; simp only [Holds])
    · refine bF (decide_eq_false big) ?_
      refine ⟨_, rfl, p, _, 0, .int T.pl, rfl, rfl, SqL.of hp, rfl, T.pl, 1, rfl, rfl, ?_⟩
      refine ⟨_, rfl, p, _, 0, 0, rfl, rfl, hp, rfl, ?_⟩
      have hp2 : L2.upd H p (.lst [.int (T.pl + 1), .ref q]) p = some (.lst [.int (T.pl + 1), .ref q]) := upd_same
      refine ⟨_, rfl, tpCell T, 48271, rfl, rfl, .inr ⟨by decide, by decide⟩, _, rfl, p, _, 0, .int (T.pl + 1), rfl, rfl, SqL.of hp2, rfl, T.pl + 1, 69621, rfl, rfl, .inr ⟨by decide, by decide⟩, _, _, rfl, rfl, .inl ⟨_, rfl, _, _, rfl, rfl, (by show (0 : Int) < 2147483647; decide), ?_⟩⟩
      refine ⟨_, rfl, mix1 (tpCell T) (T.pl + 1), 16807, rfl, rfl, .inr ⟨by decide, by decide⟩, _, rfl, p, _, 0, .int (T.pl + 1), rfl, rfl, SqL.of hp2, rfl, T.pl + 1, 7919, rfl, rfl, .inr ⟨by decide, by decide⟩, _, _, rfl, rfl, .inl ⟨_, rfl, _, _, rfl, rfl, (by show (0 : Int) < 1000000007; decide), ?_⟩⟩
      refine ⟨_, rfl, mix2 (mix1 (tpCell T) (T.pl + 1)) (T.pl + 1), 7, rfl, rfl, ⟨by decide, by decide⟩, .inl ⟨_, rfl, _, rfl, _, n, rfl, rfl, by omega, ?_⟩⟩
      obtain ⟨A', R', S'⟩ := wp (Hx := L2.upd H p (.lst [.int (T.pl + 1), .ref q])) (T2 := tkT T n) (σ2 := [some (.ref p), some (.int n), some (.ref q), some (.int (T.pl % ((T.cs.map V.int).length : Nat))), some (.int (tpCell T)), some (.int (mix2 (mix1 (tpCell T) (T.pl + 1)) (T.pl + 1)))])
        (fun a ha => upd_ne fun z => ha (by simp [z])) (by
          unfold tkT tpNext
          rw [if_neg n2, if_neg big]
          exact ⟨upd_same, (upd_ne ne.symm).trans hq, ne, ok, le⟩) ⟨_, _, _, _, rfl⟩
      exact k _ _ F A' R' S' (.int (mix2 (mix1 (tpCell T) (T.pl + 1)) (T.pl + 1) / 7 % n)) (by unfold tkR tpDraw; rw [if_neg n2, if_neg big]; simp only [Holds])
end DL

/-! The draws' tape, first kind: how it is made of the script. -/
namespace DL
open PySem L2

def absI (i : Int) : Int := if i < 0 then -i else i
def startT (ns : List Int) : Tp := ⟨0, if ns = [] then [0] else ns.map absI⟩
def spState (K : PySem.W.Frag) : Sp := fun vs H Q _ => ∃ (a : Addr) (ns : List Int), vs = [.ref a] ∧ SqL K H a (ns.map V.int) ∧ ns.length ≤ 63 ∧ ∀ p q H', TpAt (p, q) (startT ns) H' → Q (.ref p) H'
abbrev rAbsI : List V → Hp → VK → Prop := fun xs H Q => ∃ i, xs = [V.int i] ∧ Q (.int (if i < 0 then -i else i)) H
def tState (K : PySem.W.Frag) : TS :=
  tSeq (tAsg (tLc (iList K (tSl (rSlL K) (tVar 0) (fun σ H Q => Q none H) (fun σ H Q => tC (.int 63) σ H fun x H1 => ∃ i, x = V.int i ∧ Q (some i) H1))) (gName 2) tYes (tCB rAbsI (tCons (tVar 2) tNil)) [2]) (gName 1))
  (tSeq (tIfS (tTest (tOp rEq (tCB (fun xs H Q => ∃ p ys, xs = [V.ref p] ∧ (SqL K H p ys ∨ SqT K H p ys) ∧ Q (.int ys.length) H) (tCons (tVar 1) tNil)) (tC (.int 0)))) (tAsg (tLst (tCons (tC (.int 0)) tNil)) (gName 1)) tNext)
    (tRet (tLst (tCons (tC (.int 0)) (tCons (tVar 1) tNil)))))
theorem cut63 {xs : List V} (h : xs.length ≤ 63) : cutV xs none (some 63) = xs := by
  unfold cutV
  have e : HT.sIx xs.length xs.length (some 63) = xs.length := by
    have := HT.sIx_nat xs.length xs.length 63
    rw [show ((63 : Nat) : Int) = 63 from rfl] at this
    rw [this]; omega
  rw [e, HT.sIx_none, List.drop_zero, Nat.sub_zero, List.take_length]
theorem state_core {K : PySem.W.Frag} {D : Ends} {H : Hp} {a : Addr} {ns : List Int} (hS : SqL K H a (ns.map V.int)) (hl : ns.length ≤ 63) (k : ∀ p q H', TpAt (p, q) (startT ns) H' → D.rt (.ref p) H') : tState K D [some (.ref a), none, none] H := by
  refine ⟨.ref a, rfl, 63, rfl, a, _, rfl, hS, fun p0 hp0 => ?_⟩
  rw [cut63 (by simpa using hl)]
  have h0 : L2.upd H p0 (.lst (ns.map V.int)) p0 = some (.lst (ns.map V.int)) := upd_same
  refine ⟨p0, rfl, ⟨_, SqL.of h0⟩, fun L hL => ?_⟩
  have nL : p0 ≠ L := fun z => by rw [z, upd_same] at hL; cases hL
  refine lc_list (K := K) (a := p0) (xs := ns.map V.int) (fun i H' => H' p0 = some (.lst (ns.map V.int)) ∧ H' L = some (.lst ((ns.take i).map fun n => V.int (absI n)))) ⟨(upd_ne nL).trans h0, upd_same⟩ (fun i H' _ h => SqL.of h.1) ?_ ?_
  · rintro i x H' hi ⟨h1, h2⟩
    have hi63 : i < ns.length := by
      have q := (List.getElem?_eq_some_iff.mp hi).1
      simpa using q
    have hx : x = V.int ns[i] := by
      rw [List.getElem?_map, List.getElem?_eq_getElem hi63] at hi
      simpa using hi.symm
    subst hx
    refine ⟨rfl, ?_⟩
    unfold tYes
    refine iteT ⟨_, rfl, ns[i], rfl, _, h2, ?_, (upd_ne nL).trans h1, ?_⟩
    · rw [List.length_map, List.length_take]
      exact Nat.lt_of_le_of_lt (Nat.min_le_left _ _) (Nat.lt_of_lt_of_le hi63 (Nat.le_trans hl (by decide)))
    · rw [upd_same, List.take_succ_eq_append_getElem hi63, List.map_append]
      rfl
  · rintro H' ⟨h1, h2⟩
    rw [List.length_map, List.take_length] at h2
    refine ⟨_, rfl, L, _, rfl, .inl (SqL.of h2), rfl, decide (V.int ((ns.map fun n => V.int (absI n)).length : Nat) = V.int 0), rfl, ?_⟩
    by_cases e : ns = []
    · subst e
      refine bT (decide_eq_true rfl) ⟨Nat.le_trans (by decide : 1 ≤ 63) (by decide), fun m hm => ?_⟩
      refine ⟨_, rfl, Nat.le_trans (by decide : 2 ≤ 63) (by decide), fun p hp => ?_⟩
      have np : p ≠ m := fun z => by rw [z, upd_same] at hp; cases hp
      exact k p m _ ⟨upd_same, (upd_ne np.symm).trans upd_same, np, by simp [startT], by simp [startT]⟩
    · refine bF (decide_eq_false fun z => ?_) ⟨_, rfl, Nat.le_trans (by decide : 2 ≤ 63) (by decide), fun p hp => ?_⟩
      · injection z with z
        apply e
        apply List.length_eq_zero_iff.mp
        simp only [List.length_map] at z
        omega
      · have np : p ≠ L := fun z => by rw [z, h2] at hp; cases hp
        refine k p L _ ⟨upd_same, (upd_ne np.symm).trans ?_, np, ?_, ?_⟩
        · rw [h2]; unfold startT; rw [if_neg e, List.map_map]; rfl
        · unfold startT; rw [if_neg e]; simpa using e
        · unfold startT; rw [if_neg e]; simpa using hl
end DL

/-! The data layer: defs by level; the law's first statement. -/
namespace DL
open PySem L2

structure FnAt (Z : TSys) (P : Program) (w : World) (K : PySem.W.Frag) (mg : Str → Option Value) (base : Heap) (k : Nat) (x : Str) (n : Nat) (f : FnM Z) : Prop where
  ex : ∃ (fa : Addr) (fd : FuncData) (ps : List Str), ps.length = n ∧ FnOk P w K mg base CX0 k fa fd ps (spD Z n f) ∧ mg x = some (.ref fa) ∧ PySem.W.keepIn K (.ref fa) = true ∧ Binds K fd ps []
theorem FnAt.fn {Z : TSys} {P : Program} {w : World} {K : PySem.W.Frag} {mg : Str → Option Value} {base : Heap} {k k' : Nat} {x : Str} {n : Nat} {f : FnM Z} (h : FnAt Z P w K mg base k x n f) {A : Around} (hr : Room k' A) (le : k ≤ k') : Fn Z P w K mg base A x n f := by
  obtain ⟨fa, fd, ps, e, F, m, kp, b⟩ := h.ex
  exact ⟨k, fa, fd, ps, e, F, hr.mono le, m, kp, b⟩
theorem Fun.ofD {K : PySem.W.Frag} {x qual : Str} {st : Stmt} {f : Addr} {fd : FuncData} (F : FunD K x qual (defArgs st) (defBody st) (defScope st) [] [] f fd) : Fun K x qual st f fd := by
  obtain ⟨oc, od, dV, kV, doc, pm, an, cdv, ct, osl, e, lk, hc, hd, _⟩ := F.ex
  refine ⟨⟨oc, od, kV, doc, pm, an, cdv, ct, osl, ?_, lk, hc⟩, F.kp⟩
  rcases hd with ⟨_, e2⟩ | ⟨e2, _⟩
  · rw [e, e2]
  · exact absurd rfl e2
theorem FnAt.of {Z : TSys} {P : Program} {w : World} {K : PySem.W.Frag} {mg : Str → Option Value} {base : Heap} {k : Nat} {x : Str} {n : Nat} {f : FnM Z} {fa : Addr} {fd : FuncData} {ps : List Str} (F : FnOk P w K mg base CX0 k fa fd ps (spD Z n f)) (e : ps.length = n) (m : mg x = some (.ref fa)) (kp : PySem.W.keepIn K (.ref fa) = true) (b : Binds K fd ps []) : FnAt Z P w K mg base k x n f := ⟨fa, fd, ps, e, F, m, kp, b⟩
theorem kitT {K : PySem.W.Frag} {T : String} (h : (["NoneType", "bool", "int", "str", "tuple", "list", "dict"].all fun n => decide (kitB n T = some (n == T || (n == "bool" && T == "int")))) = true) : ∀ n ∈ ["NoneType", "bool", "int", "str", "tuple", "list", "dict"], PySem.W.kitOne K (.type n) (.type T) = some (n == T || (n == "bool" && T == "int")) := fun n hn =>
  kit_ty (of_decide_eq_true (List.all_eq_true.mp h n hn))
def spLaw (K : PySem.W.Frag) : Sp := fun vs H Q _ => ∃ (a : Addr) (ns : List Int), vs = [.ref a] ∧ SqL K H a (ns.map V.int) ∧ ns.length ≤ 63 ∧ ∀ H', Q (.bl true) H'
theorem FnOk.imp {P : Program} {w : World} {K : PySem.W.Frag} {mg : Str → Option Value} {base : Heap} {CX : CXT} {k : Nat} {fa : Addr} {fd : FuncData} {ps : List Str} {sp sp' : Sp} (h : FnOk P w K mg base CX k fa fd ps sp) (e : sp' = sp) : FnOk P w K mg base CX k fa fd ps sp' := e ▸ h
/-- the law's reading: state = _law_state(script), then the rest, by data -/
theorem law_core {m : SM tz} {D : Ends} {x : V} {k : Nat} (ns : List Int) (hrun : ∃ T', ∃ e', m (.no :: .sh .tape :: List.replicate k .no) (startT ns) = some (.rt (.bl true), e', T')) (hq : ∀ H', D.rt (.bl true) H') :
    ∀ p q H', TpAt (p, q) (startT ns) H' → denS tz m D (some x :: some (.ref p) :: List.replicate k none) H' := by
  intro p q H' ht
  obtain ⟨T', e', e⟩ := hrun
  have env0 : ∀ k : Nat, EnvR (tz.root (p, q)) (fun _ => none) H' (List.replicate k .no) (List.replicate k none) [] := by
    intro k
    induction k with
    | zero => exact ⟨rfl, rfl⟩
    | succ k ih => exact ⟨none, _, [], [], rfl, rfl, rfl, ih⟩
  refine ⟨(p, q), .no :: .sh .tape :: List.replicate k .no, startT ns, fun _ => none, [], _, e', T', ⟨(fun a o z => by cases z), ⟨some x, _, [], [], rfl, rfl, rfl, ⟨some (.ref p), _, [], [], rfl, rfl, ⟨rfl, .ref p, rfl, by simp only [Holds]⟩, env0 k⟩⟩, List.nodup_nil, ht, fun a _ => ⟨rfl, by simp⟩⟩, e, fun σ' H2 F2 A2 R S v hv => ?_⟩
  simp only [Holds] at hv
  subst hv
  exact hq H2
end DL

/-! The data layer read as plain functions. -/
namespace DL
open PySem L2

section
variable {Z : TSys}
theorem forL_nx {g : G} {b : SM Z} {ds : List D} {e : List Sl} {t : Z.T} (Inv : Nat → List Sl → Z.T → Prop) (h0 : Inv 0 e t)
    (hs : ∀ i d e t, ds[i]? = some d → Inv i e t → ∃ e1, g d e = some e1 ∧ ∃ fl e2 t2, b e1 t = some (fl, e2, t2) ∧ (fl = .nx ∨ fl = .ct) ∧ Inv (i + 1) e2 t2) :
    ∃ e' t', forL g b ds e t = some (.nx, e', t') ∧ Inv ds.length e' t' := by
  induction ds generalizing e t Inv with
  | nil => exact ⟨e, t, rfl, h0⟩
  | cons d ds ih =>
    obtain ⟨e1, h1, fl, e2, t2, h2, hf, h3⟩ := hs 0 d e t rfl h0
    obtain ⟨e', t', q1, q2⟩ := ih (e := e2) (t := t2) (fun i => Inv (i + 1)) h3 fun i d' e t hd hi => hs (i + 1) d' e t (by simpa using hd) hi
    refine ⟨e', t', ?_, q2⟩
    simp only [forL, h1, h2]
    rcases hf with rfl | rfl
    · exact q1
    · exact q1
theorem forL_any {g : G} {b : SM Z} {ds : List D} {e : List Sl} {t : Z.T} (Inv : Nat → List Sl → Z.T → Prop) (Ret : D → Z.T → Prop) (h0 : Inv 0 e t)
    (hs : ∀ i d e t, ds[i]? = some d → Inv i e t → ∃ e1, g d e = some e1 ∧ ∃ fl e2 t2, b e1 t = some (fl, e2, t2) ∧ (((fl = .nx ∨ fl = .ct) ∧ Inv (i + 1) e2 t2) ∨ ∃ r, fl = .rt r ∧ Ret r t2)) :
    ∃ fl e' t', forL g b ds e t = some (fl, e', t') ∧ ((fl = .nx ∧ Inv ds.length e' t') ∨ ∃ r, fl = .rt r ∧ Ret r t') := by
  induction ds generalizing e t Inv with
  | nil => exact ⟨.nx, e, t, rfl, .inl ⟨rfl, h0⟩⟩
  | cons d ds ih =>
    obtain ⟨e1, h1, fl, e2, t2, h2, hf⟩ := hs 0 d e t rfl h0
    rcases hf with ⟨hf, h3⟩ | ⟨r, rfl, h3⟩
    · obtain ⟨fl', e', t', q1, q2⟩ := ih (e := e2) (t := t2) (fun i => Inv (i + 1)) h3 fun i d' e t hd hi => hs (i + 1) d' e t (by simpa using hd) hi
      refine ⟨fl', e', t', ?_, q2⟩
      simp only [forL, h1, h2]
      rcases hf with rfl | rfl
      · exact q1
      · exact q1
    · refine ⟨.rt r, e2, t2, ?_, .inr ⟨r, rfl, h3⟩⟩
      simp only [forL, h1, h2]
/-- a loop that is a fold over typed states -/
theorem forL_fold {S A : Type} {g : G} {b : SM Z} (enc : S → List Sl) (eA : A → D) (f : S → A → S) (P : S → A → Prop) (h : ∀ s a t, P s a → ∃ e1, g (eA a) (enc s) = some e1 ∧ b e1 t = some (.nx, enc (f s a), t)) :
    ∀ (xs : List A) (s : S) (t : Z.T), (∀ i a, xs[i]? = some a → P ((xs.take i).foldl f s) a) → forL g b (xs.map eA) (enc s) t = some (.nx, enc (xs.foldl f s), t)
  | [], s, t, _ => rfl
  | a :: xs, s, t, hp => by
    obtain ⟨e1, h1, h2⟩ := h s a t (hp 0 a rfl)
    simp only [List.map_cons, forL, h1, h2, List.foldl_cons]
    exact forL_fold enc eA f P h xs (f s a) t fun i a' ha => by
      have := hp (i + 1) a' (by simpa using ha)
      simpa using this
end
/-! ### slots wiped and put back -/
theorem wipeE_length (env : List Sl) : ∀ vs : List Nat, (wipeE env vs).length = env.length
  | [] => rfl
  | v :: vs => by unfold wipeE; rw [List.length_set, wipeE_length env vs]
theorem wipeE_get (env : List Sl) (i : Nat) : ∀ vs : List Nat, (wipeE env vs)[i]? = if i ∈ vs then (if i < env.length then some .no else none) else env[i]?
  | [] => by simp [wipeE]
  | v :: vs => by
    unfold wipeE
    rw [List.getElem?_set, wipeE_get env i vs, wipeE_length]
    by_cases h : v = i
    · subst h; simp
    · have h' : ¬ i = v := fun z => h z.symm
      simp [h, h']
theorem restE_length (env : List Sl) : ∀ (vs : List Nat) (e : List Sl), (restE env vs e).length = e.length
  | [], _ => rfl
  | v :: vs, e => by unfold restE; rw [restE_length env vs, List.length_set]
theorem restE_get (env : List Sl) (i : Nat) : ∀ (vs : List Nat) (e : List Sl), (restE env vs e)[i]? = if i ∈ vs ∧ i < e.length then some (env.getD i .no) else e[i]?
  | [], e => by simp [restE]
  | v :: vs, e => by
    unfold restE
    rw [restE_get env i vs, List.length_set]
    by_cases m : i ∈ vs
    · by_cases l : i < e.length
      · simp [m, l]
      · simp [l]
    · rw [if_neg (fun z => m z.1), List.getElem?_set]
      by_cases h : v = i
      · subst h; simp
        by_cases l : v < e.length
        · simp [l]
        · simp [l]
      · have h' : ¬ i = v := fun z => h z.symm
        simp [h, h', m]
theorem restE_wipe (env : List Sl) (vs : List Nat) : restE env vs (wipeE env vs) = env := by
  apply List.ext_getElem?
  intro i
  rw [restE_get, wipeE_length, wipeE_get]
  by_cases m : i ∈ vs
  · by_cases l : i < env.length
    · simp [m, l]
    · simp [m, l]
  · simp [m]
theorem wipeE_wipe (env : List Sl) (vs : List Nat) : wipeE (wipeE env vs) vs = wipeE env vs := by
  apply List.ext_getElem?
  intro i
  rw [wipeE_get, wipeE_length, wipeE_get]
  by_cases m : i ∈ vs
  · simp [m]
  · simp [m]
section
variable {Z : TSys}
/-- a comprehension without draws -/
theorem lcL_map {A : Type} {own : List Nat} {g : G} {tt : MB Z} {el : M Z} {e : List Sl} {t : Z.T} (eA : A → D) (p : A → Bool) (f : A → D) (he : wipeE e own = e) : ∀ (xs : List A) (acc : List D),
    (∀ a ∈ xs, ∃ e1, g (eA a) e = some e1 ∧ wipeE e1 own = e ∧ tt e1 t = some (p a, e1, t) ∧ (p a = true → ∃ e2, el e1 t = some (f a, e2, t) ∧ wipeE e2 own = e)) →
    lcL own g tt el (xs.map eA) acc e t = some (acc ++ (xs.filter p).map f, e, t)
  | [], acc, _ => by simp [lcL]
  | a :: xs, acc, h => by
    obtain ⟨e1, h1, h2, h3, h4⟩ := h a List.mem_cons_self
    have ih := fun acc => lcL_map (g := g) (tt := tt) (el := el) (t := t) eA p f he xs acc fun b hb => h b (List.mem_cons_of_mem _ hb)
    simp only [List.map_cons, lcL, he, h1, h3]
    cases q : p a with
    | false =>
      simp only [h2]
      rw [ih, List.filter_cons_of_neg (by simp [q])]
    | true =>
      obtain ⟨e2, h5, h6⟩ := h4 q
      simp only [h5, h6]
      rw [ih, List.filter_cons_of_pos q, List.map_cons, List.append_assoc]
      rfl
theorem mlc_map {A : Type} {own : List Nat} {src : ML Z} {g : G} {tt : MB Z} {el : M Z} {e e1 : List Sl} {t t1 : Z.T} (eA : A → D) (p : A → Bool) (f : A → D) (xs : List A) (hs : src e t = some (xs.map eA, e1, t1)) (hok : ownOk e1 own = true) (hl : xs.length ≤ 16777216)
    (h : ∀ a ∈ xs, ∃ e2, g (eA a) (wipeE e1 own) = some e2 ∧ wipeE e2 own = wipeE e1 own ∧ tt e2 t1 = some (p a, e2, t1) ∧ (p a = true → ∃ e3, el e2 t1 = some (f a, e3, t1) ∧ wipeE e3 own = wipeE e1 own)) :
    mlc own src g tt el e t = some (.lst ((xs.filter p).map f), e1, t1) := by
  unfold mlc
  have hz : ((xs.map eA).length ≤ sizeLine) := by rw [List.length_map]; exact Nat.le_trans hl (by decide)
  simp only [hs, hok, hz, decide_true, Bool.and_self, if_true]
  rw [lcL_map eA p f (wipeE_wipe e1 own) xs [] h]
  simp only [List.nil_append, restE_wipe]
theorem mlc_all {A : Type} {own : List Nat} {src : ML Z} {g : G} {el : M Z} {e e1 : List Sl} {t t1 : Z.T} (eA : A → D) (f : A → D) (xs : List A) (hs : src e t = some (xs.map eA, e1, t1)) (hok : ownOk e1 own = true) (hl : xs.length ≤ 16777216)
    (h : ∀ a ∈ xs, ∃ e2, g (eA a) (wipeE e1 own) = some e2 ∧ wipeE e2 own = wipeE e1 own ∧ ∃ e3, el e2 t1 = some (f a, e3, t1) ∧ wipeE e3 own = wipeE e1 own) :
    mlc own src g byes el e t = some (.lst (xs.map f), e1, t1) := by
  have := mlc_map (tt := byes) (el := el) eA (fun _ => true) f xs hs hok hl fun a ha => by
    obtain ⟨e2, h1, h2, h3⟩ := h a ha
    exact ⟨e2, h1, h2, rfl, fun _ => h3⟩
  rwa [List.filter_eq_self.mpr fun _ _ => rfl] at this
/-- .. that draws -/
theorem lcL_inv {own : List Nat} {g : G} {tt : MB Z} {el : M Z} {e : List Sl} (he : wipeE e own = e) (Inv : Nat → List D → Z.T → Prop) : ∀ (ds : List D) (acc : List D) (t : Z.T) (n : Nat), Inv n acc t →
    (∀ i d acc t, ds[i]? = some d → Inv (n + i) acc t → ∃ e1, g d e = some e1 ∧ ∃ c e2 t2, tt e1 t = some (c, e2, t2) ∧ ((c = false ∧ wipeE e2 own = e ∧ Inv (n + i + 1) acc t2) ∨ (c = true ∧ ∃ y e3 t3, el e2 t2 = some (y, e3, t3) ∧ wipeE e3 own = e ∧ Inv (n + i + 1) (acc ++ [y]) t3))) →
    ∃ acc' t', lcL own g tt el ds acc e t = some (acc', e, t') ∧ Inv (n + ds.length) acc' t'
  | [], acc, t, n, h0, _ => ⟨acc, t, rfl, h0⟩
  | d :: ds, acc, t, n, h0, hs => by
    obtain ⟨e1, h1, c, e2, t2, h2, h3⟩ := hs 0 d acc t rfl h0
    have rc := fun acc t h => lcL_inv (g := g) (tt := tt) (el := el) he Inv ds acc t (n + 1) h fun i d' acc t hd hi => by
      have := hs (i + 1) d' acc t (by simpa using hd) (by rw [show n + (i + 1) = n + 1 + i by omega]; exact hi)
      rw [show n + (i + 1) + 1 = n + 1 + i + 1 by omega] at this
      exact this
    rw [show n + (d :: ds).length = n + 1 + ds.length by rw [List.length_cons]; omega]
    rcases h3 with ⟨rfl, h4, h5⟩ | ⟨rfl, y, e3, t3, h4, h5, h6⟩
    · obtain ⟨acc', t', q1, q2⟩ := rc acc t2 h5
      refine ⟨acc', t', ?_, q2⟩
      simp only [lcL, he, h1, h2, h4]
      exact q1
    · obtain ⟨acc', t', q1, q2⟩ := rc (acc ++ [y]) t3 h6
      refine ⟨acc', t', ?_, q2⟩
      simp only [lcL, he, h1, h2, h4, h5]
      exact q1
theorem mlc_inv {own : List Nat} {src : ML Z} {g : G} {el : M Z} {e e1 : List Sl} {t t1 : Z.T} {ds : List D} (Inv : Nat → List D → Z.T → Prop) (hs : src e t = some (ds, e1, t1)) (hok : ownOk e1 own = true) (hl : ds.length ≤ 16777216) (h0 : Inv 0 [] t1)
    (h : ∀ i d acc t, ds[i]? = some d → Inv i acc t → ∃ e2, g d (wipeE e1 own) = some e2 ∧ ∃ y e3 t3, el e2 t = some (y, e3, t3) ∧ wipeE e3 own = wipeE e1 own ∧ Inv (i + 1) (acc ++ [y]) t3) :
    ∃ acc t', mlc own src g byes el e t = some (.lst acc, e1, t') ∧ Inv ds.length acc t' := by
  obtain ⟨acc, t', q1, q2⟩ := lcL_inv (g := g) (tt := byes) (el := el) (wipeE_wipe e1 own) Inv ds [] t1 0 h0 fun i d acc t hd hi => by
    rw [Nat.zero_add] at hi ⊢
    obtain ⟨e2, h1, y, e3, t3, h2, h3, h4⟩ := h i d acc t hd hi
    exact ⟨e2, h1, true, e2, t, rfl, .inr ⟨rfl, y, e3, t3, h2, h3, h4⟩⟩
  refine ⟨acc, t', ?_, by simpa using q2⟩
  unfold mlc
  have hz : (ds.length ≤ sizeLine) := Nat.le_trans hl (by decide)
  simp only [hs, hok, hz, decide_true, Bool.and_self, if_true, q1, restE_wipe]
/-- two clauses, without draws -/
theorem lc2L_map {A B : Type} {own own1 : List Nat} {g : G} {src1 : ML Z} {g1 : G} {tt1 : MB Z} {el : M Z} {e : List Sl} {t : Z.T} (eA : A → D) (eB : B → D) (in1 : A → List B) (p : A → B → Bool) (f : A → B → D) (he : wipeE e own = e) : ∀ (xs : List A) (acc : List D),
    (∀ a ∈ xs, ∃ e1 e2, g (eA a) e = some e1 ∧ src1 e1 t = some ((in1 a).map eB, e2, t) ∧ wipeE (wipeE e2 own1) own = e ∧ ∀ b ∈ in1 a, ∃ e3, g1 (eB b) (wipeE e2 own1) = some e3 ∧ wipeE e3 own1 = wipeE e2 own1 ∧ tt1 e3 t = some (p a b, e3, t) ∧ (p a b = true → ∃ e4, el e3 t = some (f a b, e4, t) ∧ wipeE e4 own1 = wipeE e2 own1)) →
    lc2L own own1 g byes src1 g1 tt1 el (xs.map eA) acc e t = some (acc ++ xs.flatMap fun a => ((in1 a).filter (p a)).map (f a), e, t)
  | [], acc, _ => by simp [lc2L]
  | a :: xs, acc, h => by
    obtain ⟨e1, e2, h1, h2, h3, h4⟩ := h a List.mem_cons_self
    have ih := fun acc => lc2L_map (g := g) (src1 := src1) (g1 := g1) (tt1 := tt1) (el := el) (t := t) (own1 := own1) eA eB in1 p f he xs acc fun b hb => h b (List.mem_cons_of_mem _ hb)
    simp only [List.map_cons, lc2L, he, h1, byes, h2]
    rw [lcL_map eB (p a) (f a) (wipeE_wipe e2 own1) (in1 a) acc h4]
    simp only [h3]
    rw [ih, List.flatMap_cons, List.append_assoc]
theorem mlc2_map {A B : Type} {own own1 : List Nat} {src : ML Z} {g : G} {src1 : ML Z} {g1 : G} {el : M Z} {e e0 : List Sl} {t t0 : Z.T} (eA : A → D) (eB : B → D) (in1 : A → List B) (f : A → B → D) (xs : List A) (hs : src e t = some (xs.map eA, e0, t0)) (hok : ownOk e0 own = true)
    (hl : (xs.flatMap in1).length ≤ 16777216)
    (h : ∀ a ∈ xs, ∃ e1 e2, g (eA a) (wipeE e0 own) = some e1 ∧ src1 e1 t0 = some ((in1 a).map eB, e2, t0) ∧ wipeE (wipeE e2 own1) own = wipeE e0 own ∧ ∀ b ∈ in1 a, ∃ e3, g1 (eB b) (wipeE e2 own1) = some e3 ∧ wipeE e3 own1 = wipeE e2 own1 ∧ ∃ e4, el e3 t0 = some (f a b, e4, t0) ∧ wipeE e4 own1 = wipeE e2 own1) :
    mlc2 own own1 src g byes src1 g1 byes el e t = some (.lst (xs.flatMap fun a => (in1 a).map (f a)), e0, t0) := by
  unfold mlc2
  have q := lc2L_map (g := g) (src1 := src1) (g1 := g1) (tt1 := byes) (el := el) (t := t0) (own1 := own1) eA eB in1 (fun _ _ => true) f (wipeE_wipe e0 own) xs [] fun a ha => by
    obtain ⟨e1, e2, h1, h2, h3, h4⟩ := h a ha
    exact ⟨e1, e2, h1, h2, h3, fun b hb => by
      obtain ⟨e3, k1, k2, k3⟩ := h4 b hb
      exact ⟨e3, k1, k2, rfl, fun _ => k3⟩⟩
  simp only [hs, hok, if_true, q, List.nil_append]
  have e2 : (xs.flatMap fun a => ((in1 a).filter fun _ => true).map (f a)) = xs.flatMap fun a => (in1 a).map (f a) := by
    congr 1
    funext a
    rw [List.filter_eq_self.mpr fun _ _ => rfl]
  rw [e2]
  have hz : (xs.flatMap fun a => (in1 a).map (f a)).length ≤ sizeLine := by
    refine Nat.le_trans (Nat.le_of_eq ?_) (Nat.le_trans hl (by decide))
    clear h q hs hl e2
    induction xs with
    | nil => rfl
    | cons a xs ih => simp only [List.flatMap_cons, List.length_append, List.length_map, ih]
  rw [if_pos hz, restE_wipe]
end
@[simp] theorem atI_nat {α : Type} (xs : List α) (i : Nat) : atI xs (i : Int) = xs[i]? := by
  unfold atI ixN
  by_cases h : i < xs.length
  · simp [h]
  · simp [h]
theorem idx_lst (ds : List D) (i : Nat) : idxD (.lst ds) (.int (i : Int)) = ds[i]? := by simp [idxD]
theorem idx_tup (ds : List D) (i : Nat) : idxD (.tup ds) (.int (i : Int)) = ds[i]? := by simp [idxD]
end DL
namespace DL
open PySem L2
section
variable {Z : TSys}
theorem mmt_ee {T : String} {g : D → List D → Option D} {m m2 : M Z} {e e1 e2 : List Sl} {t t1 t2 : Z.T} {d0 d1 r : D} (h1 : m e t = some (d0, e1, t1)) (hk : kindD d0 = T) (h2 : m2 e1 t1 = some (d1, e2, t2)) (h3 : g d0 [d1] = some r) :
    mmt T g (.e m) [.e m2] e t = some (r, e2, t2) := by
  simp only [mmt, slotOk, evA, h1, getA, hk, evN, evAs, h2, getAs, h3, if_true]
theorem sret_ev {m : M Z} {e e1 : List Sl} {t t1 : Z.T} {d : D} (h : m e t = some (d, e1, t1)) : sret m e t = some (.rt d, e1, t1) := by simp only [sret, h]
theorem sset_ev {m : M Z} {e e1 : List Sl} {t t1 : Z.T} {d : D} {i : Nat} (h : m e t = some (d, e1, t1)) : sset i m e t = some (.nx, e1.set i (.sh d), t1) := by simp only [sset, h]
theorem scons_nx {a b : SM Z} {e e1 : List Sl} {t t1 : Z.T} {x : Option (Fl × List Sl × Z.T)} (h : a e t = some (.nx, e1, t1)) (k : b e1 t1 = x) : scons a b e t = x := by simp only [scons, h, k]
theorem scons_rt {a b : SM Z} {e e1 : List Sl} {t t1 : Z.T} {d : D} (h : a e t = some (.rt d, e1, t1)) : scons a b e t = some (.rt d, e1, t1) := by simp only [scons, h]
theorem runFn_rt {N n : Nat} {m : SM Z} {ds : List D} {t t1 : Z.T} {e1 : List Sl} {d : D} (h : m (ds.map .sh ++ List.replicate (N - n) .no) t = some (.rt d, e1, t1)) : runFn N n m ds t = some (d, t1) := by simp only [runFn, h]
theorem runFn_at {N n : Nat} {m : SM Z} {ds : List D} {t t1 : Z.T} {e1 : List Sl} {d : D} (env : List Sl) (h0 : ds.map .sh ++ List.replicate (N - n) .no = env) (h : m env t = some (.rt d, e1, t1)) : runFn N n m ds t = some (d, t1) := by
  subst h0
  exact runFn_rt h
theorem sfor_nx {src : ML Z} {g : G} {b : SM Z} {e e1 : List Sl} {t t1 : Z.T} {ds : List D} {x : Option (Fl × List Sl × Z.T)} (h : src e t = some (ds, e1, t1)) (k : forL g b ds e1 t1 = x) : sfor src g b e t = x := by simp only [sfor, h, k]
end
end DL

namespace K38
open PySem L2 DL
def top (i : Nat) : Stmt := PySem.Challenge.pw_elderfolios_k38_whole_scribes_change_rea.main.body.getD i (.Pass ⟨0, 0, 0, 0⟩)
abbrev s_way : Stmt := top 1
abbrev s_readings : Stmt := top 2
abbrev s_shown : Stmt := top 3
abbrev s_columns : Stmt := top 5
abbrev s_line_of : Stmt := top 6
abbrev s_signs_of : Stmt := top 7
abbrev s_row_of_readings : Stmt := top 8
abbrev s_agrees_with : Stmt := top 9
abbrev s_possible : Stmt := top 10
abbrev s_parts_of : Stmt := top 11
abbrev s_readings_of : Stmt := top 12
abbrev s_number_of : Stmt := top 13
abbrev s_read_at : Stmt := top 14
abbrev s_is_carried : Stmt := top 15
abbrev s_texts_read : Stmt := top 16
abbrev s__law_state : Stmt := top 18
abbrev s__law_take : Stmt := top 19
abbrev s__law_pick : Stmt := top 20
abbrev s__law_places : Stmt := top 21
abbrev s__law_number : Stmt := top 22
abbrev s__law_history : Stmt := top 23
abbrev s__law_carried : Stmt := top 24
abbrev s_law : Stmt := top 25
theorem k_bool {K : PySem.W.Frag} : ∀ n ∈ ["NoneType", "bool", "int", "str", "tuple", "list", "dict"], PySem.W.kitOne K (.type n) (.type "bool") = some (n == "bool" || (n == "bool" && "bool" == "int")) := kitT (by decide +kernel)
structure Tx (K : PySem.W.Frag) (mg : Str → Option Value) : Prop where
  z_abs : mg "abs" = none
  z_any : mg "any" = none
  z_bool : mg "bool" = none
  z_int : mg "int" = none
  z_isinstance : mg "isinstance" = none
  z_len : mg "len" = none
  z_list : mg "list" = none
  z_range : mg "range" = none
  z_set : mg "set" = none
  z_sorted : mg "sorted" = none
  z_str : mg "str" = none
  z_sum : mg "sum" = none
  z_tuple : mg "tuple" = none
section
variable {P : Program} {w : World} {K : PySem.W.Frag} {mg : Str → Option Value} {base : Heap}
abbrev f__law_take : FnM tz := takeF
theorem sc__law_take : FnScope ["state", "most", "cells", "at", "cell", "mixed"] ["state", "most"] (defScope s__law_take) := ⟨rfl, rfl, rfl, by decide +kernel, rfl, by decide +kernel, by decide +kernel⟩
theorem ok__law_take {f : Addr} {fd : FuncData} (F : Fun K "_law_take" "_law_take" s__law_take f fd) (T : Tx K mg) : FnOk P w K mg base CX0 1 f fd ["state", "most"] (spD tz 2 f__law_take) :=
  fn_ok F sc__law_take fun cdv A outer s H E hr => ⟨PSs.imp (
    pss_cons (ps_if (pt_cmpR op_lt (pv 1) pe_int (nomark _)) (pss_one (ps_ret pe_int)) pss_nil)
    (pss_cons (ps_set (i := 2) sc__law_take.nd rfl (Or.inl rfl) (pe_ix ix_list (pv 0) pe_int fun _ _ => rfl))
    (pss_cons (ps_set (i := 3) sc__law_take.nd rfl (Or.inl rfl) (pe_op op_mod (pe_callTy call_int1 (by rfl) T.z_int PyProof.Rows.boot_int (pa_cons (pe_ix ix_list (pv 0) pe_int fun _ _ => rfl) pa_nil)) (pe_callB call_len_seq (by rfl) T.z_len PySem.boot_len (pa_cons (pv 2) pa_nil))))
    (pss_cons (ps_set (i := 4) sc__law_take.nd rfl (Or.inl rfl) (pe_ix ix_list (pv 2) (pv 3) fun _ _ => rfl))
    (pss_cons (ps_if (pt_cmpR op_ge (pv 4) pe_int (nomark _)) (pss_cons (ps_asg (pe_op op_fdiv (pv 4) (pv 1)) (pg_sub (pv 2) (pv 3) set_list)) (pss_one (ps_ret (pe_op op_mod (pe_callTy call_int1 (by rfl) T.z_int PyProof.Rows.boot_int (pa_cons (pv 4) pa_nil)) (pv 1))))) pss_nil)
    (pss_cons (ps_asg (pe_op op_add (pe_ix ix_list (pv 0) pe_int fun _ _ => rfl) pe_int) (pg_sub (pv 0) pe_int set_list))
    (pss_cons (ps_set (i := 5) sc__law_take.nd rfl (Or.inl rfl) (pe_op op_mod (pe_callTy call_int1 (by rfl) T.z_int PyProof.Rows.boot_int (pa_cons (pe_op op_add (pe_op op_mul (pv 4) pe_int) (pe_op op_mul (pe_ix ix_list (pv 0) pe_int fun _ _ => rfl) pe_int)) pa_nil)) pe_int))
    (pss_cons (ps_set (i := 5) sc__law_take.nd rfl (Or.inl rfl) (pe_op op_mod (pe_callTy call_int1 (by rfl) T.z_int PyProof.Rows.boot_int (pa_cons (pe_op op_add (pe_op op_mul (pv 5) pe_int) (pe_op op_mul (pe_ix ix_list (pv 0) pe_int fun _ _ => rfl) pe_int)) pa_nil)) pe_int))
    (pss_one (ps_ret (pe_op op_mod (pe_callTy call_int1 (by rfl) T.z_int PyProof.Rows.boot_int (pa_cons (pe_op op_fdiv (pv 5) pe_int) pa_nil)) (pv 1)))))))))))) fun D σ H h => take_core (K := K) h⟩
theorem sc__law_state : FnScope ["script", "cells", "cell"] ["script"] (defScope s__law_state) := ⟨rfl, rfl, rfl, by decide +kernel, rfl, by decide +kernel, by decide +kernel⟩
def scp__law_state : Scope := { kind := .function, names := [((".0" : Str), .local), (("cell" : Str), .local), (("abs" : Str), .globalImplicit)], isGenerator := false, isCoroutine := false, more := [] }
theorem ok__law_state {f : Addr} {fd : FuncData} (F : Fun K "_law_state" "_law_state" s__law_state f fd) (T : Tx K mg) : FnOk P w K mg base CX0 1 f fd ["script"] (spState K) := by
  refine F.ok sc__law_state (fun vs H Q E h => ?_) (fun cdv A outer s H vs Q E hr h => ?_)
  · obtain ⟨a, ns, rfl, _⟩ := h
    rfl
  · obtain ⟨a, ns, rfl, hS, hl, k⟩ := h
    exact ⟨_, pss_cons (ps_setLc (i := 1) (own := [("cell", 2)]) (g := gName 2) (tt := tYes) rfl sc__law_state.nd rfl rfl (sw_true rfl rfl rfl (by decide +kernel)) (pi_list (pe_slice sl_list (pv 0) po_none (po_some pe_int)))
        (blkOk_by (N := ["script", "cells", "cell"]) (sc := defScope s__law_state) (scope := scp__law_state) (own := [("cell", 2)]) (by decide +kernel)) (fun _ _ _ _ _ => pg_name (i := 2) sc__law_state.nd rfl (Or.inl rfl)) (fun _ _ _ _ _ => pts_nil) (fun _ _ _ _ _ => pe_callB call_abs (by rfl) T.z_abs PyProof.Rows.boot_abs (pa_cons (pv 2) pa_nil)))
      (pss_cons (ps_if (pt_cmpR op_eq (pe_callB call_len_seq (by rfl) T.z_len PySem.boot_len (pa_cons (pv 1) pa_nil)) pe_int (nomark _)) (pss_one (ps_set (i := 1) sc__law_state.nd rfl (Or.inl rfl) (pe_lst (pa_cons pe_int pa_nil)))) pss_nil)
      (pss_one (ps_ret (pe_lst (pa_cons pe_int (pa_cons (pv 1) pa_nil)))))), state_core (K := K) hS hl k⟩
/-! ### way -/
abbrev N_way : List Str := [("stemma" : Str), ("node" : Str), ("found" : Str)]
theorem sc_way : FnScope N_way [("stemma" : Str), ("node" : Str)] (defScope s_way) := ⟨rfl, rfl, rfl, by decide +kernel, rfl, by decide +kernel, by decide +kernel⟩
def wc_way_1 : MB tz := (asB (mop isntND (.e (mop idxD (.e (mop idxD (.v 0) (.e (mcst (.int 1))))) (.e (mop idxD (.v 2) (.e (mcst (.int 0))))))) (.e (mcst .non))))
def wb_way_1 : SM tz := (sset 2 (mop addD (.e (mlst (mcons (mop idxD (.e (mop idxD (.v 0) (.e (mcst (.int 1))))) (.e (mop idxD (.v 2) (.e (mcst (.int 0)))))) mnil))) (.v 2)))
def w_way_1 : SM tz := whileL wc_way_1 wb_way_1 200
def m_way : SM tz := (scons (sset 2 (mlst (mcons (mvar 1) mnil)))
    (scons w_way_1
    (sret (mvar 2))))
def f_way : FnM tz := runFn 3 2 m_way
theorem ok_way {f : Addr} {fd : FuncData} (F : Fun K ("way" : Str) ("way" : Str) s_way f fd) (T : Tx K mg)  : FnOk P w K mg base CX0 1 f fd [("stemma" : Str), ("node" : Str)] (spD tz 2 f_way) :=
  fn_ok F sc_way fun cdv A outer s H E hr => by
    exact (ib_cons (is_set (i := 2) sc_way.nd rfl (Or.inl rfl) (IsO.toE (io_lst (il_cons (ie_var (pv 1)) il_nil))))
    (ib_cons (is_while 200 PassesOwn.never (it_cmp op_notN od_isntN (.e (ie_ix ix_seq od_idx (.e (ie_ix ix_seq od_idx (.v (pv 0)) (.e ie_int))) (.e (ie_ix ix_seq od_idx (.v (pv 2)) (.e ie_int))))) (.e ie_non) (nomark _)) (ib_one (is_set (i := 2) sc_way.nd rfl (Or.inl rfl) (ie_op op_addAll od_add (.e (IsO.toE (io_lst (il_cons (ie_ix ix_seq od_idx (.e (ie_ix ix_seq od_idx (.v (pv 0)) (.e ie_int))) (.e (ie_ix ix_seq od_idx (.v (pv 2)) (.e ie_int)))) il_nil)))) (.v (pv 2))))))
    (ib_one (is_ret (ie_var (pv 2))))))
/-! ### columns -/
abbrev N_columns : List Str := [("places" : Str), ("k" : Str), ("j" : Str)]
theorem sc_columns : FnScope N_columns [("places" : Str)] (defScope s_columns) := ⟨rfl, rfl, rfl, by decide +kernel, rfl, by decide +kernel, by decide +kernel⟩
def scp_columns_1 : Scope := { kind := .function, names := [((".0" : Str), .local), (("k" : Str), .local), (("j" : Str), .local), (("range" : Str), .globalImplicit), (("len" : Str), .globalImplicit), (("places" : Str), .free)], isGenerator := false, isCoroutine := false, more := [] }
def ce_columns_1 : M tz := (mtup (mcons (mvar 1) (mcons (mvar 2) mnil)))
def cs_columns_1 : ML tz := (irange2 (mcons (mcst (.int 1)) (mcons (mfn len1 [(.e (mop idxD (.e (mop idxD (.v 0) (.v 1))) (.e (mcst (.int 0)))))]) mnil)))
def c_columns_1 : M tz := mlc2 [1, 2] [2] (irange1 (mcons (mfn len1 [(.v 0)]) mnil)) (gset 1) byes cs_columns_1 (gset 2) byes ce_columns_1
def m_columns : SM tz := (sret c_columns_1)
def f_columns : FnM tz := runFn 3 1 m_columns
theorem ok_columns {f : Addr} {fd : FuncData} (F : Fun K ("columns" : Str) ("columns" : Str) s_columns f fd) (T : Tx K mg)  : FnOk P w K mg base CX0 1 f fd [("places" : Str)] (spD tz 1 f_columns) :=
  fn_ok F sc_columns fun cdv A outer s H E hr => by
    exact (ib_one (is_ret (IsO.toE (io_lc2 [(("k" : Str), 1), (("j" : Str), 2)] [2] rfl sc_columns.nd (ii_range1 (by rfl) T.z_range (il_cons (ie_blt call_len cd_len (by rfl) T.z_len PySem.boot_len (ia_cons (.v (pv 0)) .nil)) il_nil)) (blkOk_by (N := N_columns) (sc := defScope s_columns) (scope := scp_columns_1) (own := [(("k" : Str), 1), (("j" : Str), 2)]) (by decide +kernel)) (by decide) (fun _ _ _ _ _ => (ig_name (i := 1) sc_columns.nd rfl (Or.inl rfl))) (fun _ _ _ _ _ => its_nil) (fun _ _ _ _ _ => (ii_range2 (by rfl) T.z_range (il_cons ie_int (il_cons (ie_blt call_len cd_len (by rfl) T.z_len PySem.boot_len (ia_cons (.e (ie_ix ix_seq od_idx (.e (ie_ix ix_seq od_idx (.v (pv 0)) (.v (pv 1)))) (.e ie_int))) .nil)) il_nil)))) (fun _ _ _ _ _ => (ig_name (i := 2) sc_columns.nd rfl (Or.inl rfl))) (fun _ _ _ _ _ => its_nil) (fun _ _ _ _ _ => (ie_tup (il_cons (ie_var (pv 1)) (il_cons (ie_var (pv 2)) il_nil))))))))
/-! ### line_of -/
abbrev N_line_of : List Str := [("place" : Str), ("number" : Str), ("found" : Str)]
theorem sc_line_of : FnScope N_line_of [("place" : Str), ("number" : Str)] (defScope s_line_of) := ⟨rfl, rfl, rfl, by decide +kernel, rfl, by decide +kernel, by decide +kernel⟩
def wc_line_of_1 : MB tz := (asB (mop isntND (.e (mop idxD (.e (mop idxD (.v 0) (.e (mcst (.int 1))))) (.e (mop idxD (.v 2) (.e (mcst (.int 0))))))) (.e (mcst .non))))
def wb_line_of_1 : SM tz := (sset 2 (mop addD (.e (mlst (mcons (mop idxD (.e (mop idxD (.v 0) (.e (mcst (.int 1))))) (.e (mop idxD (.v 2) (.e (mcst (.int 0)))))) mnil))) (.v 2)))
def w_line_of_1 : SM tz := whileL wc_line_of_1 wb_line_of_1 200
def m_line_of : SM tz := (scons (sset 2 (mlst (mcons (mvar 1) mnil)))
    (scons w_line_of_1
    (sret (mvar 2))))
def f_line_of : FnM tz := runFn 3 2 m_line_of
theorem ok_line_of {f : Addr} {fd : FuncData} (F : Fun K ("line_of" : Str) ("line_of" : Str) s_line_of f fd) (T : Tx K mg)  : FnOk P w K mg base CX0 1 f fd [("place" : Str), ("number" : Str)] (spD tz 2 f_line_of) :=
  fn_ok F sc_line_of fun cdv A outer s H E hr => by
    exact (ib_cons (is_set (i := 2) sc_line_of.nd rfl (Or.inl rfl) (IsO.toE (io_lst (il_cons (ie_var (pv 1)) il_nil))))
    (ib_cons (is_while 200 PassesOwn.never (it_cmp op_notN od_isntN (.e (ie_ix ix_seq od_idx (.e (ie_ix ix_seq od_idx (.v (pv 0)) (.e ie_int))) (.e (ie_ix ix_seq od_idx (.v (pv 2)) (.e ie_int))))) (.e ie_non) (nomark _)) (ib_one (is_set (i := 2) sc_line_of.nd rfl (Or.inl rfl) (ie_op op_addAll od_add (.e (IsO.toE (io_lst (il_cons (ie_ix ix_seq od_idx (.e (ie_ix ix_seq od_idx (.v (pv 0)) (.e ie_int))) (.e (ie_ix ix_seq od_idx (.v (pv 2)) (.e ie_int)))) il_nil)))) (.v (pv 2))))))
    (ib_one (is_ret (ie_var (pv 2))))))
/-! ### agrees_with -/
abbrev N_agrees_with : List Str := [("signs" : Str), ("others" : Str), ("k" : Str)]
theorem sc_agrees_with : FnScope N_agrees_with [("signs" : Str), ("others" : Str)] (defScope s_agrees_with) := ⟨rfl, rfl, rfl, by decide +kernel, rfl, by decide +kernel, by decide +kernel⟩
def scp_agrees_with_1 : Scope := { kind := .function, names := [((".0" : Str), .local), (("k" : Str), .local), (("others" : Str), .free), (("signs" : Str), .free)], isGenerator := false, isCoroutine := false, more := [] }
def ce_agrees_with_1 : M tz := (mop inD (.e (mop addD (.e (mop idxD (.v 0) (.v 2))) (.e (mop idxD (.v 1) (.v 2))))) (.e (mtup (mcons (mcst (.str "01")) (mcons (mcst (.str "10")) mnil)))))
def c_agrees_with_1 : M tz := mlc [2] (irange1 (mcons (mfn len1 [(.v 0)]) mnil)) (gset 2) byes ce_agrees_with_1
def m_agrees_with : SM tz := (sret (mnot (mfn any1 [(.e c_agrees_with_1)])))
def f_agrees_with : FnM tz := runFn 3 2 m_agrees_with
theorem ok_agrees_with {f : Addr} {fd : FuncData} (F : Fun K ("agrees_with" : Str) ("agrees_with" : Str) s_agrees_with f fd) (T : Tx K mg)  : FnOk P w K mg base CX0 1 f fd [("signs" : Str), ("others" : Str)] (spD tz 2 f_agrees_with) :=
  fn_ok F sc_agrees_with fun cdv A outer s H E hr => by
    exact (ib_one (is_ret (ie_not (ie_blt (cr_any rfl) cd_any (by rfl) T.z_any PyProof.Rows.boot_any (ia_cons (.e (IsO.toE (io_lc [(("k" : Str), 2)] rfl sc_agrees_with.nd (ii_range1 (by rfl) T.z_range (il_cons (ie_blt call_len cd_len (by rfl) T.z_len PySem.boot_len (ia_cons (.v (pv 0)) .nil)) il_nil)) (blkOk_by (N := N_agrees_with) (sc := defScope s_agrees_with) (scope := scp_agrees_with_1) (own := [(("k" : Str), 2)]) (by decide +kernel)) (fun _ _ _ _ _ => (ig_name (i := 2) sc_agrees_with.nd rfl (Or.inl rfl))) (fun _ _ _ _ _ => its_nil) (fun _ _ _ _ _ => (ie_cmp (op_inA hr) od_in (.e (ie_op op_addAll od_add (.e (ie_ix ix_seq od_idx (.v (pv 0)) (.v (pv 2)))) (.e (ie_ix ix_seq od_idx (.v (pv 1)) (.v (pv 2)))))) (.e (ie_tup (il_cons ie_str (il_cons ie_str il_nil)))) (by with_unfolding_all rfl)))))) .nil)))))
/-! ### parts_of -/
abbrev N_parts_of : List Str := [("places" : Str), ("row" : Str), ("found" : Str), ("start" : Str), ("place" : Str)]
theorem sc_parts_of : FnScope N_parts_of [("places" : Str), ("row" : Str)] (defScope s_parts_of) := ⟨rfl, rfl, rfl, by decide +kernel, rfl, by decide +kernel, by decide +kernel⟩
def lb_parts_of_1 : SM tz := (scons (sdrop (mmut 2 uAppend (mcons (mslice sliceD (.v 1) (osome (mvar 3)) (osome (mop subD (.e (mop addD (.v 3) (.e (mfn len1 [(.e (mop idxD (.v 4) (.e (mcst (.int 0)))))])))) (.e (mcst (.int 1)))))) mnil)))
    (saug 3 addIS (mop subD (.e (mfn len1 [(.e (mop idxD (.v 4) (.e (mcst (.int 0)))))])) (.e (mcst (.int 1))))))
def l_parts_of_1 : SM tz := sfor (iseq (mvar 0)) (gset 4) lb_parts_of_1
def m_parts_of : SM tz := (scons (spar [2, 3] [(1, (mlst mnil)), (0, (mcst (.int 0)))])
    (scons l_parts_of_1
    (sret (mvar 2))))
def f_parts_of : FnM tz := runFn 5 2 m_parts_of
theorem ok_parts_of {f : Addr} {fd : FuncData} (F : Fun K ("parts_of" : Str) ("parts_of" : Str) s_parts_of f fd) (T : Tx K mg)  : FnOk P w K mg base CX0 1 f fd [("places" : Str), ("row" : Str)] (spD tz 2 f_parts_of) :=
  fn_ok F sc_parts_of fun cdv A outer s H E hr => by
    exact (ib_cons (is_par2 (i := 2) (j := 3) rfl sc_parts_of.nd rfl rfl (by decide) rfl rfl (os_cons (io_lst il_nil) (os_cons (IsE.o ie_int) os_nil)) rfl)
    (ib_cons (is_for PassesOwn.never rfl (ii_seq (ie_var (pv 0))) (ig_name (i := 4) sc_parts_of.nd rfl (Or.inl rfl)) (ib_cons (is_drop (ie_mut PySem.F.slot_list_append PySem.F.type_list_append mt_append ud_append (pv 2) (il_cons (ie_slice sl_all sd_all (.v (pv 1)) (ip_some (ie_var (pv 3))) (ip_some (ie_op op_sub od_sub (.e (ie_op op_addAll od_add (.v (pv 3)) (.e (ie_blt call_len cd_len (by rfl) T.z_len PySem.boot_len (ia_cons (.e (ie_ix ix_seq od_idx (.v (pv 4)) (.e ie_int))) .nil))))) (.e ie_int)))) il_nil)))
    (ib_one (is_aug (i := 3) sc_parts_of.nd rfl (Or.inl rfl) iop_addA od_addIS (ie_op op_sub od_sub (.e (ie_blt call_len cd_len (by rfl) T.z_len PySem.boot_len (ia_cons (.e (ie_ix ix_seq od_idx (.v (pv 4)) (.e ie_int))) .nil))) (.e ie_int))))))
    (ib_one (is_ret (ie_var (pv 2))))))
/-! ### _law_number -/
abbrev N__law_number : List Str := [("places" : Str), ("k" : Str), ("j" : Str), ("place" : Str)]
theorem sc__law_number : FnScope N__law_number [("places" : Str), ("k" : Str), ("j" : Str)] (defScope s__law_number) := ⟨rfl, rfl, rfl, by decide +kernel, rfl, by decide +kernel, by decide +kernel⟩
def scp__law_number_1 : Scope := { kind := .function, names := [((".0" : Str), .local), (("place" : Str), .local), (("len" : Str), .globalImplicit)], isGenerator := false, isCoroutine := false, more := [] }
def ce__law_number_1 : M tz := (mop subD (.e (mfn len1 [(.e (mop idxD (.v 3) (.e (mcst (.int 0)))))])) (.e (mcst (.int 1))))
def c__law_number_1 : M tz := mlc [3] (iseq (mslice sliceD (.v 0) onone (osome (mvar 1)))) (gset 3) byes ce__law_number_1
def m__law_number : SM tz := (sret (mop subD (.e (mop addD (.e (mfn sum1 [(.e c__law_number_1)])) (.v 2))) (.e (mcst (.int 1)))))
def f__law_number : FnM tz := runFn 4 3 m__law_number
theorem ok__law_number {f : Addr} {fd : FuncData} (F : Fun K ("_law_number" : Str) ("_law_number" : Str) s__law_number f fd) (T : Tx K mg)  : FnOk P w K mg base CX0 1 f fd [("places" : Str), ("k" : Str), ("j" : Str)] (spD tz 3 f__law_number) :=
  fn_ok F sc__law_number fun cdv A outer s H E hr => by
    exact (ib_one (is_ret (ie_op op_sub od_sub (.e (ie_op op_addAll od_add (.e (ie_blt (cr_sum rfl) cd_sum (by rfl) T.z_sum PyProof.Rows.boot_sum (ia_cons (.e (IsO.toE (io_lc [(("place" : Str), 3)] rfl sc__law_number.nd (ii_seq (ie_slice sl_all sd_all (.v (pv 0)) ip_none (ip_some (ie_var (pv 1))))) (blkOk_by (N := N__law_number) (sc := defScope s__law_number) (scope := scp__law_number_1) (own := [(("place" : Str), 3)]) (by decide +kernel)) (fun _ _ _ _ _ => (ig_name (i := 3) sc__law_number.nd rfl (Or.inl rfl))) (fun _ _ _ _ _ => its_nil) (fun _ _ _ _ _ => (ie_op op_sub od_sub (.e (ie_blt call_len cd_len (by rfl) T.z_len PySem.boot_len (ia_cons (.e (ie_ix ix_seq od_idx (.v (pv 3)) (.e ie_int))) .nil))) (.e ie_int)))))) .nil))) (.v (pv 2)))) (.e ie_int))))
/-! ### _law_carried -/
abbrev N__law_carried : List Str := [("places" : Str), ("parents" : Str), ("made" : Str), ("cells" : Str), ("k" : Str), ("j" : Str), ("reads" : Str), ("node" : Str), ("now" : Str), ("touched" : Str), ("error" : Str)]
theorem sc__law_carried : FnScope N__law_carried [("places" : Str), ("parents" : Str), ("made" : Str)] (defScope s__law_carried) := ⟨rfl, rfl, rfl, by decide +kernel, rfl, by decide +kernel, by decide +kernel⟩
def scp__law_carried_1 : Scope := { kind := .function, names := [((".0" : Str), .local), (("j" : Str), .local), (("k" : Str), .free)], isGenerator := false, isCoroutine := false, more := [] }
def lb__law_carried_1 : SM tz := (scons (sasg (gtup 2 (gcons (gset 4) (gcons (gset 5) gnil))) (mop idxD (.v 3) (.v 10)))
    (scons (sif (bor (asB (mop inD (.v 4) (.v 9))) (asB (mop neD (.e (mop idxD (.e (mop idxD (.e (mop idxD (.v 0) (.v 4))) (.e (mcst (.int 1))))) (.v 5))) (.e (mop idxD (.v 8) (.v 4)))))) (sret (mcst (.bl false))) snil)
    (scons (sdrop (mmut 9 uAppend (mcons (mvar 4) mnil)))
    (ssub 8 (mvar 4) (mvar 5)))))
def l__law_carried_1 : SM tz := sfor (iseq (mop idxD (.v 2) (.v 7))) (gset 10) lb__law_carried_1
def lb__law_carried_2 : SM tz := (scons (sset 8 (mite (asB (mop isND (.e (mop idxD (.v 1) (.v 7))) (.e (mcst .non)))) (mop mulD (.e (mlst (mcons (mcst (.int 0)) mnil))) (.e (mfn len1 [(.v 0)]))) (mop idxD (.v 6) (.e (mop idxD (.v 1) (.v 7))))))
    (scons (sif (asB (mop isND (.v 8) (.e (mcst .non)))) (sret (mcst (.bl false))) snil)
    (scons (spar [8, 9] [(1, (mfnL list1 [(.v 8)])), (1, (mlst mnil))])
    (scons l__law_carried_1
    (sdrop (mmut 6 uAppend (mcons (mvar 8) mnil)))))))
def l__law_carried_2 : SM tz := sfor (irange1 (mcons (mfn len1 [(.v 1)]) mnil)) (gset 7) lb__law_carried_2
def ce__law_carried_1 : M tz := (mtup (mcons (mvar 4) (mcons (mvar 5) mnil)))
def c__law_carried_1 : M tz := mlc [5] (irange2 (mcons (mcst (.int 1)) (mcons (mfn len1 [(.e (mop idxD (.e (mop idxD (.v 0) (.v 4))) (.e (mcst (.int 0)))))]) mnil))) (gset 5) byes ce__law_carried_1
def lb__law_carried_3 : SM tz := (sset 3 (mop addD (.v 3) (.e c__law_carried_1)))
def l__law_carried_3 : SM tz := sfor (irange1 (mcons (mfn len1 [(.v 0)]) mnil)) (gset 4) lb__law_carried_3
def m__law_carried : SM tz := (scons (sset 3 (mlst mnil))
    (scons l__law_carried_3
    (scons (ssetO 6 1 (mlst mnil))
    (scons l__law_carried_2
    (sret (mcst (.bl true)))))))
def f__law_carried : FnM tz := runFn 11 3 m__law_carried
theorem ok__law_carried {f : Addr} {fd : FuncData} (F : Fun K ("_law_carried" : Str) ("_law_carried" : Str) s__law_carried f fd) (T : Tx K mg)  : FnOk P w K mg base CX0 1 f fd [("places" : Str), ("parents" : Str), ("made" : Str)] (spD tz 3 f__law_carried) :=
  fn_ok F sc__law_carried fun cdv A outer s H E hr => by
    exact (ib_cons (is_set (i := 3) sc__law_carried.nd rfl (Or.inl rfl) (IsO.toE (io_lst il_nil)))
    (ib_cons (is_for PassesOwn.never rfl (ii_range1 (by rfl) T.z_range (il_cons (ie_blt call_len cd_len (by rfl) T.z_len PySem.boot_len (ia_cons (.v (pv 0)) .nil)) il_nil)) (ig_name (i := 4) sc__law_carried.nd rfl (Or.inr rfl)) (ib_one (is_set (i := 3) sc__law_carried.nd rfl (Or.inl rfl) (ie_op op_addAll od_add (.v (pv 3)) (.e (IsO.toE (io_lc [(("j" : Str), 5)] rfl sc__law_carried.nd (ii_range2 (by rfl) T.z_range (il_cons ie_int (il_cons (ie_blt call_len cd_len (by rfl) T.z_len PySem.boot_len (ia_cons (.e (ie_ix ix_seq od_idx (.e (ie_ix ix_seq od_idx (.v (pv 0)) (.v (pv 4)))) (.e ie_int))) .nil)) il_nil))) (blkOk_by (N := N__law_carried) (sc := defScope s__law_carried) (scope := scp__law_carried_1) (own := [(("j" : Str), 5)]) (by decide +kernel)) (fun _ _ _ _ _ => (ig_name (i := 5) sc__law_carried.nd rfl (Or.inl rfl))) (fun _ _ _ _ _ => its_nil) (fun _ _ _ _ _ => (ie_tup (il_cons (ie_var (pv 4)) (il_cons (ie_var (pv 5)) il_nil)))))))))))
    (ib_cons (is_setO (i := 6) sc__law_carried.nd rfl (Or.inl rfl) (io_lst il_nil))
    (ib_cons (is_for PassesOwn.never rfl (ii_range1 (by rfl) T.z_range (il_cons (ie_blt call_len cd_len (by rfl) T.z_len PySem.boot_len (ia_cons (.v (pv 1)) .nil)) il_nil)) (ig_name (i := 7) sc__law_carried.nd rfl (Or.inl rfl)) (ib_cons (is_set (i := 8) sc__law_carried.nd rfl (Or.inl rfl) (ie_ite (it_cmp op_isN od_isN (.e (ie_ix ix_seq od_idx (.v (pv 1)) (.v (pv 7)))) (.e ie_non) (nomark _)) (ie_op op_mulA od_mul (.e (IsO.toE (io_lst (il_cons ie_int il_nil)))) (.e (ie_blt call_len cd_len (by rfl) T.z_len PySem.boot_len (ia_cons (.v (pv 0)) .nil)))) (ie_ix ix_seq od_idx (.v (pv 6)) (.e (ie_ix ix_seq od_idx (.v (pv 1)) (.v (pv 7)))))))
    (ib_cons (is_if (it_cmp op_isN od_isN (.v (pv 8)) (.e ie_non) (nomark _)) (ib_one (is_ret ie_bl)) ib_nil)
    (ib_cons (is_par2 (i := 8) (j := 9) rfl sc__law_carried.nd rfl rfl (by decide) rfl rfl (os_cons (io_ty call_list_of cn_list (by rfl) T.z_list PyProof.Rows.boot_list (ia_cons (.v (pv 8)) .nil)) (os_cons (io_lst il_nil) os_nil)) rfl)
    (ib_cons (is_for PassesOwn.never rfl (ii_seq (ie_ix ix_seq od_idx (.v (pv 2)) (.v (pv 7)))) (ig_name (i := 10) sc__law_carried.nd rfl (Or.inl rfl)) (ib_cons (is_asg (ie_ix ix_seq od_idx (.v (pv 3)) (.v (pv 10))) (ig_tup rfl (igs_cons (ig_name (i := 4) sc__law_carried.nd rfl (Or.inr rfl)) (igs_cons (ig_name (i := 5) sc__law_carried.nd rfl (Or.inl rfl)) igs_nil))))
    (ib_cons (is_if (IsW.t (iw_or (it_cmp (op_inA hr) od_in (.v (pv 4)) (.v (pv 9)) (by with_unfolding_all rfl)) (iw_or1 (it_cmp (op_neA hr) od_ne (.e (ie_ix ix_seq od_idx (.e (ie_ix ix_seq od_idx (.e (ie_ix ix_seq od_idx (.v (pv 0)) (.v (pv 4)))) (.e ie_int))) (.v (pv 5)))) (.e (ie_ix ix_seq od_idx (.v (pv 8)) (.v (pv 4)))) (nomark _))))) (ib_one (is_ret ie_bl)) ib_nil)
    (ib_cons (is_drop (ie_mut PySem.F.slot_list_append PySem.F.type_list_append mt_append ud_append (pv 9) (il_cons (ie_var (pv 4)) il_nil)))
    (ib_one (is_sub (ie_var (pv 5)) (pv 8) (ie_var (pv 4))))))))
    (ib_one (is_drop (ie_mut PySem.F.slot_list_append PySem.F.type_list_append mt_append ud_append (pv 6) (il_cons (ie_var (pv 8)) il_nil)))))))))
    (ib_one (is_ret ie_bl))))))
/-! ### readings -/
abbrev N_readings : List Str := [("stemma" : Str), ("node" : Str), ("step" : Str), ("error" : Str)]
theorem sc_readings : FnScope N_readings [("stemma" : Str), ("node" : Str)] (defScope s_readings) := ⟨rfl, rfl, rfl, by decide +kernel, rfl, by decide +kernel, by decide +kernel⟩
def scp_readings_1 : Scope := { kind := .function, names := [((".0" : Str), .local), (("step" : Str), .local), (("error" : Str), .local), (("stemma" : Str), .free)], isGenerator := false, isCoroutine := false, more := [] }
def ce_readings_1 : M tz := (mvar 3)
def cs_readings_1 : ML tz := (iseq (mop idxD (.e (mop idxD (.v 0) (.e (mcst (.int 2))))) (.v 2)))
def c_readings_1 : M tz := mlc2 [2, 3] [3] (iseq (mcall 2 f_way (mcons (mvar 0) (mcons (mvar 1) mnil)))) (gset 2) byes cs_readings_1 (gset 3) byes ce_readings_1
def m_readings : SM tz := (sret (mfn tuple1 [(.e (mfnL sortedI1 [(.e c_readings_1)]))]))
def f_readings : FnM tz := runFn 4 2 m_readings
theorem ok_readings {f : Addr} {fd : FuncData} (F : Fun K ("readings" : Str) ("readings" : Str) s_readings f fd) (T : Tx K mg) (g_way : FnAt tz P w K mg base 1 ("way" : Str) 2 f_way) : FnOk P w K mg base CX0 2 f fd [("stemma" : Str), ("node" : Str)] (spD tz 2 f_readings) :=
  fn_ok F sc_readings fun cdv A outer s H E hr => by
    have c_way := g_way.fn (A := A.deeper (PyProof.Rows.envOfC ("readings" : Str) (defScope s_readings) s.heap.objs.size f cdv)) hr (by decide)
    exact (ib_one (is_ret (ie_ty call_tuple_F cd_tuple (by rfl) T.z_tuple PyProof.Rows.boot_tuple (ia_cons (.e (IsO.toE (io_blt cr_sortedI cn_sortedI (by rfl) T.z_sorted PyProof.Rows.boot_sorted (ia_cons (.e (IsO.toE (io_lc2 [(("step" : Str), 2), (("error" : Str), 3)] [3] rfl sc_readings.nd (ii_seq (ie_call c_way (by rfl) (il_cons (ie_var (pv 0)) (il_cons (ie_var (pv 1)) il_nil)))) (blkOk_by (N := N_readings) (sc := defScope s_readings) (scope := scp_readings_1) (own := [(("step" : Str), 2), (("error" : Str), 3)]) (by decide +kernel)) (by decide) (fun _ _ _ _ _ => (ig_name (i := 2) sc_readings.nd rfl (Or.inl rfl))) (fun _ _ _ _ _ => its_nil) (fun _ _ _ _ _ => (ii_seq (ie_ix ix_seq od_idx (.e (ie_ix ix_seq od_idx (.v (pv 0)) (.e ie_int))) (.v (pv 2))))) (fun _ _ _ _ _ => (ig_name (i := 3) sc_readings.nd rfl (Or.inl rfl))) (fun _ _ _ _ _ => its_nil) (fun _ _ _ _ _ => (ie_var (pv 3)))))) .nil)))) .nil))))
/-! ### signs_of -/
abbrev N_signs_of : List Str := [("place" : Str), ("reading" : Str), ("line" : Str), ("k" : Str)]
theorem sc_signs_of : FnScope N_signs_of [("place" : Str), ("reading" : Str)] (defScope s_signs_of) := ⟨rfl, rfl, rfl, by decide +kernel, rfl, by decide +kernel, by decide +kernel⟩
def scp_signs_of_1 : Scope := { kind := .function, names := [((".0" : Str), .local), (("k" : Str), .local), (("line" : Str), .free)], isGenerator := false, isCoroutine := false, more := [] }
def ce_signs_of_1 : M tz := (mite (asB (mop inD (.v 3) (.v 2))) (mcst (.str "1")) (mcst (.str "0")))
def c_signs_of_1 : M tz := mlc [3] (irange2 (mcons (mcst (.int 1)) (mcons (mfn len1 [(.e (mop idxD (.v 0) (.e (mcst (.int 0)))))]) mnil))) (gset 3) byes ce_signs_of_1
def m_signs_of : SM tz := (scons (sif (asB (mop notinD (.v 1) (.e (mop idxD (.v 0) (.e (mcst (.int 0))))))) (sret (mop mulD (.e (mcst (.str "?"))) (.e (mop subD (.e (mfn len1 [(.e (mop idxD (.v 0) (.e (mcst (.int 0)))))])) (.e (mcst (.int 1))))))) snil)
    (scons (sset 2 (mcall 2 f_line_of (mcons (mvar 0) (mcons (mmt "tuple" (fun x ys => match x with | .tup ds => indexG (.tup ds) ys | _ => none) (.e (mop idxD (.v 0) (.e (mcst (.int 0))))) [(.v 1)]) mnil))))
    (sret (mmt "str" joinG (.e (mcst (.str ""))) [(.e c_signs_of_1)]))))
def f_signs_of : FnM tz := runFn 4 2 m_signs_of
theorem ok_signs_of {f : Addr} {fd : FuncData} (F : Fun K ("signs_of" : Str) ("signs_of" : Str) s_signs_of f fd) (T : Tx K mg) (g_line_of : FnAt tz P w K mg base 1 ("line_of" : Str) 2 f_line_of) : FnOk P w K mg base CX0 2 f fd [("place" : Str), ("reading" : Str)] (spD tz 2 f_signs_of) :=
  fn_ok F sc_signs_of fun cdv A outer s H E hr => by
    have c_line_of := g_line_of.fn (A := A.deeper (PyProof.Rows.envOfC ("signs_of" : Str) (defScope s_signs_of) s.heap.objs.size f cdv)) hr (by decide)
    exact (ib_cons (is_if (it_cmp (op_notInA hr) od_notin (.v (pv 1)) (.e (ie_ix ix_seq od_idx (.v (pv 0)) (.e ie_int))) (by with_unfolding_all rfl)) (ib_one (is_ret (ie_op op_mulA od_mul (.e ie_str) (.e (ie_op op_sub od_sub (.e (ie_blt call_len cd_len (by rfl) T.z_len PySem.boot_len (ia_cons (.e (ie_ix ix_seq od_idx (.v (pv 0)) (.e ie_int))) .nil))) (.e ie_int)))))) ib_nil)
    (ib_cons (is_set (i := 2) sc_signs_of.nd rfl (Or.inr rfl) (ie_call c_line_of (by rfl) (il_cons (ie_var (pv 0)) (il_cons (ie_mt (by decide) PySem.F.plainAttrs_tuple PySem.F.slot_tuple_index PySem.F.type_tuple_index (mt_indexT hr) md_indexT (.e (ie_ix ix_seq od_idx (.v (pv 0)) (.e ie_int))) (ia_cons (.v (pv 1)) .nil)) il_nil))))
    (ib_one (is_ret (ie_mt (by decide) PySem.F.plainAttrs_str PySem.F.slot_str_join PySem.F.type_str_join mt_join md_join (.e ie_str) (ia_cons (.e (IsO.toE (io_lc [(("k" : Str), 3)] rfl sc_signs_of.nd (ii_range2 (by rfl) T.z_range (il_cons ie_int (il_cons (ie_blt call_len cd_len (by rfl) T.z_len PySem.boot_len (ia_cons (.e (ie_ix ix_seq od_idx (.v (pv 0)) (.e ie_int))) .nil)) il_nil))) (blkOk_by (N := N_signs_of) (sc := defScope s_signs_of) (scope := scp_signs_of_1) (own := [(("k" : Str), 3)]) (by decide +kernel)) (fun _ _ _ _ _ => (ig_name (i := 3) sc_signs_of.nd rfl (Or.inl rfl))) (fun _ _ _ _ _ => its_nil) (fun _ _ _ _ _ => (ie_ite (it_cmp (op_inA hr) od_in (.v (pv 3)) (.v (pv 2)) (by with_unfolding_all rfl)) ie_str ie_str))))) .nil))))))
/-! ### number_of -/
abbrev N_number_of : List Str := [("places" : Str), ("error" : Str)]
theorem sc_number_of : FnScope N_number_of [("places" : Str), ("error" : Str)] (defScope s_number_of) := ⟨rfl, rfl, rfl, by decide +kernel, rfl, by decide +kernel, by decide +kernel⟩
def m_number_of : SM tz := (sret (mop idxD (.e (mcall 1 f_columns (mcons (mvar 0) mnil))) (.v 1)))
def f_number_of : FnM tz := runFn 2 2 m_number_of
theorem ok_number_of {f : Addr} {fd : FuncData} (F : Fun K ("number_of" : Str) ("number_of" : Str) s_number_of f fd) (T : Tx K mg) (g_columns : FnAt tz P w K mg base 1 ("columns" : Str) 1 f_columns) : FnOk P w K mg base CX0 2 f fd [("places" : Str), ("error" : Str)] (spD tz 2 f_number_of) :=
  fn_ok F sc_number_of fun cdv A outer s H E hr => by
    have c_columns := g_columns.fn (A := A.deeper (PyProof.Rows.envOfC ("number_of" : Str) (defScope s_number_of) s.heap.objs.size f cdv)) hr (by decide)
    exact (ib_one (is_ret (ie_ix ix_seq od_idx (.e (ie_call c_columns (by rfl) (il_cons (ie_var (pv 0)) il_nil))) (.v (pv 1)))))
/-! ### _law_pick -/
abbrev N__law_pick : List Str := [("state" : Str), ("row" : Str)]
theorem sc__law_pick : FnScope N__law_pick [("state" : Str), ("row" : Str)] (defScope s__law_pick) := ⟨rfl, rfl, rfl, by decide +kernel, rfl, by decide +kernel, by decide +kernel⟩
def m__law_pick : SM tz := (sret (mop idxD (.v 1) (.e (mcall 2 f__law_take (mcons (mvar 0) (mcons (mfn len1 [(.v 1)]) mnil))))))
def f__law_pick : FnM tz := runFn 2 2 m__law_pick
theorem ok__law_pick {f : Addr} {fd : FuncData} (F : Fun K ("_law_pick" : Str) ("_law_pick" : Str) s__law_pick f fd) (T : Tx K mg) (g__law_take : FnAt tz P w K mg base 1 ("_law_take" : Str) 2 f__law_take) : FnOk P w K mg base CX0 2 f fd [("state" : Str), ("row" : Str)] (spD tz 2 f__law_pick) :=
  fn_ok F sc__law_pick fun cdv A outer s H E hr => by
    have c__law_take := g__law_take.fn (A := A.deeper (PyProof.Rows.envOfC ("_law_pick" : Str) (defScope s__law_pick) s.heap.objs.size f cdv)) hr (by decide)
    exact (ib_one (is_ret (ie_ix ix_seq od_idx (.v (pv 1)) (.e (ie_call c__law_take (by rfl) (il_cons (ie_var (pv 0)) (il_cons (ie_blt call_len cd_len (by rfl) T.z_len PySem.boot_len (ia_cons (.v (pv 1)) .nil)) il_nil)))))))
/-! ### shown -/
abbrev N_shown : List Str := [("stemma" : Str), ("names" : Str), ("many" : Str), ("rows" : Str), ("seat" : Str), ("held" : Str), ("error" : Str)]
theorem sc_shown : FnScope N_shown [("stemma" : Str), ("names" : Str), ("many" : Str)] (defScope s_shown) := ⟨rfl, rfl, rfl, by decide +kernel, rfl, by decide +kernel, by decide +kernel⟩
def scp_shown_1 : Scope := { kind := .function, names := [((".0" : Str), .local), (("error" : Str), .local), (("held" : Str), .free)], isGenerator := false, isCoroutine := false, more := [] }
def ce_shown_1 : M tz := (mite (asB (mop inD (.v 6) (.v 5))) (mcst (.str "1")) (mcst (.str "0")))
def c_shown_1 : M tz := mlc [6] (irange1 (mcons (mvar 2) mnil)) (gset 6) byes ce_shown_1
def lb_shown_1 : SM tz := (scons (sset 5 (mcall 2 f_readings (mcons (mvar 0) (mcons (mvar 4) mnil))))
    (sdrop (mmut 3 uAppend (mcons (mmt "str" joinG (.e (mcst (.str ""))) [(.e c_shown_1)]) mnil))))
def l_shown_1 : SM tz := sfor (iseq (mop idxD (.v 0) (.e (mcst (.int 3))))) (gset 4) lb_shown_1
def m_shown : SM tz := (scons (ssetO 3 1 (mlst mnil))
    (scons l_shown_1
    (sret (mtup (mcons (mcst (.str "table")) (mcons (mfn tuple1 [(.v 1)]) (mcons (mfn tuple1 [(.v 3)]) mnil)))))))
def f_shown : FnM tz := runFn 7 3 m_shown
theorem ok_shown {f : Addr} {fd : FuncData} (F : Fun K ("shown" : Str) ("shown" : Str) s_shown f fd) (T : Tx K mg) (g_readings : FnAt tz P w K mg base 2 ("readings" : Str) 2 f_readings) : FnOk P w K mg base CX0 3 f fd [("stemma" : Str), ("names" : Str), ("many" : Str)] (spD tz 3 f_shown) :=
  fn_ok F sc_shown fun cdv A outer s H E hr => by
    have c_readings := g_readings.fn (A := A.deeper (PyProof.Rows.envOfC ("shown" : Str) (defScope s_shown) s.heap.objs.size f cdv)) hr (by decide)
    exact (ib_cons (is_setO (i := 3) sc_shown.nd rfl (Or.inl rfl) (io_lst il_nil))
    (ib_cons (is_for PassesOwn.never rfl (ii_seq (ie_ix ix_seq od_idx (.v (pv 0)) (.e ie_int))) (ig_name (i := 4) sc_shown.nd rfl (Or.inl rfl)) (ib_cons (is_set (i := 5) sc_shown.nd rfl (Or.inr rfl) (ie_call c_readings (by rfl) (il_cons (ie_var (pv 0)) (il_cons (ie_var (pv 4)) il_nil))))
    (ib_one (is_drop (ie_mut PySem.F.slot_list_append PySem.F.type_list_append mt_append ud_append (pv 3) (il_cons (ie_mt (by decide) PySem.F.plainAttrs_str PySem.F.slot_str_join PySem.F.type_str_join mt_join md_join (.e ie_str) (ia_cons (.e (IsO.toE (io_lc [(("error" : Str), 6)] rfl sc_shown.nd (ii_range1 (by rfl) T.z_range (il_cons (ie_var (pv 2)) il_nil)) (blkOk_by (N := N_shown) (sc := defScope s_shown) (scope := scp_shown_1) (own := [(("error" : Str), 6)]) (by decide +kernel)) (fun _ _ _ _ _ => (ig_name (i := 6) sc_shown.nd rfl (Or.inl rfl))) (fun _ _ _ _ _ => its_nil) (fun _ _ _ _ _ => (ie_ite (it_cmp (op_inA hr) od_in (.v (pv 6)) (.v (pv 5)) (by with_unfolding_all rfl)) ie_str ie_str))))) .nil)) il_nil))))))
    (ib_one (is_ret (ie_tup (il_cons ie_str (il_cons (ie_ty call_tuple_F cd_tuple (by rfl) T.z_tuple PyProof.Rows.boot_tuple (ia_cons (.v (pv 1)) .nil)) (il_cons (ie_ty call_tuple_F cd_tuple (by rfl) T.z_tuple PyProof.Rows.boot_tuple (ia_cons (.v (pv 3)) .nil)) il_nil))))))))
/-! ### row_of_readings -/
abbrev N_row_of_readings : List Str := [("places" : Str), ("readings" : Str), ("k" : Str)]
theorem sc_row_of_readings : FnScope N_row_of_readings [("places" : Str), ("readings" : Str)] (defScope s_row_of_readings) := ⟨rfl, rfl, rfl, by decide +kernel, rfl, by decide +kernel, by decide +kernel⟩
def scp_row_of_readings_1 : Scope := { kind := .function, names := [((".0" : Str), .local), (("k" : Str), .local), (("signs_of" : Str), .globalImplicit), (("places" : Str), .free), (("readings" : Str), .free)], isGenerator := false, isCoroutine := false, more := [] }
def ce_row_of_readings_1 : M tz := (mcall 2 f_signs_of (mcons (mop idxD (.v 0) (.v 2)) (mcons (mop idxD (.v 1) (.v 2)) mnil)))
def c_row_of_readings_1 : M tz := mlc [2] (irange1 (mcons (mfn len1 [(.v 0)]) mnil)) (gset 2) byes ce_row_of_readings_1
def m_row_of_readings : SM tz := (sret (mmt "str" joinG (.e (mcst (.str ""))) [(.e c_row_of_readings_1)]))
def f_row_of_readings : FnM tz := runFn 3 2 m_row_of_readings
theorem ok_row_of_readings {f : Addr} {fd : FuncData} (F : Fun K ("row_of_readings" : Str) ("row_of_readings" : Str) s_row_of_readings f fd) (T : Tx K mg) (g_signs_of : FnAt tz P w K mg base 2 ("signs_of" : Str) 2 f_signs_of) : FnOk P w K mg base CX0 3 f fd [("places" : Str), ("readings" : Str)] (spD tz 2 f_row_of_readings) :=
  fn_ok F sc_row_of_readings fun cdv A outer s H E hr => by
    have c_signs_of := g_signs_of.fn (A := A.deeper (PyProof.Rows.envOfC ("row_of_readings" : Str) (defScope s_row_of_readings) s.heap.objs.size f cdv)) hr (by decide)
    exact (ib_one (is_ret (ie_mt (by decide) PySem.F.plainAttrs_str PySem.F.slot_str_join PySem.F.type_str_join mt_join md_join (.e ie_str) (ia_cons (.e (IsO.toE (io_lc [(("k" : Str), 2)] rfl sc_row_of_readings.nd (ii_range1 (by rfl) T.z_range (il_cons (ie_blt call_len cd_len (by rfl) T.z_len PySem.boot_len (ia_cons (.v (pv 0)) .nil)) il_nil)) (blkOk_by (N := N_row_of_readings) (sc := defScope s_row_of_readings) (scope := scp_row_of_readings_1) (own := [(("k" : Str), 2)]) (by decide +kernel)) (fun _ _ _ _ _ => (ig_name (i := 2) sc_row_of_readings.nd rfl (Or.inl rfl))) (fun _ _ _ _ _ => its_nil) (fun _ _ _ _ _ => (ie_call c_signs_of (by rfl) (il_cons (ie_ix ix_seq od_idx (.v (pv 0)) (.v (pv 2))) (il_cons (ie_ix ix_seq od_idx (.v (pv 1)) (.v (pv 2))) il_nil))))))) .nil))))
/-! ### possible -/
abbrev N_possible : List Str := [("place" : Str), ("signs" : Str), ("reading" : Str)]
theorem sc_possible : FnScope N_possible [("place" : Str), ("signs" : Str)] (defScope s_possible) := ⟨rfl, rfl, rfl, by decide +kernel, rfl, by decide +kernel, by decide +kernel⟩
def scp_possible_1 : Scope := { kind := .function, names := [((".0" : Str), .local), (("reading" : Str), .local), (("agrees_with" : Str), .globalImplicit), (("signs_of" : Str), .globalImplicit), (("place" : Str), .free), (("signs" : Str), .free)], isGenerator := false, isCoroutine := false, more := [] }
def ce_possible_1 : M tz := (mvar 2)
def ct_possible_1 : MB tz := (asB (mcall 2 f_agrees_with (mcons (mvar 1) (mcons (mcall 2 f_signs_of (mcons (mvar 0) (mcons (mvar 2) mnil))) mnil))))
def c_possible_1 : M tz := mlc [2] (iseq (mop idxD (.v 0) (.e (mcst (.int 0))))) (gset 2) ct_possible_1 ce_possible_1
def m_possible : SM tz := (sret c_possible_1)
def f_possible : FnM tz := runFn 3 2 m_possible
theorem ok_possible {f : Addr} {fd : FuncData} (F : Fun K ("possible" : Str) ("possible" : Str) s_possible f fd) (T : Tx K mg) (g_signs_of : FnAt tz P w K mg base 2 ("signs_of" : Str) 2 f_signs_of) (g_agrees_with : FnAt tz P w K mg base 1 ("agrees_with" : Str) 2 f_agrees_with) : FnOk P w K mg base CX0 3 f fd [("place" : Str), ("signs" : Str)] (spD tz 2 f_possible) :=
  fn_ok F sc_possible fun cdv A outer s H E hr => by
    have c_signs_of := g_signs_of.fn (A := A.deeper (PyProof.Rows.envOfC ("possible" : Str) (defScope s_possible) s.heap.objs.size f cdv)) hr (by decide)
    have c_agrees_with := g_agrees_with.fn (A := A.deeper (PyProof.Rows.envOfC ("possible" : Str) (defScope s_possible) s.heap.objs.size f cdv)) hr (by decide)
    exact (ib_one (is_ret (IsO.toE (io_lc [(("reading" : Str), 2)] rfl sc_possible.nd (ii_seq (ie_ix ix_seq od_idx (.v (pv 0)) (.e ie_int))) (blkOk_by (N := N_possible) (sc := defScope s_possible) (scope := scp_possible_1) (own := [(("reading" : Str), 2)]) (by decide +kernel)) (fun _ _ _ _ _ => (ig_name (i := 2) sc_possible.nd rfl (Or.inl rfl))) (fun _ _ _ _ _ => (its_one (it_val (ie_call c_agrees_with (by rfl) (il_cons (ie_var (pv 1)) (il_cons (ie_call c_signs_of (by rfl) (il_cons (ie_var (pv 0)) (il_cons (ie_var (pv 2)) il_nil))) il_nil)))))) (fun _ _ _ _ _ => (ie_var (pv 2)))))))
/-! ### read_at -/
abbrev N_read_at : List Str := [("stemma" : Str), ("places" : Str), ("node" : Str), ("now" : Str), ("step" : Str), ("error" : Str), ("k" : Str), ("j" : Str)]
theorem sc_read_at : FnScope N_read_at [("stemma" : Str), ("places" : Str), ("node" : Str)] (defScope s_read_at) := ⟨rfl, rfl, rfl, by decide +kernel, rfl, by decide +kernel, by decide +kernel⟩
def lb_read_at_1 : SM tz := (scons (sasg (gtup 2 (gcons (gset 6) (gcons (gset 7) gnil))) (mcall 2 f_number_of (mcons (mvar 1) (mcons (mvar 5) mnil))))
    (sif (asB (mop isntND (.e (mop idxD (.v 3) (.v 6))) (.e (mcst .non)))) (ssub 3 (mvar 6) (mite (asB (mop eqD (.e (mop idxD (.e (mop idxD (.e (mop idxD (.v 1) (.v 6))) (.e (mcst (.int 1))))) (.v 7))) (.e (mop idxD (.v 3) (.v 6))))) (mvar 7) (mcst .non))) snil))
def l_read_at_1 : SM tz := sfor (iseq (mop idxD (.e (mop idxD (.v 0) (.e (mcst (.int 2))))) (.v 4))) (gset 5) lb_read_at_1
def lb_read_at_2 : SM tz := l_read_at_1
def l_read_at_2 : SM tz := sfor (iseq (mcall 2 f_way (mcons (mvar 0) (mcons (mvar 2) mnil)))) (gset 4) lb_read_at_2
def m_read_at : SM tz := (scons (ssetO 3 1 (mopL mulN (.e (mlst (mcons (mcst (.int 0)) mnil))) (.e (mfn len1 [(.v 1)]))))
    (scons l_read_at_2
    (sret (mvar 3))))
def f_read_at : FnM tz := runFn 8 3 m_read_at
theorem ok_read_at {f : Addr} {fd : FuncData} (F : Fun K ("read_at" : Str) ("read_at" : Str) s_read_at f fd) (T : Tx K mg) (g_way : FnAt tz P w K mg base 1 ("way" : Str) 2 f_way) (g_number_of : FnAt tz P w K mg base 2 ("number_of" : Str) 2 f_number_of) : FnOk P w K mg base CX0 3 f fd [("stemma" : Str), ("places" : Str), ("node" : Str)] (spD tz 3 f_read_at) :=
  fn_ok F sc_read_at fun cdv A outer s H E hr => by
    have c_way := g_way.fn (A := A.deeper (PyProof.Rows.envOfC ("read_at" : Str) (defScope s_read_at) s.heap.objs.size f cdv)) hr (by decide)
    have c_number_of := g_number_of.fn (A := A.deeper (PyProof.Rows.envOfC ("read_at" : Str) (defScope s_read_at) s.heap.objs.size f cdv)) hr (by decide)
    exact (ib_cons (is_setO (i := 3) sc_read_at.nd rfl (Or.inl rfl) (io_op op_rep on_rep (.e (IsO.toE (io_lst (il_cons ie_int il_nil)))) (.e (ie_blt call_len cd_len (by rfl) T.z_len PySem.boot_len (ia_cons (.v (pv 1)) .nil)))))
    (ib_cons (is_for PassesOwn.never rfl (ii_seq (ie_call c_way (by rfl) (il_cons (ie_var (pv 0)) (il_cons (ie_var (pv 2)) il_nil)))) (ig_name (i := 4) sc_read_at.nd rfl (Or.inl rfl)) (ib_one (is_for PassesOwn.never rfl (ii_seq (ie_ix ix_seq od_idx (.e (ie_ix ix_seq od_idx (.v (pv 0)) (.e ie_int))) (.v (pv 4)))) (ig_name (i := 5) sc_read_at.nd rfl (Or.inl rfl)) (ib_cons (is_asg (ie_call c_number_of (by rfl) (il_cons (ie_var (pv 1)) (il_cons (ie_var (pv 5)) il_nil))) (ig_tup rfl (igs_cons (ig_name (i := 6) sc_read_at.nd rfl (Or.inl rfl)) (igs_cons (ig_name (i := 7) sc_read_at.nd rfl (Or.inl rfl)) igs_nil))))
    (ib_one (is_if (it_cmp op_notN od_isntN (.e (ie_ix ix_seq od_idx (.v (pv 3)) (.v (pv 6)))) (.e ie_non) (nomark _)) (ib_one (is_sub (ie_ite (it_cmp (op_eqA hr) od_eq (.e (ie_ix ix_seq od_idx (.e (ie_ix ix_seq od_idx (.e (ie_ix ix_seq od_idx (.v (pv 1)) (.v (pv 6)))) (.e ie_int))) (.v (pv 7)))) (.e (ie_ix ix_seq od_idx (.v (pv 3)) (.v (pv 6)))) (nomark _)) (ie_var (pv 7)) ie_non) (pv 3) (ie_var (pv 6)))) ib_nil))))))
    (ib_one (is_ret (ie_var (pv 3))))))
/-! ### _law_places -/
abbrev N__law_places : List Str := [("state" : Str), ("found" : Str), ("k" : Str), ("many" : Str), ("elders" : Str), ("j" : Str)]
theorem sc__law_places : FnScope N__law_places [("state" : Str)] (defScope s__law_places) := ⟨rfl, rfl, rfl, by decide +kernel, rfl, by decide +kernel, by decide +kernel⟩
def scp__law_places_1 : Scope := { kind := .function, names := [((".0" : Str), .local), (("j" : Str), .local)], isGenerator := false, isCoroutine := false, more := [] }
def ce__law_places_1 : M tz := (mop mulD (.e (mtup (mcons (mcst (.str "w")) mnil))) (.v 5))
def c__law_places_1 : M tz := mlc [5] (irange1 (mcons (mvar 3) mnil)) (gset 5) byes ce__law_places_1
def lb__law_places_1 : SM tz := (sdrop (mmut 4 uAppend (mcons (mcall 2 f__law_pick (mcons (mvar 0) (mcons (mlst (mcons (mcst (.int 0)) (mcons (mop subD (.v 5) (.e (mcst (.int 1)))) (mcons (mcall 2 f__law_take (mcons (mvar 0) (mcons (mvar 5) mnil))) mnil)))) mnil))) mnil)))
def l__law_places_1 : SM tz := sfor (irange2 (mcons (mcst (.int 1)) (mcons (mvar 3) mnil))) (gset 5) lb__law_places_1
def lb__law_places_2 : SM tz := (scons (sset 3 (mop addD (.e (mcst (.int 1))) (.e (mcall 2 f__law_take (mcons (mvar 0) (mcons (mcst (.int 7)) mnil))))))
    (scons (ssetO 4 1 (mlst (mcons (mcst .non) mnil)))
    (scons l__law_places_1
    (sdrop (mmut 1 uAppend (mcons (mtup (mcons (mfn tuple1 [(.e c__law_places_1)]) (mcons (mfn tuple1 [(.v 4)]) mnil))) mnil))))))
def l__law_places_2 : SM tz := sfor (irange1 (mcons (mop addD (.e (mcst (.int 1))) (.e (mcall 2 f__law_take (mcons (mvar 0) (mcons (mcst (.int 5)) mnil))))) mnil)) (gset 2) lb__law_places_2
def m__law_places : SM tz := (scons (ssetO 1 1 (mlst mnil))
    (scons l__law_places_2
    (sret (mfn tuple1 [(.v 1)]))))
def f__law_places : FnM tz := runFn 6 1 m__law_places
theorem ok__law_places {f : Addr} {fd : FuncData} (F : Fun K ("_law_places" : Str) ("_law_places" : Str) s__law_places f fd) (T : Tx K mg) (g__law_take : FnAt tz P w K mg base 1 ("_law_take" : Str) 2 f__law_take) (g__law_pick : FnAt tz P w K mg base 2 ("_law_pick" : Str) 2 f__law_pick) : FnOk P w K mg base CX0 3 f fd [("state" : Str)] (spD tz 1 f__law_places) :=
  fn_ok F sc__law_places fun cdv A outer s H E hr => by
    have c__law_take := g__law_take.fn (A := A.deeper (PyProof.Rows.envOfC ("_law_places" : Str) (defScope s__law_places) s.heap.objs.size f cdv)) hr (by decide)
    have c__law_pick := g__law_pick.fn (A := A.deeper (PyProof.Rows.envOfC ("_law_places" : Str) (defScope s__law_places) s.heap.objs.size f cdv)) hr (by decide)
    exact (ib_cons (is_setO (i := 1) sc__law_places.nd rfl (Or.inl rfl) (io_lst il_nil))
    (ib_cons (is_for PassesOwn.never rfl (ii_range1 (by rfl) T.z_range (il_cons (ie_op op_addAll od_add (.e ie_int) (.e (ie_call c__law_take (by rfl) (il_cons (ie_var (pv 0)) (il_cons ie_int il_nil))))) il_nil)) (ig_name (i := 2) sc__law_places.nd rfl (Or.inl rfl)) (ib_cons (is_set (i := 3) sc__law_places.nd rfl (Or.inl rfl) (ie_op op_addAll od_add (.e ie_int) (.e (ie_call c__law_take (by rfl) (il_cons (ie_var (pv 0)) (il_cons ie_int il_nil))))))
    (ib_cons (is_setO (i := 4) sc__law_places.nd rfl (Or.inl rfl) (io_lst (il_cons ie_non il_nil)))
    (ib_cons (is_for PassesOwn.never rfl (ii_range2 (by rfl) T.z_range (il_cons ie_int (il_cons (ie_var (pv 3)) il_nil))) (ig_name (i := 5) sc__law_places.nd rfl (Or.inl rfl)) (ib_one (is_drop (ie_mut PySem.F.slot_list_append PySem.F.type_list_append mt_append ud_append (pv 4) (il_cons (ie_call c__law_pick (by rfl) (il_cons (ie_var (pv 0)) (il_cons (IsO.toE (io_lst (il_cons ie_int (il_cons (ie_op op_sub od_sub (.v (pv 5)) (.e ie_int)) (il_cons (ie_call c__law_take (by rfl) (il_cons (ie_var (pv 0)) (il_cons (ie_var (pv 5)) il_nil))) il_nil))))) il_nil))) il_nil)))))
    (ib_one (is_drop (ie_mut PySem.F.slot_list_append PySem.F.type_list_append mt_append ud_append (pv 1) (il_cons (ie_tup (il_cons (ie_ty call_tuple_F cd_tuple (by rfl) T.z_tuple PyProof.Rows.boot_tuple (ia_cons (.e (IsO.toE (io_lc [(("j" : Str), 5)] rfl sc__law_places.nd (ii_range1 (by rfl) T.z_range (il_cons (ie_var (pv 3)) il_nil)) (blkOk_by (N := N__law_places) (sc := defScope s__law_places) (scope := scp__law_places_1) (own := [(("j" : Str), 5)]) (by decide +kernel)) (fun _ _ _ _ _ => (ig_name (i := 5) sc__law_places.nd rfl (Or.inl rfl))) (fun _ _ _ _ _ => its_nil) (fun _ _ _ _ _ => (ie_op op_mulA od_mul (.e (ie_tup (il_cons ie_str il_nil))) (.v (pv 5))))))) .nil)) (il_cons (ie_ty call_tuple_F cd_tuple (by rfl) T.z_tuple PyProof.Rows.boot_tuple (ia_cons (.v (pv 4)) .nil)) il_nil))) il_nil))))))))
    (ib_one (is_ret (ie_ty call_tuple_F cd_tuple (by rfl) T.z_tuple PyProof.Rows.boot_tuple (ia_cons (.v (pv 1)) .nil))))))
/-! ### _law_history -/
abbrev N__law_history : List Str := [("state" : Str), ("places" : Str), ("parents" : Str), ("made" : Str), ("reads" : Str), ("used" : Str), ("node" : Str), ("elder" : Str), ("mine" : Str), ("errors" : Str), ("k" : Str), ("fresh" : Str), ("j" : Str)]
theorem sc__law_history : FnScope N__law_history [("state" : Str), ("places" : Str)] (defScope s__law_history) := ⟨rfl, rfl, rfl, by decide +kernel, rfl, by decide +kernel, by decide +kernel⟩
def scp__law_history_1 : Scope := { kind := .function, names := [((".0" : Str), .local), (("j" : Str), .local), (("k" : Str), .free), (("mine" : Str), .free), (("places" : Str), .free), (("used" : Str), .free)], isGenerator := false, isCoroutine := false, more := [] }
def ce__law_history_1 : M tz := (mvar 12)
def ct__law_history_1 : MB tz := (band (asB (mop eqD (.e (mop idxD (.e (mop idxD (.e (mop idxD (.v 1) (.v 10))) (.e (mcst (.int 1))))) (.v 12))) (.e (mop idxD (.v 8) (.v 10))))) (asB (mop notinD (.e (mtup (mcons (mvar 10) (mcons (mvar 12) mnil)))) (.v 5))))
def c__law_history_1 : M tz := mlc [12] (irange2 (mcons (mcst (.int 1)) (mcons (mfn len1 [(.e (mop idxD (.e (mop idxD (.v 1) (.v 10))) (.e (mcst (.int 0)))))]) mnil))) (gset 12) ct__law_history_1 ce__law_history_1
def lb__law_history_1 : SM tz := (scons (sset 11 c__law_history_1)
    (sif (band (asB (mop gtD (.e (mfn len1 [(.v 11)])) (.e (mcst (.int 0))))) (asB (mop eqD (.e (mcall 2 f__law_take (mcons (mvar 0) (mcons (mcst (.int 3)) mnil)))) (.e (mcst (.int 0)))))) (scons (ssub 8 (mvar 10) (mcall 2 f__law_pick (mcons (mvar 0) (mcons (mvar 11) mnil))))
    (scons (sdrop (mmut 5 uAppend (mcons (mtup (mcons (mvar 10) (mcons (mop idxD (.v 8) (.v 10)) mnil))) mnil)))
    (sdrop (mmut 9 uAppend (mcons (mcall 3 f__law_number (mcons (mvar 1) (mcons (mvar 10) (mcons (mop idxD (.v 8) (.v 10)) mnil)))) mnil))))) snil))
def l__law_history_1 : SM tz := sfor (irange1 (mcons (mfn len1 [(.v 1)]) mnil)) (gset 10) lb__law_history_1
def lb__law_history_2 : SM tz := (scons (sset 7 (mcall 2 f__law_pick (mcons (mvar 0) (mcons (mlst (mcons (mop subD (.v 6) (.e (mcst (.int 1)))) (mcons (mcall 2 f__law_take (mcons (mvar 0) (mcons (mvar 6) mnil))) mnil))) mnil))))
    (scons (spar [8, 9] [(1, (mfnL list1 [(.e (mop idxD (.v 4) (.v 7)))])), (1, (mlst mnil))])
    (scons l__law_history_1
    (scons (sdrop (mmut 2 uAppend (mcons (mvar 7) mnil)))
    (scons (sdrop (mmut 3 uAppend (mcons (mfnL sortedI1 [(.v 9)]) mnil)))
    (sdrop (mmut 4 uAppend (mcons (mvar 8) mnil))))))))
def l__law_history_2 : SM tz := sfor (irange2 (mcons (mcst (.int 1)) (mcons (mop addD (.e (mcst (.int 1))) (.e (mcall 2 f__law_take (mcons (mvar 0) (mcons (mcst (.int 30)) mnil))))) mnil))) (gset 6) lb__law_history_2
def m__law_history : SM tz := (scons (spar [2, 3, 4] [(1, (mlst (mcons (mcst .non) mnil))), (1, (mlst (mcons (mlst mnil) mnil))), (1, (mlst (mcons (mop mulD (.e (mlst (mcons (mcst (.int 0)) mnil))) (.e (mfn len1 [(.v 1)]))) mnil)))])
    (scons (ssetO 5 1 (mlst mnil))
    (scons l__law_history_2
    (sret (mtup (mcons (mvar 2) (mcons (mvar 3) (mcons (mvar 4) mnil))))))))
def f__law_history : FnM tz := runFn 13 2 m__law_history
theorem ok__law_history {f : Addr} {fd : FuncData} (F : Fun K ("_law_history" : Str) ("_law_history" : Str) s__law_history f fd) (T : Tx K mg) (g__law_take : FnAt tz P w K mg base 1 ("_law_take" : Str) 2 f__law_take) (g__law_number : FnAt tz P w K mg base 1 ("_law_number" : Str) 3 f__law_number) (g__law_pick : FnAt tz P w K mg base 2 ("_law_pick" : Str) 2 f__law_pick) : FnOk P w K mg base CX0 3 f fd [("state" : Str), ("places" : Str)] (spD tz 2 f__law_history) :=
  fn_ok F sc__law_history fun cdv A outer s H E hr => by
    have c__law_take := g__law_take.fn (A := A.deeper (PyProof.Rows.envOfC ("_law_history" : Str) (defScope s__law_history) s.heap.objs.size f cdv)) hr (by decide)
    have c__law_number := g__law_number.fn (A := A.deeper (PyProof.Rows.envOfC ("_law_history" : Str) (defScope s__law_history) s.heap.objs.size f cdv)) hr (by decide)
    have c__law_pick := g__law_pick.fn (A := A.deeper (PyProof.Rows.envOfC ("_law_history" : Str) (defScope s__law_history) s.heap.objs.size f cdv)) hr (by decide)
    exact (ib_cons (is_par3 (i := 2) (j := 3) (l := 4) rfl sc__law_history.nd rfl rfl rfl (by decide) (by decide) (by decide) rfl rfl rfl (os_cons (io_lst (il_cons ie_non il_nil)) (os_cons (io_lst (il_cons (IsO.toE (io_lst il_nil)) il_nil)) (os_cons (io_lst (il_cons (ie_op op_mulA od_mul (.e (IsO.toE (io_lst (il_cons ie_int il_nil)))) (.e (ie_blt call_len cd_len (by rfl) T.z_len PySem.boot_len (ia_cons (.v (pv 1)) .nil)))) il_nil)) os_nil))) rfl)
    (ib_cons (is_setO (i := 5) sc__law_history.nd rfl (Or.inr rfl) (io_lst il_nil))
    (ib_cons (is_for PassesOwn.never rfl (ii_range2 (by rfl) T.z_range (il_cons ie_int (il_cons (ie_op op_addAll od_add (.e ie_int) (.e (ie_call c__law_take (by rfl) (il_cons (ie_var (pv 0)) (il_cons ie_int il_nil))))) il_nil))) (ig_name (i := 6) sc__law_history.nd rfl (Or.inl rfl)) (ib_cons (is_set (i := 7) sc__law_history.nd rfl (Or.inl rfl) (ie_call c__law_pick (by rfl) (il_cons (ie_var (pv 0)) (il_cons (IsO.toE (io_lst (il_cons (ie_op op_sub od_sub (.v (pv 6)) (.e ie_int)) (il_cons (ie_call c__law_take (by rfl) (il_cons (ie_var (pv 0)) (il_cons (ie_var (pv 6)) il_nil))) il_nil)))) il_nil))))
    (ib_cons (is_parT (is := [8, 9]) rfl (os_cons (io_ty call_list_of cn_list (by rfl) T.z_list PyProof.Rows.boot_list (ia_cons (.e (ie_ix ix_seq od_idx (.v (pv 4)) (.v (pv 7)))) .nil)) (os_cons (io_lst il_nil) os_nil)) (pgs_cons (pg_name (i := 8) sc__law_history.nd rfl (Or.inr rfl)) (pgs_cons (pg_name (i := 9) sc__law_history.nd rfl (Or.inl rfl)) pgs_nil)) rfl rfl)
    (ib_cons (is_for PassesOwn.never rfl (ii_range1 (by rfl) T.z_range (il_cons (ie_blt call_len cd_len (by rfl) T.z_len PySem.boot_len (ia_cons (.v (pv 1)) .nil)) il_nil)) (ig_name (i := 10) sc__law_history.nd rfl (Or.inr rfl)) (ib_cons (is_lc [(("j" : Str), 12)] (i := 11) rfl sc__law_history.nd rfl rfl (sw_true rfl rfl rfl (by decide +kernel)) (ii_range2 (by rfl) T.z_range (il_cons ie_int (il_cons (ie_blt call_len cd_len (by rfl) T.z_len PySem.boot_len (ia_cons (.e (ie_ix ix_seq od_idx (.e (ie_ix ix_seq od_idx (.v (pv 1)) (.v (pv 10)))) (.e ie_int))) .nil)) il_nil))) (blkOk_by (N := N__law_history) (sc := defScope s__law_history) (scope := scp__law_history_1) (own := [(("j" : Str), 12)]) (by decide +kernel)) (fun _ _ _ _ _ => (ig_name (i := 12) sc__law_history.nd rfl (Or.inl rfl))) (fun _ _ _ _ _ => (its_one (IsW.t (iw_and (it_cmp (op_eqA hr) od_eq (.e (ie_ix ix_seq od_idx (.e (ie_ix ix_seq od_idx (.e (ie_ix ix_seq od_idx (.v (pv 1)) (.v (pv 10)))) (.e ie_int))) (.v (pv 12)))) (.e (ie_ix ix_seq od_idx (.v (pv 8)) (.v (pv 10)))) (nomark _)) (iw_and1 (it_cmp (op_notInA hr) od_notin (.e (ie_tup (il_cons (ie_var (pv 10)) (il_cons (ie_var (pv 12)) il_nil)))) (.v (pv 5)) (by with_unfolding_all rfl))))))) (fun _ _ _ _ _ => (ie_var (pv 12))))
    (ib_one (is_if (IsW.t (iw_and (it_cmp op_gtA od_gt (.e (ie_blt call_len cd_len (by rfl) T.z_len PySem.boot_len (ia_cons (.v (pv 11)) .nil))) (.e ie_int) (nomark _)) (iw_and1 (it_cmp (op_eqA hr) od_eq (.e (ie_call c__law_take (by rfl) (il_cons (ie_var (pv 0)) (il_cons ie_int il_nil)))) (.e ie_int) (nomark _))))) (ib_cons (is_sub (ie_call c__law_pick (by rfl) (il_cons (ie_var (pv 0)) (il_cons (ie_var (pv 11)) il_nil))) (pv 8) (ie_var (pv 10)))
    (ib_cons (is_drop (ie_mut PySem.F.slot_list_append PySem.F.type_list_append mt_append ud_append (pv 5) (il_cons (ie_tup (il_cons (ie_var (pv 10)) (il_cons (ie_ix ix_seq od_idx (.v (pv 8)) (.v (pv 10))) il_nil))) il_nil)))
    (ib_one (is_drop (ie_mut PySem.F.slot_list_append PySem.F.type_list_append mt_append ud_append (pv 9) (il_cons (ie_call c__law_number (by rfl) (il_cons (ie_var (pv 1)) (il_cons (ie_var (pv 10)) (il_cons (ie_ix ix_seq od_idx (.v (pv 8)) (.v (pv 10))) il_nil)))) il_nil)))))) ib_nil))))
    (ib_cons (is_drop (ie_mut PySem.F.slot_list_append PySem.F.type_list_append mt_append ud_append (pv 2) (il_cons (ie_var (pv 7)) il_nil)))
    (ib_cons (is_drop (ie_mut PySem.F.slot_list_append PySem.F.type_list_append mt_append ud_append (pv 3) (il_cons (IsO.toE (io_blt cr_sortedI cn_sortedI (by rfl) T.z_sorted PyProof.Rows.boot_sorted (ia_cons (.v (pv 9)) .nil))) il_nil)))
    (ib_one (is_drop (ie_mut PySem.F.slot_list_append PySem.F.type_list_append mt_append ud_append (pv 4) (il_cons (ie_var (pv 8)) il_nil))))))))))
    (ib_one (is_ret (ie_tup (il_cons (ie_var (pv 2)) (il_cons (ie_var (pv 3)) (il_cons (ie_var (pv 4)) il_nil)))))))))
/-! ### readings_of -/
abbrev N_readings_of : List Str := [("places" : Str), ("row" : Str), ("signs" : Str), ("k" : Str)]
theorem sc_readings_of : FnScope N_readings_of [("places" : Str), ("row" : Str)] (defScope s_readings_of) := ⟨rfl, rfl, rfl, by decide +kernel, rfl, by decide +kernel, by decide +kernel⟩
def scp_readings_of_1 : Scope := { kind := .function, names := [((".0" : Str), .local), (("k" : Str), .local), (("possible" : Str), .globalImplicit), (("places" : Str), .free), (("signs" : Str), .free)], isGenerator := false, isCoroutine := false, more := [] }
def ce_readings_of_1 : M tz := (mcall 2 f_possible (mcons (mop idxD (.v 0) (.v 3)) (mcons (mop idxD (.v 2) (.v 3)) mnil)))
def c_readings_of_1 : M tz := mlc [3] (irange1 (mcons (mfn len1 [(.v 0)]) mnil)) (gset 3) byes ce_readings_of_1
def m_readings_of : SM tz := (scons (sset 2 (mcall 2 f_parts_of (mcons (mvar 0) (mcons (mvar 1) mnil))))
    (sret c_readings_of_1))
def f_readings_of : FnM tz := runFn 4 2 m_readings_of
theorem ok_readings_of {f : Addr} {fd : FuncData} (F : Fun K ("readings_of" : Str) ("readings_of" : Str) s_readings_of f fd) (T : Tx K mg) (g_possible : FnAt tz P w K mg base 3 ("possible" : Str) 2 f_possible) (g_parts_of : FnAt tz P w K mg base 1 ("parts_of" : Str) 2 f_parts_of) : FnOk P w K mg base CX0 4 f fd [("places" : Str), ("row" : Str)] (spD tz 2 f_readings_of) :=
  fn_ok F sc_readings_of fun cdv A outer s H E hr => by
    have c_possible := g_possible.fn (A := A.deeper (PyProof.Rows.envOfC ("readings_of" : Str) (defScope s_readings_of) s.heap.objs.size f cdv)) hr (by decide)
    have c_parts_of := g_parts_of.fn (A := A.deeper (PyProof.Rows.envOfC ("readings_of" : Str) (defScope s_readings_of) s.heap.objs.size f cdv)) hr (by decide)
    exact (ib_cons (is_set (i := 2) sc_readings_of.nd rfl (Or.inr rfl) (ie_call c_parts_of (by rfl) (il_cons (ie_var (pv 0)) (il_cons (ie_var (pv 1)) il_nil))))
    (ib_one (is_ret (IsO.toE (io_lc [(("k" : Str), 3)] rfl sc_readings_of.nd (ii_range1 (by rfl) T.z_range (il_cons (ie_blt call_len cd_len (by rfl) T.z_len PySem.boot_len (ia_cons (.v (pv 0)) .nil)) il_nil)) (blkOk_by (N := N_readings_of) (sc := defScope s_readings_of) (scope := scp_readings_of_1) (own := [(("k" : Str), 3)]) (by decide +kernel)) (fun _ _ _ _ _ => (ig_name (i := 3) sc_readings_of.nd rfl (Or.inl rfl))) (fun _ _ _ _ _ => its_nil) (fun _ _ _ _ _ => (ie_call c_possible (by rfl) (il_cons (ie_ix ix_seq od_idx (.v (pv 0)) (.v (pv 3))) (il_cons (ie_ix ix_seq od_idx (.v (pv 2)) (.v (pv 3))) il_nil)))))))))
/-! ### is_carried -/
abbrev N_is_carried : List Str := [("stemma" : Str), ("places" : Str), ("cells" : Str), ("node" : Str), ("made" : Str), ("error" : Str)]
theorem sc_is_carried : FnScope N_is_carried [("stemma" : Str), ("places" : Str)] (defScope s_is_carried) := ⟨rfl, rfl, rfl, by decide +kernel, rfl, by decide +kernel, by decide +kernel⟩
def scp_is_carried_1 : Scope := { kind := .function, names := [((".0" : Str), .local), (("error" : Str), .local), (("cells" : Str), .free)], isGenerator := false, isCoroutine := false, more := [] }
def ce_is_carried_1 : M tz := (mop idxD (.e (mop idxD (.v 2) (.v 5))) (.e (mcst (.int 0))))
def c_is_carried_1 : M tz := mlc [5] (iseq (mop idxD (.e (mop idxD (.v 0) (.e (mcst (.int 2))))) (.v 3))) (gset 5) byes ce_is_carried_1
def lb_is_carried_1 : SM tz := (scons (sset 4 c_is_carried_1)
    (sif (bor (asB (mop neD (.e (mlensetA (.v 4))) (.e (mfn len1 [(.v 4)])))) (asB (mop inD (.e (mcst .non)) (.e (mcall 3 f_read_at (mcons (mvar 0) (mcons (mvar 1) (mcons (mvar 3) mnil)))))))) (sret (mcst (.bl false))) snil))
def l_is_carried_1 : SM tz := sfor (irange1 (mcons (mfn len1 [(.e (mop idxD (.v 0) (.e (mcst (.int 1)))))]) mnil)) (gset 3) lb_is_carried_1
def m_is_carried : SM tz := (scons (sset 2 (mcall 1 f_columns (mcons (mvar 1) mnil)))
    (scons l_is_carried_1
    (sret (mcst (.bl true)))))
def f_is_carried : FnM tz := runFn 6 2 m_is_carried
theorem ok_is_carried {f : Addr} {fd : FuncData} (F : Fun K ("is_carried" : Str) ("is_carried" : Str) s_is_carried f fd) (T : Tx K mg) (g_read_at : FnAt tz P w K mg base 3 ("read_at" : Str) 3 f_read_at) (g_columns : FnAt tz P w K mg base 1 ("columns" : Str) 1 f_columns) : FnOk P w K mg base CX0 4 f fd [("stemma" : Str), ("places" : Str)] (spD tz 2 f_is_carried) :=
  fn_ok F sc_is_carried fun cdv A outer s H E hr => by
    have c_read_at := g_read_at.fn (A := A.deeper (PyProof.Rows.envOfC ("is_carried" : Str) (defScope s_is_carried) s.heap.objs.size f cdv)) hr (by decide)
    have c_columns := g_columns.fn (A := A.deeper (PyProof.Rows.envOfC ("is_carried" : Str) (defScope s_is_carried) s.heap.objs.size f cdv)) hr (by decide)
    exact (ib_cons (is_set (i := 2) sc_is_carried.nd rfl (Or.inr rfl) (ie_call c_columns (by rfl) (il_cons (ie_var (pv 1)) il_nil)))
    (ib_cons (is_for PassesOwn.never rfl (ii_range1 (by rfl) T.z_range (il_cons (ie_blt call_len cd_len (by rfl) T.z_len PySem.boot_len (ia_cons (.e (ie_ix ix_seq od_idx (.v (pv 0)) (.e ie_int))) .nil)) il_nil)) (ig_name (i := 3) sc_is_carried.nd rfl (Or.inl rfl)) (ib_cons (is_lc [(("error" : Str), 5)] (i := 4) rfl sc_is_carried.nd rfl rfl (sw_true rfl rfl rfl (by decide +kernel)) (ii_seq (ie_ix ix_seq od_idx (.e (ie_ix ix_seq od_idx (.v (pv 0)) (.e ie_int))) (.v (pv 3)))) (blkOk_by (N := N_is_carried) (sc := defScope s_is_carried) (scope := scp_is_carried_1) (own := [(("error" : Str), 5)]) (by decide +kernel)) (fun _ _ _ _ _ => (ig_name (i := 5) sc_is_carried.nd rfl (Or.inl rfl))) (fun _ _ _ _ _ => its_nil) (fun _ _ _ _ _ => (ie_ix ix_seq od_idx (.e (ie_ix ix_seq od_idx (.v (pv 2)) (.v (pv 5)))) (.e ie_int))))
    (ib_one (is_if (IsW.t (iw_or (it_cmp (op_neA hr) od_ne (.e (ie_lenset (by rfl) T.z_len (by rfl) T.z_set (.v (pv 4)) rfl)) (.e (ie_blt call_len cd_len (by rfl) T.z_len PySem.boot_len (ia_cons (.v (pv 4)) .nil))) (nomark _)) (iw_or1 (it_cmp (op_inA hr) od_in (.e ie_non) (.e (ie_call c_read_at (by rfl) (il_cons (ie_var (pv 0)) (il_cons (ie_var (pv 1)) (il_cons (ie_var (pv 3)) il_nil))))) (by with_unfolding_all rfl))))) (ib_one (is_ret ie_bl)) ib_nil))))
    (ib_one (is_ret ie_bl))))
/-! ### texts_read -/
abbrev N_texts_read : List Str := [("stemma" : Str), ("places" : Str), ("node" : Str), ("now" : Str), ("k" : Str)]
theorem sc_texts_read : FnScope N_texts_read [("stemma" : Str), ("places" : Str), ("node" : Str)] (defScope s_texts_read) := ⟨rfl, rfl, rfl, by decide +kernel, rfl, by decide +kernel, by decide +kernel⟩
def scp_texts_read_1 : Scope := { kind := .function, names := [((".0" : Str), .local), (("k" : Str), .local), (("now" : Str), .free), (("places" : Str), .free)], isGenerator := false, isCoroutine := false, more := [] }
def ce_texts_read_1 : M tz := (mop idxD (.e (mop idxD (.e (mop idxD (.v 1) (.v 4))) (.e (mcst (.int 0))))) (.e (mop idxD (.v 3) (.v 4))))
def c_texts_read_1 : M tz := mlc [4] (irange1 (mcons (mfn len1 [(.v 1)]) mnil)) (gset 4) byes ce_texts_read_1
def m_texts_read : SM tz := (scons (sset 3 (mcall 3 f_read_at (mcons (mvar 0) (mcons (mvar 1) (mcons (mvar 2) mnil)))))
    (sret c_texts_read_1))
def f_texts_read : FnM tz := runFn 5 3 m_texts_read
theorem ok_texts_read {f : Addr} {fd : FuncData} (F : Fun K ("texts_read" : Str) ("texts_read" : Str) s_texts_read f fd) (T : Tx K mg) (g_read_at : FnAt tz P w K mg base 3 ("read_at" : Str) 3 f_read_at) : FnOk P w K mg base CX0 4 f fd [("stemma" : Str), ("places" : Str), ("node" : Str)] (spD tz 3 f_texts_read) :=
  fn_ok F sc_texts_read fun cdv A outer s H E hr => by
    have c_read_at := g_read_at.fn (A := A.deeper (PyProof.Rows.envOfC ("texts_read" : Str) (defScope s_texts_read) s.heap.objs.size f cdv)) hr (by decide)
    exact (ib_cons (is_set (i := 3) sc_texts_read.nd rfl (Or.inr rfl) (ie_call c_read_at (by rfl) (il_cons (ie_var (pv 0)) (il_cons (ie_var (pv 1)) (il_cons (ie_var (pv 2)) il_nil)))))
    (ib_one (is_ret (IsO.toE (io_lc [(("k" : Str), 4)] rfl sc_texts_read.nd (ii_range1 (by rfl) T.z_range (il_cons (ie_blt call_len cd_len (by rfl) T.z_len PySem.boot_len (ia_cons (.v (pv 1)) .nil)) il_nil)) (blkOk_by (N := N_texts_read) (sc := defScope s_texts_read) (scope := scp_texts_read_1) (own := [(("k" : Str), 4)]) (by decide +kernel)) (fun _ _ _ _ _ => (ig_name (i := 4) sc_texts_read.nd rfl (Or.inl rfl))) (fun _ _ _ _ _ => its_nil) (fun _ _ _ _ _ => (ie_ix ix_seq od_idx (.e (ie_ix ix_seq od_idx (.e (ie_ix ix_seq od_idx (.v (pv 1)) (.v (pv 4)))) (.e ie_int))) (.e (ie_ix ix_seq od_idx (.v (pv 3)) (.v (pv 4)))))))))))
/-! ### law -/
abbrev N_law : List Str := [("script" : Str), ("state" : Str), ("places" : Str), ("many" : Str), ("parents" : Str), ("made" : Str), ("reads" : Str), ("seats" : Str), ("names" : Str), ("row" : Str), ("stemma" : Str), ("node" : Str), ("table" : Str), ("j" : Str), ("turn" : Str), ("bent" : Str), ("other" : Str), ("told" : Str), ("place" : Str), ("k" : Str), ("reading" : Str)]
theorem sc_law : FnScope N_law [("script" : Str)] (defScope s_law) := ⟨rfl, rfl, rfl, by decide +kernel, rfl, by decide +kernel, by decide +kernel⟩
def scp_law_1 : Scope := { kind := .function, names := [((".0" : Str), .local), (("row" : Str), .local), (("tuple" : Str), .globalImplicit)], isGenerator := false, isCoroutine := false, more := [] }
def scp_law_2 : Scope := { kind := .function, names := [((".0" : Str), .local), (("row" : Str), .local), (("list" : Str), .globalImplicit)], isGenerator := false, isCoroutine := false, more := [] }
def scp_law_3 : Scope := { kind := .function, names := [((".0" : Str), .local), (("reading" : Str), .local)], isGenerator := false, isCoroutine := false, more := [] }
def scp_law_4 : Scope := { kind := .function, names := [((".0" : Str), .local), (("k" : Str), .local), (("j" : Str), .free), (("places" : Str), .free), (("reads" : Str), .free), (("seats" : Str), .free)], isGenerator := false, isCoroutine := false, more := [] }
def scp_law_5 : Scope := { kind := .function, names := [((".0" : Str), .local), (("k" : Str), .local), (("node" : Str), .free), (("places" : Str), .free), (("reads" : Str), .free)], isGenerator := false, isCoroutine := false, more := [] }
def scp_law_6 : Scope := { kind := .function, names := [((".0" : Str), .local), (("row" : Str), .local), (("tuple" : Str), .globalImplicit)], isGenerator := false, isCoroutine := false, more := [] }
def scp_law_7 : Scope := { kind := .function, names := [((".0" : Str), .local), (("k" : Str), .local), (("str" : Str), .globalImplicit)], isGenerator := false, isCoroutine := false, more := [] }
def scp_law_8 : Scope := { kind := .function, names := [((".0" : Str), .local), (("k" : Str), .local), (("_law_take" : Str), .globalImplicit), (("len" : Str), .globalImplicit), (("parents" : Str), .free), (("state" : Str), .free)], isGenerator := false, isCoroutine := false, more := [] }
def scp_law_9 : Scope := { kind := .function, names := [((".0" : Str), .local), (("place" : Str), .local), (("len" : Str), .globalImplicit)], isGenerator := false, isCoroutine := false, more := [] }
def ce_law_1 : M tz := (mfn tuple1 [(.v 9)])
def c_law_1 : M tz := mlc [9] (iseq (mvar 15)) (gset 9) byes ce_law_1
def ce_law_2 : M tz := (mfnL list1 [(.v 9)])
def c_law_2 : M tz := mlc [9] (iseq (mvar 5)) (gset 9) byes ce_law_2
def lb_law_1 : SM tz := (scons (ssetO 15 2 c_law_2)
    (scons (spar [11, 16] [(0, (mcall 2 f__law_take (mcons (mvar 1) (mcons (mfn len1 [(.v 4)]) mnil)))), (0, (mcall 2 f__law_take (mcons (mvar 1) (mcons (mfn len1 [(.v 4)]) mnil))))])
    (scons (sif (band (asB (mop gtD (.e (mq (qlenx 15 (qvar 11)))) (.e (mcst (.int 0))))) (asB (mop gtD (.v 16) (.e (mcst (.int 0)))))) (ssub2 15 (qvar 16) (mfnL sortedI1 [(.e (mcatpop 15 (qvar 16) (qvar 11) (qcall 2 f__law_take (qcons (qvar 1) (qcons (qlenx 15 (qvar 11)) qnil)))))])) snil)
    (scons (sset 17 (mcall 2 f_is_carried (mcons (mtup (mcons (mcst (.str "stemma")) (mcons (mfn tuple1 [(.v 4)]) (mcons (mfn tuple1 [(.e c_law_1)]) (mcons (mvar 7) mnil))))) (mcons (mvar 2) mnil))))
    (sif (bor (bnot (asB (misinst "bool" (.v 17)))) (asB (mop neD (.v 17) (.e (mcall 3 f__law_carried (mcons (mvar 2) (mcons (mvar 4) (mcons (mvar 15) mnil)))))))) (sret (mcst (.bl false))) snil)))))
def l_law_1 : SM tz := sfor (irange1 (mcons (mcst (.int 6)) mnil)) (gset 14) lb_law_1
def ce_law_3 : M tz := (mlst (mcons (mvar 20) mnil))
def c_law_3 : M tz := mlc [20] (iseq (mvar 9)) (gset 20) byes ce_law_3
def ce_law_4 : M tz := (mop idxD (.e (mop idxD (.e (mop idxD (.v 2) (.v 19))) (.e (mcst (.int 0))))) (.e (mop idxD (.e (mop idxD (.v 6) (.e (mop idxD (.v 7) (.v 13))))) (.v 19))))
def c_law_4 : M tz := mlc [19] (irange1 (mcons (mfn len1 [(.v 2)]) mnil)) (gset 19) byes ce_law_4
def lb_law_2 : SM tz := (scons (sset 9 c_law_4)
    (sif (bor (asB (mop neD (.e (mop idxD (.e (mop idxD (.v 12) (.e (mcst (.int 2))))) (.v 13))) (.e (mcall 2 f_row_of_readings (mcons (mvar 2) (mcons (mvar 9) mnil)))))) (asB (mop neD (.e (mcall 2 f_readings_of (mcons (mvar 2) (mcons (mop idxD (.e (mop idxD (.v 12) (.e (mcst (.int 2))))) (.v 13)) mnil)))) (.e c_law_3)))) (sret (mcst (.bl false))) snil))
def l_law_2 : SM tz := sfor (irange1 (mcons (mfn len1 [(.v 7)]) mnil)) (gset 13) lb_law_2
def ce_law_5 : M tz := (mop idxD (.e (mop idxD (.e (mop idxD (.v 2) (.v 19))) (.e (mcst (.int 0))))) (.e (mop idxD (.e (mop idxD (.v 6) (.v 11))) (.v 19))))
def c_law_5 : M tz := mlc [19] (irange1 (mcons (mfn len1 [(.v 2)]) mnil)) (gset 19) byes ce_law_5
def lb_law_3 : SM tz := (sif (asB (mop neD (.e (mcall 3 f_texts_read (mcons (mvar 10) (mcons (mvar 2) (mcons (mvar 11) mnil))))) (.e c_law_5))) (sret (mcst (.bl false))) snil)
def l_law_3 : SM tz := sfor (irange1 (mcons (mfn len1 [(.v 4)]) mnil)) (gset 11) lb_law_3
def ce_law_6 : M tz := (mfn tuple1 [(.v 9)])
def c_law_6 : M tz := mlc [9] (iseq (mvar 5)) (gset 9) byes ce_law_6
def ce_law_7 : M tz := (mop addD (.e (mcst (.str "N"))) (.e (mfn str1 [(.v 19)])))
def c_law_7 : M tz := mlc [19] (irange1 (mcons (mfn len1 [(.v 7)]) mnil)) (gset 19) byes ce_law_7
def ce_law_8 : M tz := (mcall 2 f__law_take (mcons (mvar 1) (mcons (mfn len1 [(.v 4)]) mnil)))
def c_law_8 : M tz := mlc [19] (irange1 (mcons (mop addD (.e (mcst (.int 1))) (.e (mcall 2 f__law_take (mcons (mvar 1) (mcons (mcst (.int 6)) mnil))))) mnil)) (gset 19) byes ce_law_8
def ce_law_9 : M tz := (mop subD (.e (mfn len1 [(.e (mop idxD (.v 18) (.e (mcst (.int 0)))))])) (.e (mcst (.int 1))))
def c_law_9 : M tz := mlc [18] (iseq (mvar 2)) (gset 18) byes ce_law_9
def m_law : SM tz := (scons (sset 2 (mcall 1 f__law_places (mcons (mvar 1) mnil)))
    (scons (sset 3 (mfn sum1 [(.e c_law_9)]))
    (scons (sasg (gtup 3 (gcons (gset 4) (gcons (gset 5) (gcons (gset 6) gnil)))) (mcall 2 f__law_history (mcons (mvar 1) (mcons (mvar 2) mnil))))
    (scons (sset 7 (mfn tuple1 [(.e c_law_8)]))
    (scons (sset 8 (mfn tuple1 [(.e c_law_7)]))
    (scons (sset 10 (mtup (mcons (mcst (.str "stemma")) (mcons (mfn tuple1 [(.v 4)]) (mcons (mfn tuple1 [(.e c_law_6)]) (mcons (mvar 7) mnil))))))
    (scons (sif (asB (mop isntBD (.e (mcall 2 f_is_carried (mcons (mvar 10) (mcons (mvar 2) mnil)))) (.e (mcst (.bl true))))) (sret (mcst (.bl false))) snil)
    (scons l_law_3
    (scons (sset 12 (mcall 3 f_shown (mcons (mvar 10) (mcons (mvar 8) (mcons (mvar 3) mnil)))))
    (scons l_law_2
    (scons l_law_1
    (sret (mcst (.bl true))))))))))))))
theorem ib_law {f : Addr} (T : Tx K mg) (g__law_carried : FnAt tz P w K mg base 1 ("_law_carried" : Str) 3 f__law_carried) (g_is_carried : FnAt tz P w K mg base 4 ("is_carried" : Str) 2 f_is_carried) (g__law_take : FnAt tz P w K mg base 1 ("_law_take" : Str) 2 f__law_take) (g_readings_of : FnAt tz P w K mg base 4 ("readings_of" : Str) 2 f_readings_of) (g_row_of_readings : FnAt tz P w K mg base 3 ("row_of_readings" : Str) 2 f_row_of_readings) (g_shown : FnAt tz P w K mg base 3 ("shown" : Str) 3 f_shown) (g_texts_read : FnAt tz P w K mg base 4 ("texts_read" : Str) 3 f_texts_read) (g__law_history : FnAt tz P w K mg base 3 ("_law_history" : Str) 2 f__law_history) (g__law_places : FnAt tz P w K mg base 3 ("_law_places" : Str) 1 f__law_places) (cdv : Value) (A : Around) (outer : List Env) (s : Shared) (H : Hp) (E : XK) (hr : Room 4 (A.deeper (PyProof.Rows.envOfC "law" (defScope s_law) s.heap.objs.size f cdv))) :
    IsB tz (cxOf CX0 P w K mg base N_law "law" (defScope s_law) f cdv A outer s H E).nox ((defBody s_law).drop 1) m_law := by
    have c__law_carried := g__law_carried.fn (A := A.deeper (PyProof.Rows.envOfC ("law" : Str) (defScope s_law) s.heap.objs.size f cdv)) hr (by decide)
    have c_is_carried := g_is_carried.fn (A := A.deeper (PyProof.Rows.envOfC ("law" : Str) (defScope s_law) s.heap.objs.size f cdv)) hr (by decide)
    have c__law_take := g__law_take.fn (A := A.deeper (PyProof.Rows.envOfC ("law" : Str) (defScope s_law) s.heap.objs.size f cdv)) hr (by decide)
    have c_readings_of := g_readings_of.fn (A := A.deeper (PyProof.Rows.envOfC ("law" : Str) (defScope s_law) s.heap.objs.size f cdv)) hr (by decide)
    have c_row_of_readings := g_row_of_readings.fn (A := A.deeper (PyProof.Rows.envOfC ("law" : Str) (defScope s_law) s.heap.objs.size f cdv)) hr (by decide)
    have c_shown := g_shown.fn (A := A.deeper (PyProof.Rows.envOfC ("law" : Str) (defScope s_law) s.heap.objs.size f cdv)) hr (by decide)
    have c_texts_read := g_texts_read.fn (A := A.deeper (PyProof.Rows.envOfC ("law" : Str) (defScope s_law) s.heap.objs.size f cdv)) hr (by decide)
    have c__law_history := g__law_history.fn (A := A.deeper (PyProof.Rows.envOfC ("law" : Str) (defScope s_law) s.heap.objs.size f cdv)) hr (by decide)
    have c__law_places := g__law_places.fn (A := A.deeper (PyProof.Rows.envOfC ("law" : Str) (defScope s_law) s.heap.objs.size f cdv)) hr (by decide)
    exact (ib_cons (is_set (i := 2) sc_law.nd rfl (Or.inr rfl) (ie_call c__law_places (by rfl) (il_cons (ie_var (pv 1)) il_nil)))
    (ib_cons (is_set (i := 3) sc_law.nd rfl (Or.inl rfl) (ie_blt (cr_sum rfl) cd_sum (by rfl) T.z_sum PyProof.Rows.boot_sum (ia_cons (.e (IsO.toE (io_lc [(("place" : Str), 18)] rfl sc_law.nd (ii_seq (ie_var (pv 2))) (blkOk_by (N := N_law) (sc := defScope s_law) (scope := scp_law_9) (own := [(("place" : Str), 18)]) (by decide +kernel)) (fun _ _ _ _ _ => (ig_name (i := 18) sc_law.nd rfl (Or.inl rfl))) (fun _ _ _ _ _ => its_nil) (fun _ _ _ _ _ => (ie_op op_sub od_sub (.e (ie_blt call_len cd_len (by rfl) T.z_len PySem.boot_len (ia_cons (.e (ie_ix ix_seq od_idx (.v (pv 18)) (.e ie_int))) .nil))) (.e ie_int)))))) .nil)))
    (ib_cons (is_asg (ie_call c__law_history (by rfl) (il_cons (ie_var (pv 1)) (il_cons (ie_var (pv 2)) il_nil))) (ig_tup rfl (igs_cons (ig_name (i := 4) sc_law.nd rfl (Or.inr rfl)) (igs_cons (ig_name (i := 5) sc_law.nd rfl (Or.inl rfl)) (igs_cons (ig_name (i := 6) sc_law.nd rfl (Or.inr rfl)) igs_nil)))))
    (ib_cons (is_set (i := 7) sc_law.nd rfl (Or.inr rfl) (ie_ty call_tuple_F cd_tuple (by rfl) T.z_tuple PyProof.Rows.boot_tuple (ia_cons (.e (IsO.toE (io_lc [(("k" : Str), 19)] rfl sc_law.nd (ii_range1 (by rfl) T.z_range (il_cons (ie_op op_addAll od_add (.e ie_int) (.e (ie_call c__law_take (by rfl) (il_cons (ie_var (pv 1)) (il_cons ie_int il_nil))))) il_nil)) (blkOk_by (N := N_law) (sc := defScope s_law) (scope := scp_law_8) (own := [(("k" : Str), 19)]) (by decide +kernel)) (fun _ _ _ _ _ => (ig_name (i := 19) sc_law.nd rfl (Or.inl rfl))) (fun _ _ _ _ _ => its_nil) (fun _ _ _ _ _ => (ie_call c__law_take (by rfl) (il_cons (ie_var (pv 1)) (il_cons (ie_blt call_len cd_len (by rfl) T.z_len PySem.boot_len (ia_cons (.v (pv 4)) .nil)) il_nil))))))) .nil)))
    (ib_cons (is_set (i := 8) sc_law.nd rfl (Or.inl rfl) (ie_ty call_tuple_F cd_tuple (by rfl) T.z_tuple PyProof.Rows.boot_tuple (ia_cons (.e (IsO.toE (io_lc [(("k" : Str), 19)] rfl sc_law.nd (ii_range1 (by rfl) T.z_range (il_cons (ie_blt call_len cd_len (by rfl) T.z_len PySem.boot_len (ia_cons (.v (pv 7)) .nil)) il_nil)) (blkOk_by (N := N_law) (sc := defScope s_law) (scope := scp_law_7) (own := [(("k" : Str), 19)]) (by decide +kernel)) (fun _ _ _ _ _ => (ig_name (i := 19) sc_law.nd rfl (Or.inl rfl))) (fun _ _ _ _ _ => its_nil) (fun _ _ _ _ _ => (ie_op op_addAll od_add (.e ie_str) (.e (ie_ty call_str_int cd_str (by rfl) T.z_str PyProof.Rows.boot_str (ia_cons (.v (pv 19)) .nil)))))))) .nil)))
    (ib_cons (is_set (i := 10) sc_law.nd rfl (Or.inl rfl) (ie_tup (il_cons ie_str (il_cons (ie_ty call_tuple_F cd_tuple (by rfl) T.z_tuple PyProof.Rows.boot_tuple (ia_cons (.v (pv 4)) .nil)) (il_cons (ie_ty call_tuple_F cd_tuple (by rfl) T.z_tuple PyProof.Rows.boot_tuple (ia_cons (.e (IsO.toE (io_lc [(("row" : Str), 9)] rfl sc_law.nd (ii_seq (ie_var (pv 5))) (blkOk_by (N := N_law) (sc := defScope s_law) (scope := scp_law_6) (own := [(("row" : Str), 9)]) (by decide +kernel)) (fun _ _ _ _ _ => (ig_name (i := 9) sc_law.nd rfl (Or.inl rfl))) (fun _ _ _ _ _ => its_nil) (fun _ _ _ _ _ => (ie_ty call_tuple_F cd_tuple (by rfl) T.z_tuple PyProof.Rows.boot_tuple (ia_cons (.v (pv 9)) .nil)))))) .nil)) (il_cons (ie_var (pv 7)) il_nil))))))
    (ib_cons (is_if (it_cmp op_notBl od_isntB (.e (ie_call c_is_carried (by rfl) (il_cons (ie_var (pv 10)) (il_cons (ie_var (pv 2)) il_nil)))) (.e ie_bl) (nomark _)) (ib_one (is_ret ie_bl)) ib_nil)
    (ib_cons (is_for PassesOwn.never rfl (ii_range1 (by rfl) T.z_range (il_cons (ie_blt call_len cd_len (by rfl) T.z_len PySem.boot_len (ia_cons (.v (pv 4)) .nil)) il_nil)) (ig_name (i := 11) sc_law.nd rfl (Or.inr rfl)) (ib_one (is_if (it_cmp (op_neA hr) od_ne (.e (ie_call c_texts_read (by rfl) (il_cons (ie_var (pv 10)) (il_cons (ie_var (pv 2)) (il_cons (ie_var (pv 11)) il_nil))))) (.e (IsO.toE (io_lc [(("k" : Str), 19)] rfl sc_law.nd (ii_range1 (by rfl) T.z_range (il_cons (ie_blt call_len cd_len (by rfl) T.z_len PySem.boot_len (ia_cons (.v (pv 2)) .nil)) il_nil)) (blkOk_by (N := N_law) (sc := defScope s_law) (scope := scp_law_5) (own := [(("k" : Str), 19)]) (by decide +kernel)) (fun _ _ _ _ _ => (ig_name (i := 19) sc_law.nd rfl (Or.inl rfl))) (fun _ _ _ _ _ => its_nil) (fun _ _ _ _ _ => (ie_ix ix_seq od_idx (.e (ie_ix ix_seq od_idx (.e (ie_ix ix_seq od_idx (.v (pv 2)) (.v (pv 19)))) (.e ie_int))) (.e (ie_ix ix_seq od_idx (.e (ie_ix ix_seq od_idx (.v (pv 6)) (.v (pv 11)))) (.v (pv 19))))))))) (nomark _)) (ib_one (is_ret ie_bl)) ib_nil)))
    (ib_cons (is_set (i := 12) sc_law.nd rfl (Or.inl rfl) (ie_call c_shown (by rfl) (il_cons (ie_var (pv 10)) (il_cons (ie_var (pv 8)) (il_cons (ie_var (pv 3)) il_nil)))))
    (ib_cons (is_for PassesOwn.never rfl (ii_range1 (by rfl) T.z_range (il_cons (ie_blt call_len cd_len (by rfl) T.z_len PySem.boot_len (ia_cons (.v (pv 7)) .nil)) il_nil)) (ig_name (i := 13) sc_law.nd rfl (Or.inr rfl)) (ib_cons (is_lc [(("k" : Str), 19)] (i := 9) rfl sc_law.nd rfl rfl (sw_true rfl rfl rfl (by decide +kernel)) (ii_range1 (by rfl) T.z_range (il_cons (ie_blt call_len cd_len (by rfl) T.z_len PySem.boot_len (ia_cons (.v (pv 2)) .nil)) il_nil)) (blkOk_by (N := N_law) (sc := defScope s_law) (scope := scp_law_4) (own := [(("k" : Str), 19)]) (by decide +kernel)) (fun _ _ _ _ _ => (ig_name (i := 19) sc_law.nd rfl (Or.inl rfl))) (fun _ _ _ _ _ => its_nil) (fun _ _ _ _ _ => (ie_ix ix_seq od_idx (.e (ie_ix ix_seq od_idx (.e (ie_ix ix_seq od_idx (.v (pv 2)) (.v (pv 19)))) (.e ie_int))) (.e (ie_ix ix_seq od_idx (.e (ie_ix ix_seq od_idx (.v (pv 6)) (.e (ie_ix ix_seq od_idx (.v (pv 7)) (.v (pv 13)))))) (.v (pv 19)))))))
    (ib_one (is_if (IsW.t (iw_or (it_cmp (op_neA hr) od_ne (.e (ie_ix ix_seq od_idx (.e (ie_ix ix_seq od_idx (.v (pv 12)) (.e ie_int))) (.v (pv 13)))) (.e (ie_call c_row_of_readings (by rfl) (il_cons (ie_var (pv 2)) (il_cons (ie_var (pv 9)) il_nil)))) (nomark _)) (iw_or1 (it_cmp (op_neA hr) od_ne (.e (ie_call c_readings_of (by rfl) (il_cons (ie_var (pv 2)) (il_cons (ie_ix ix_seq od_idx (.e (ie_ix ix_seq od_idx (.v (pv 12)) (.e ie_int))) (.v (pv 13))) il_nil)))) (.e (IsO.toE (io_lc [(("reading" : Str), 20)] rfl sc_law.nd (ii_seq (ie_var (pv 9))) (blkOk_by (N := N_law) (sc := defScope s_law) (scope := scp_law_3) (own := [(("reading" : Str), 20)]) (by decide +kernel)) (fun _ _ _ _ _ => (ig_name (i := 20) sc_law.nd rfl (Or.inl rfl))) (fun _ _ _ _ _ => its_nil) (fun _ _ _ _ _ => (IsO.toE (io_lst (il_cons (ie_var (pv 20)) il_nil))))))) (nomark _))))) (ib_one (is_ret ie_bl)) ib_nil))))
    (ib_cons (is_for PassesOwn.never rfl (ii_range1 (by rfl) T.z_range (il_cons ie_int il_nil)) (ig_name (i := 14) sc_law.nd rfl (Or.inl rfl)) (ib_cons (is_lcN [(("row" : Str), 9)] (i := 15) rfl sc_law.nd rfl rfl (sw_true rfl rfl rfl (by decide +kernel)) (ii_seq (ie_var (pv 5))) (blkOk_by (N := N_law) (sc := defScope s_law) (scope := scp_law_2) (own := [(("row" : Str), 9)]) (by decide +kernel)) (fun _ _ _ _ _ => (ig_name (i := 9) sc_law.nd rfl (Or.inl rfl))) (fun _ _ _ _ _ => its_nil) (fun _ _ _ _ _ => (io_ty call_list_of cn_list (by rfl) T.z_list PyProof.Rows.boot_list (ia_cons (.v (pv 9)) .nil))))
    (ib_cons (is_parT (is := [11, 16]) rfl (os_cons (IsE.o (ie_call c__law_take (by rfl) (il_cons (ie_var (pv 1)) (il_cons (ie_blt call_len cd_len (by rfl) T.z_len PySem.boot_len (ia_cons (.v (pv 4)) .nil)) il_nil)))) (os_cons (IsE.o (ie_call c__law_take (by rfl) (il_cons (ie_var (pv 1)) (il_cons (ie_blt call_len cd_len (by rfl) T.z_len PySem.boot_len (ia_cons (.v (pv 4)) .nil)) il_nil)))) os_nil)) (pgs_cons (pg_name (i := 11) sc_law.nd rfl (Or.inr rfl)) (pgs_cons (pg_name (i := 16) sc_law.nd rfl (Or.inl rfl)) pgs_nil)) rfl rfl)
    (ib_cons (is_if (IsW.t (iw_and (it_cmp op_gtA od_gt (.e (IsQ.toE (iq_lenx (by rfl) T.z_len (pv 15) (iq_var (pv 11))))) (.e ie_int) (nomark _)) (iw_and1 (it_cmp op_gtA od_gt (.v (pv 16)) (.e ie_int) (nomark _))))) (ib_one (is_sub2 (io_blt cr_sortedI cn_sortedI (by rfl) T.z_sorted PyProof.Rows.boot_sorted (ia_cons (.e (IsO.toE (io_catpop (pv 15) (pv 15) (iq_var (pv 16)) (iq_var (pv 11)) (iq_call c__law_take (by rfl) (iql_cons (iq_var (pv 1)) (iql_cons (iq_lenx (by rfl) T.z_len (pv 15) (iq_var (pv 11))) iql_nil)))))) .nil)) (pv 15) (iq_var (pv 16)))) ib_nil)
    (ib_cons (is_set (i := 17) sc_law.nd rfl (Or.inl rfl) (ie_call c_is_carried (by rfl) (il_cons (ie_tup (il_cons ie_str (il_cons (ie_ty call_tuple_F cd_tuple (by rfl) T.z_tuple PyProof.Rows.boot_tuple (ia_cons (.v (pv 4)) .nil)) (il_cons (ie_ty call_tuple_F cd_tuple (by rfl) T.z_tuple PyProof.Rows.boot_tuple (ia_cons (.e (IsO.toE (io_lc [(("row" : Str), 9)] rfl sc_law.nd (ii_seq (ie_var (pv 15))) (blkOk_by (N := N_law) (sc := defScope s_law) (scope := scp_law_1) (own := [(("row" : Str), 9)]) (by decide +kernel)) (fun _ _ _ _ _ => (ig_name (i := 9) sc_law.nd rfl (Or.inl rfl))) (fun _ _ _ _ _ => its_nil) (fun _ _ _ _ _ => (ie_ty call_tuple_F cd_tuple (by rfl) T.z_tuple PyProof.Rows.boot_tuple (ia_cons (.v (pv 9)) .nil)))))) .nil)) (il_cons (ie_var (pv 7)) il_nil))))) (il_cons (ie_var (pv 2)) il_nil))))
    (ib_one (is_if (IsW.t (iw_or (it_not (it_val (ie_isinst (by rfl) T.z_isinstance (by rfl) T.z_bool (by decide +kernel) (.v (pv 17)) k_bool))) (iw_or1 (it_cmp (op_neA hr) od_ne (.v (pv 17)) (.e (ie_call c__law_carried (by rfl) (il_cons (ie_var (pv 2)) (il_cons (ie_var (pv 4)) (il_cons (ie_var (pv 15)) il_nil))))) (nomark _))))) (ib_one (is_ret ie_bl)) ib_nil)))))))
    (ib_one (is_ret ie_bl)))))))))))))
theorem ok_law {f fS : Addr} {fd fdS : FuncData} (F : Fun K "law" "law" s_law f fd) (T : Tx K mg) (gS : FnOk P w K mg base CX0 1 fS fdS ["script"] (spState K)) (mS : mg "_law_state" = some (.ref fS)) (kS : PySem.W.keepIn K (.ref fS) = true) (bS : Binds K fdS ["script"] []) (g__law_carried : FnAt tz P w K mg base 1 ("_law_carried" : Str) 3 f__law_carried) (g_is_carried : FnAt tz P w K mg base 4 ("is_carried" : Str) 2 f_is_carried) (g__law_take : FnAt tz P w K mg base 1 ("_law_take" : Str) 2 f__law_take) (g_readings_of : FnAt tz P w K mg base 4 ("readings_of" : Str) 2 f_readings_of) (g_row_of_readings : FnAt tz P w K mg base 3 ("row_of_readings" : Str) 2 f_row_of_readings) (g_shown : FnAt tz P w K mg base 3 ("shown" : Str) 3 f_shown) (g_texts_read : FnAt tz P w K mg base 4 ("texts_read" : Str) 3 f_texts_read) (g__law_history : FnAt tz P w K mg base 3 ("_law_history" : Str) 2 f__law_history) (g__law_places : FnAt tz P w K mg base 3 ("_law_places" : Str) 1 f__law_places)
    (plain : ∀ ns : List Int, ns.length ≤ 63 → ∃ T' e', m_law (.no :: .sh .tape :: List.replicate 19 .no) (startT ns) = some (.rt (.bl true), e', T')) : FnOk P w K mg base CX0 5 f fd ["script"] (spLaw K) := by
  refine F.ok sc_law (fun vs H Q E h => ?_) (fun cdv A outer s H vs Q E hr h => ?_)
  · obtain ⟨a, ns, rfl, _⟩ := h
    rfl
  · obtain ⟨a, ns, rfl, hS, hl, kk⟩ := h
    refine ⟨_, pss_cons (ps_set (i := 1) sc_law.nd rfl (Or.inr rfl) (pe_call gS (hr.mono (by decide)) (by rfl) mS kS bS .nil pass0 (pa_cons (pv 0) pa_nil))) (ib_law T g__law_carried g_is_carried g__law_take g_readings_of g_row_of_readings g_shown g_texts_read g__law_history g__law_places cdv A outer s H E hr).ps, ?_⟩
    exact ⟨_, rfl, a, ns, rfl, hS, hl, law_core ns (plain ns hl) kk⟩
end
open PySem.Spec PyProof.Rows
def d_way : He.DefD := ⟨(("way" : Str), none), ("way" : Str), ("way" : Str), defArgs s_way, defBody s_way, defScope s_way, [], []⟩
def d_readings : He.DefD := ⟨(("readings" : Str), none), ("readings" : Str), ("readings" : Str), defArgs s_readings, defBody s_readings, defScope s_readings, [], []⟩
def d_shown : He.DefD := ⟨(("shown" : Str), none), ("shown" : Str), ("shown" : Str), defArgs s_shown, defBody s_shown, defScope s_shown, [], []⟩
def d_columns : He.DefD := ⟨(("columns" : Str), none), ("columns" : Str), ("columns" : Str), defArgs s_columns, defBody s_columns, defScope s_columns, [], []⟩
def d_line_of : He.DefD := ⟨(("line_of" : Str), none), ("line_of" : Str), ("line_of" : Str), defArgs s_line_of, defBody s_line_of, defScope s_line_of, [], []⟩
def d_signs_of : He.DefD := ⟨(("signs_of" : Str), none), ("signs_of" : Str), ("signs_of" : Str), defArgs s_signs_of, defBody s_signs_of, defScope s_signs_of, [], []⟩
def d_row_of_readings : He.DefD := ⟨(("row_of_readings" : Str), none), ("row_of_readings" : Str), ("row_of_readings" : Str), defArgs s_row_of_readings, defBody s_row_of_readings, defScope s_row_of_readings, [], []⟩
def d_agrees_with : He.DefD := ⟨(("agrees_with" : Str), none), ("agrees_with" : Str), ("agrees_with" : Str), defArgs s_agrees_with, defBody s_agrees_with, defScope s_agrees_with, [], []⟩
def d_possible : He.DefD := ⟨(("possible" : Str), none), ("possible" : Str), ("possible" : Str), defArgs s_possible, defBody s_possible, defScope s_possible, [], []⟩
def d_parts_of : He.DefD := ⟨(("parts_of" : Str), none), ("parts_of" : Str), ("parts_of" : Str), defArgs s_parts_of, defBody s_parts_of, defScope s_parts_of, [], []⟩
def d_readings_of : He.DefD := ⟨(("readings_of" : Str), none), ("readings_of" : Str), ("readings_of" : Str), defArgs s_readings_of, defBody s_readings_of, defScope s_readings_of, [], []⟩
def d_number_of : He.DefD := ⟨(("number_of" : Str), none), ("number_of" : Str), ("number_of" : Str), defArgs s_number_of, defBody s_number_of, defScope s_number_of, [], []⟩
def d_read_at : He.DefD := ⟨(("read_at" : Str), none), ("read_at" : Str), ("read_at" : Str), defArgs s_read_at, defBody s_read_at, defScope s_read_at, [], []⟩
def d_is_carried : He.DefD := ⟨(("is_carried" : Str), none), ("is_carried" : Str), ("is_carried" : Str), defArgs s_is_carried, defBody s_is_carried, defScope s_is_carried, [], []⟩
def d_texts_read : He.DefD := ⟨(("texts_read" : Str), none), ("texts_read" : Str), ("texts_read" : Str), defArgs s_texts_read, defBody s_texts_read, defScope s_texts_read, [], []⟩
def d__law_state : He.DefD := ⟨(("_law_state" : Str), none), ("_law_state" : Str), ("_law_state" : Str), defArgs s__law_state, defBody s__law_state, defScope s__law_state, [], []⟩
def d__law_take : He.DefD := ⟨(("_law_take" : Str), none), ("_law_take" : Str), ("_law_take" : Str), defArgs s__law_take, defBody s__law_take, defScope s__law_take, [], []⟩
def d__law_pick : He.DefD := ⟨(("_law_pick" : Str), none), ("_law_pick" : Str), ("_law_pick" : Str), defArgs s__law_pick, defBody s__law_pick, defScope s__law_pick, [], []⟩
def d__law_places : He.DefD := ⟨(("_law_places" : Str), none), ("_law_places" : Str), ("_law_places" : Str), defArgs s__law_places, defBody s__law_places, defScope s__law_places, [], []⟩
def d__law_number : He.DefD := ⟨(("_law_number" : Str), none), ("_law_number" : Str), ("_law_number" : Str), defArgs s__law_number, defBody s__law_number, defScope s__law_number, [], []⟩
def d__law_history : He.DefD := ⟨(("_law_history" : Str), none), ("_law_history" : Str), ("_law_history" : Str), defArgs s__law_history, defBody s__law_history, defScope s__law_history, [], []⟩
def d__law_carried : He.DefD := ⟨(("_law_carried" : Str), none), ("_law_carried" : Str), ("_law_carried" : Str), defArgs s__law_carried, defBody s__law_carried, defScope s__law_carried, [], []⟩
def d_law : He.DefD := ⟨(("law" : Str), none), ("law" : Str), ("law" : Str), defArgs s_law, defBody s_law, defScope s_law, [], []⟩
def fn : List He.DefD := [d_way, d_readings, d_shown, d_columns, d_line_of, d_signs_of, d_row_of_readings, d_agrees_with, d_possible, d_parts_of, d_readings_of, d_number_of, d_read_at, d_is_carried, d_texts_read, d__law_state, d__law_take, d__law_pick, d__law_places, d__law_number, d__law_history, d__law_carried, d_law]
def fa : List He.Fa := [.glo ("way" : Str), .glo ("readings" : Str), .glo ("shown" : Str), .glo ("columns" : Str), .glo ("line_of" : Str), .glo ("signs_of" : Str), .glo ("row_of_readings" : Str), .glo ("agrees_with" : Str), .glo ("possible" : Str), .glo ("parts_of" : Str), .glo ("readings_of" : Str), .glo ("number_of" : Str), .glo ("read_at" : Str), .glo ("is_carried" : Str), .glo ("texts_read" : Str), .glo ("_law_state" : Str), .glo ("_law_take" : Str), .glo ("_law_pick" : Str), .glo ("_law_places" : Str), .glo ("_law_number" : Str), .glo ("_law_history" : Str), .glo ("_law_carried" : Str), .glo ("law" : Str), .free ("abs" : Str), .free ("any" : Str), .free ("bool" : Str), .free ("int" : Str), .free ("isinstance" : Str), .free ("len" : Str), .free ("list" : Str), .free ("range" : Str), .free ("set" : Str), .free ("sorted" : Str), .free ("str" : Str), .free ("sum" : Str), .free ("tuple" : Str)]
def names : List PySem.Str := [("way" : Str), ("readings" : Str), ("shown" : Str), ("columns" : Str), ("line_of" : Str), ("signs_of" : Str), ("row_of_readings" : Str), ("agrees_with" : Str), ("possible" : Str), ("parts_of" : Str), ("readings_of" : Str), ("number_of" : Str), ("read_at" : Str), ("is_carried" : Str), ("texts_read" : Str), ("_law_state" : Str), ("_law_take" : Str), ("_law_pick" : Str), ("_law_places" : Str), ("_law_number" : Str), ("_law_history" : Str), ("_law_carried" : Str)]
abbrev R : PySem.W.OpenRow := PySem.W.OpenLaw.row PySem.Challenge.rw_elderfolios_k38_whole_scribes_change_rea
abbrev hk : PySem.W.Hook := He.hookD 4 fa fn
def ob (s : PySem.W.SharedT) : He.AlD := He.obsDG 4 fa fn (HandSHeadRun.getT s)
theorem ob_eq (s : PySem.W.SharedT) : ob s = hk.obs s.abs := He.obsDG_eq (HandSHeadRun.getT_eq s)
theorem run (w : World) : HandSHeadRun.RunEq R (PySem.W.view R.prog [25]) hk ob 2000 names w := by
  intro os
  kernel_rfl
theorem facts (plain : ∀ ns : List Int, ns.length ≤ 63 → ∃ T' e', m_law (.no :: .sh .tape :: List.replicate 19 .no) (startT ns) = some (.rt (.bl true), e', T')) {P : Program} {w : World} {K : PySem.W.Frag} {h : Heap} {mg : Str → Option Value} {f : Addr} (X : K.In h) (G : h.Ns mainGlobals mg) (hfa : mg ("law" : Str) = some (.ref f)) (c : He.SaysD fa fn K) :
    ∃ fd : FuncData, (∀ (s : Shared) (v : Value), BindsTo s fd ⟨[v], []⟩ [("script", v)]) ∧ ∀ base : Heap, K.In base → base.Ns mainGlobals mg → FnOk P w K mg base CX0 5 f fd ["script"] (spLaw K) := by
  obtain ⟨fd_way, D_way⟩ := c.def_ 0 (d := d_way) rfl
  have F_way : Fun K ("way" : Str) ("way" : Str) s_way _ fd_way := Fun.ofD D_way
  have b_way := F_way.binds (ps := [("stemma" : Str), ("node" : Str)]) fun _ _ _ _ _ _ us hl => match us, hl with | [_, _], _ => rfl
  have m_way' := He.glo_ok X G (c.fact 0 (f := .glo ("way" : Str)) rfl)
  obtain ⟨fd_readings, D_readings⟩ := c.def_ 1 (d := d_readings) rfl
  have F_readings : Fun K ("readings" : Str) ("readings" : Str) s_readings _ fd_readings := Fun.ofD D_readings
  have b_readings := F_readings.binds (ps := [("stemma" : Str), ("node" : Str)]) fun _ _ _ _ _ _ us hl => match us, hl with | [_, _], _ => rfl
  have m_readings' := He.glo_ok X G (c.fact 1 (f := .glo ("readings" : Str)) rfl)
  obtain ⟨fd_shown, D_shown⟩ := c.def_ 2 (d := d_shown) rfl
  have F_shown : Fun K ("shown" : Str) ("shown" : Str) s_shown _ fd_shown := Fun.ofD D_shown
  have b_shown := F_shown.binds (ps := [("stemma" : Str), ("names" : Str), ("many" : Str)]) fun _ _ _ _ _ _ us hl => match us, hl with | [_, _, _], _ => rfl
  have m_shown' := He.glo_ok X G (c.fact 2 (f := .glo ("shown" : Str)) rfl)
  obtain ⟨fd_columns, D_columns⟩ := c.def_ 3 (d := d_columns) rfl
  have F_columns : Fun K ("columns" : Str) ("columns" : Str) s_columns _ fd_columns := Fun.ofD D_columns
  have b_columns := F_columns.binds (ps := [("places" : Str)]) fun _ _ _ _ _ _ us hl => match us, hl with | [_], _ => rfl
  have m_columns' := He.glo_ok X G (c.fact 3 (f := .glo ("columns" : Str)) rfl)
  obtain ⟨fd_line_of, D_line_of⟩ := c.def_ 4 (d := d_line_of) rfl
  have F_line_of : Fun K ("line_of" : Str) ("line_of" : Str) s_line_of _ fd_line_of := Fun.ofD D_line_of
  have b_line_of := F_line_of.binds (ps := [("place" : Str), ("number" : Str)]) fun _ _ _ _ _ _ us hl => match us, hl with | [_, _], _ => rfl
  have m_line_of' := He.glo_ok X G (c.fact 4 (f := .glo ("line_of" : Str)) rfl)
  obtain ⟨fd_signs_of, D_signs_of⟩ := c.def_ 5 (d := d_signs_of) rfl
  have F_signs_of : Fun K ("signs_of" : Str) ("signs_of" : Str) s_signs_of _ fd_signs_of := Fun.ofD D_signs_of
  have b_signs_of := F_signs_of.binds (ps := [("place" : Str), ("reading" : Str)]) fun _ _ _ _ _ _ us hl => match us, hl with | [_, _], _ => rfl
  have m_signs_of' := He.glo_ok X G (c.fact 5 (f := .glo ("signs_of" : Str)) rfl)
  obtain ⟨fd_row_of_readings, D_row_of_readings⟩ := c.def_ 6 (d := d_row_of_readings) rfl
  have F_row_of_readings : Fun K ("row_of_readings" : Str) ("row_of_readings" : Str) s_row_of_readings _ fd_row_of_readings := Fun.ofD D_row_of_readings
  have b_row_of_readings := F_row_of_readings.binds (ps := [("places" : Str), ("readings" : Str)]) fun _ _ _ _ _ _ us hl => match us, hl with | [_, _], _ => rfl
  have m_row_of_readings' := He.glo_ok X G (c.fact 6 (f := .glo ("row_of_readings" : Str)) rfl)
  obtain ⟨fd_agrees_with, D_agrees_with⟩ := c.def_ 7 (d := d_agrees_with) rfl
  have F_agrees_with : Fun K ("agrees_with" : Str) ("agrees_with" : Str) s_agrees_with _ fd_agrees_with := Fun.ofD D_agrees_with
  have b_agrees_with := F_agrees_with.binds (ps := [("signs" : Str), ("others" : Str)]) fun _ _ _ _ _ _ us hl => match us, hl with | [_, _], _ => rfl
  have m_agrees_with' := He.glo_ok X G (c.fact 7 (f := .glo ("agrees_with" : Str)) rfl)
  obtain ⟨fd_possible, D_possible⟩ := c.def_ 8 (d := d_possible) rfl
  have F_possible : Fun K ("possible" : Str) ("possible" : Str) s_possible _ fd_possible := Fun.ofD D_possible
  have b_possible := F_possible.binds (ps := [("place" : Str), ("signs" : Str)]) fun _ _ _ _ _ _ us hl => match us, hl with | [_, _], _ => rfl
  have m_possible' := He.glo_ok X G (c.fact 8 (f := .glo ("possible" : Str)) rfl)
  obtain ⟨fd_parts_of, D_parts_of⟩ := c.def_ 9 (d := d_parts_of) rfl
  have F_parts_of : Fun K ("parts_of" : Str) ("parts_of" : Str) s_parts_of _ fd_parts_of := Fun.ofD D_parts_of
  have b_parts_of := F_parts_of.binds (ps := [("places" : Str), ("row" : Str)]) fun _ _ _ _ _ _ us hl => match us, hl with | [_, _], _ => rfl
  have m_parts_of' := He.glo_ok X G (c.fact 9 (f := .glo ("parts_of" : Str)) rfl)
  obtain ⟨fd_readings_of, D_readings_of⟩ := c.def_ 10 (d := d_readings_of) rfl
  have F_readings_of : Fun K ("readings_of" : Str) ("readings_of" : Str) s_readings_of _ fd_readings_of := Fun.ofD D_readings_of
  have b_readings_of := F_readings_of.binds (ps := [("places" : Str), ("row" : Str)]) fun _ _ _ _ _ _ us hl => match us, hl with | [_, _], _ => rfl
  have m_readings_of' := He.glo_ok X G (c.fact 10 (f := .glo ("readings_of" : Str)) rfl)
  obtain ⟨fd_number_of, D_number_of⟩ := c.def_ 11 (d := d_number_of) rfl
  have F_number_of : Fun K ("number_of" : Str) ("number_of" : Str) s_number_of _ fd_number_of := Fun.ofD D_number_of
  have b_number_of := F_number_of.binds (ps := [("places" : Str), ("error" : Str)]) fun _ _ _ _ _ _ us hl => match us, hl with | [_, _], _ => rfl
  have m_number_of' := He.glo_ok X G (c.fact 11 (f := .glo ("number_of" : Str)) rfl)
  obtain ⟨fd_read_at, D_read_at⟩ := c.def_ 12 (d := d_read_at) rfl
  have F_read_at : Fun K ("read_at" : Str) ("read_at" : Str) s_read_at _ fd_read_at := Fun.ofD D_read_at
  have b_read_at := F_read_at.binds (ps := [("stemma" : Str), ("places" : Str), ("node" : Str)]) fun _ _ _ _ _ _ us hl => match us, hl with | [_, _, _], _ => rfl
  have m_read_at' := He.glo_ok X G (c.fact 12 (f := .glo ("read_at" : Str)) rfl)
  obtain ⟨fd_is_carried, D_is_carried⟩ := c.def_ 13 (d := d_is_carried) rfl
  have F_is_carried : Fun K ("is_carried" : Str) ("is_carried" : Str) s_is_carried _ fd_is_carried := Fun.ofD D_is_carried
  have b_is_carried := F_is_carried.binds (ps := [("stemma" : Str), ("places" : Str)]) fun _ _ _ _ _ _ us hl => match us, hl with | [_, _], _ => rfl
  have m_is_carried' := He.glo_ok X G (c.fact 13 (f := .glo ("is_carried" : Str)) rfl)
  obtain ⟨fd_texts_read, D_texts_read⟩ := c.def_ 14 (d := d_texts_read) rfl
  have F_texts_read : Fun K ("texts_read" : Str) ("texts_read" : Str) s_texts_read _ fd_texts_read := Fun.ofD D_texts_read
  have b_texts_read := F_texts_read.binds (ps := [("stemma" : Str), ("places" : Str), ("node" : Str)]) fun _ _ _ _ _ _ us hl => match us, hl with | [_, _, _], _ => rfl
  have m_texts_read' := He.glo_ok X G (c.fact 14 (f := .glo ("texts_read" : Str)) rfl)
  obtain ⟨fd__law_state, D__law_state⟩ := c.def_ 15 (d := d__law_state) rfl
  have F__law_state : Fun K ("_law_state" : Str) ("_law_state" : Str) s__law_state _ fd__law_state := Fun.ofD D__law_state
  have b__law_state := F__law_state.binds (ps := [("script" : Str)]) fun _ _ _ _ _ _ us hl => match us, hl with | [_], _ => rfl
  have m__law_state' := He.glo_ok X G (c.fact 15 (f := .glo ("_law_state" : Str)) rfl)
  obtain ⟨fd__law_take, D__law_take⟩ := c.def_ 16 (d := d__law_take) rfl
  have F__law_take : Fun K ("_law_take" : Str) ("_law_take" : Str) s__law_take _ fd__law_take := Fun.ofD D__law_take
  have b__law_take := F__law_take.binds (ps := [("state" : Str), ("most" : Str)]) fun _ _ _ _ _ _ us hl => match us, hl with | [_, _], _ => rfl
  have m__law_take' := He.glo_ok X G (c.fact 16 (f := .glo ("_law_take" : Str)) rfl)
  obtain ⟨fd__law_pick, D__law_pick⟩ := c.def_ 17 (d := d__law_pick) rfl
  have F__law_pick : Fun K ("_law_pick" : Str) ("_law_pick" : Str) s__law_pick _ fd__law_pick := Fun.ofD D__law_pick
  have b__law_pick := F__law_pick.binds (ps := [("state" : Str), ("row" : Str)]) fun _ _ _ _ _ _ us hl => match us, hl with | [_, _], _ => rfl
  have m__law_pick' := He.glo_ok X G (c.fact 17 (f := .glo ("_law_pick" : Str)) rfl)
  obtain ⟨fd__law_places, D__law_places⟩ := c.def_ 18 (d := d__law_places) rfl
  have F__law_places : Fun K ("_law_places" : Str) ("_law_places" : Str) s__law_places _ fd__law_places := Fun.ofD D__law_places
  have b__law_places := F__law_places.binds (ps := [("state" : Str)]) fun _ _ _ _ _ _ us hl => match us, hl with | [_], _ => rfl
  have m__law_places' := He.glo_ok X G (c.fact 18 (f := .glo ("_law_places" : Str)) rfl)
  obtain ⟨fd__law_number, D__law_number⟩ := c.def_ 19 (d := d__law_number) rfl
  have F__law_number : Fun K ("_law_number" : Str) ("_law_number" : Str) s__law_number _ fd__law_number := Fun.ofD D__law_number
  have b__law_number := F__law_number.binds (ps := [("places" : Str), ("k" : Str), ("j" : Str)]) fun _ _ _ _ _ _ us hl => match us, hl with | [_, _, _], _ => rfl
  have m__law_number' := He.glo_ok X G (c.fact 19 (f := .glo ("_law_number" : Str)) rfl)
  obtain ⟨fd__law_history, D__law_history⟩ := c.def_ 20 (d := d__law_history) rfl
  have F__law_history : Fun K ("_law_history" : Str) ("_law_history" : Str) s__law_history _ fd__law_history := Fun.ofD D__law_history
  have b__law_history := F__law_history.binds (ps := [("state" : Str), ("places" : Str)]) fun _ _ _ _ _ _ us hl => match us, hl with | [_, _], _ => rfl
  have m__law_history' := He.glo_ok X G (c.fact 20 (f := .glo ("_law_history" : Str)) rfl)
  obtain ⟨fd__law_carried, D__law_carried⟩ := c.def_ 21 (d := d__law_carried) rfl
  have F__law_carried : Fun K ("_law_carried" : Str) ("_law_carried" : Str) s__law_carried _ fd__law_carried := Fun.ofD D__law_carried
  have b__law_carried := F__law_carried.binds (ps := [("places" : Str), ("parents" : Str), ("made" : Str)]) fun _ _ _ _ _ _ us hl => match us, hl with | [_, _, _], _ => rfl
  have m__law_carried' := He.glo_ok X G (c.fact 21 (f := .glo ("_law_carried" : Str)) rfl)
  obtain ⟨fd_law, D_law⟩ := c.def_ 22 (d := d_law) rfl
  have F_law : Fun K ("law" : Str) ("law" : Str) s_law _ fd_law := Fun.ofD D_law
  have b_law := F_law.binds (ps := [("script" : Str)]) fun _ _ _ _ _ _ us hl => match us, hl with | [_], _ => rfl
  have m_law' := He.glo_ok X G (c.fact 22 (f := .glo ("law" : Str)) rfl)
  have e := hfa.symm.trans m_law'
  cases e
  have T : Tx K mg := ⟨He.free_ok X G (c.fact 23 (f := .free ("abs" : Str)) rfl), He.free_ok X G (c.fact 24 (f := .free ("any" : Str)) rfl), He.free_ok X G (c.fact 25 (f := .free ("bool" : Str)) rfl), He.free_ok X G (c.fact 26 (f := .free ("int" : Str)) rfl), He.free_ok X G (c.fact 27 (f := .free ("isinstance" : Str)) rfl), He.free_ok X G (c.fact 28 (f := .free ("len" : Str)) rfl), He.free_ok X G (c.fact 29 (f := .free ("list" : Str)) rfl), He.free_ok X G (c.fact 30 (f := .free ("range" : Str)) rfl), He.free_ok X G (c.fact 31 (f := .free ("set" : Str)) rfl), He.free_ok X G (c.fact 32 (f := .free ("sorted" : Str)) rfl), He.free_ok X G (c.fact 33 (f := .free ("str" : Str)) rfl), He.free_ok X G (c.fact 34 (f := .free ("sum" : Str)) rfl), He.free_ok X G (c.fact 35 (f := .free ("tuple" : Str)) rfl)⟩
  have b := FunD.bindsA (ps := ["script"]) D_law fun _ _ _ _ _ _ us hl => match us, hl with | [_], _ => rfl
  refine ⟨fd_law, fun s v => b s [v] rfl, fun base _ _ => ?_⟩
  have g__law_take : FnAt tz P w K mg base 1 ("_law_take" : Str) 2 f__law_take := FnAt.of (ok__law_take F__law_take T ) rfl m__law_take' F__law_take.kp b__law_take
  have g_way : FnAt tz P w K mg base 1 ("way" : Str) 2 f_way := FnAt.of (ok_way F_way T ) rfl m_way' F_way.kp b_way
  have g_columns : FnAt tz P w K mg base 1 ("columns" : Str) 1 f_columns := FnAt.of (ok_columns F_columns T ) rfl m_columns' F_columns.kp b_columns
  have g_line_of : FnAt tz P w K mg base 1 ("line_of" : Str) 2 f_line_of := FnAt.of (ok_line_of F_line_of T ) rfl m_line_of' F_line_of.kp b_line_of
  have g_agrees_with : FnAt tz P w K mg base 1 ("agrees_with" : Str) 2 f_agrees_with := FnAt.of (ok_agrees_with F_agrees_with T ) rfl m_agrees_with' F_agrees_with.kp b_agrees_with
  have g_parts_of : FnAt tz P w K mg base 1 ("parts_of" : Str) 2 f_parts_of := FnAt.of (ok_parts_of F_parts_of T ) rfl m_parts_of' F_parts_of.kp b_parts_of
  have g__law_number : FnAt tz P w K mg base 1 ("_law_number" : Str) 3 f__law_number := FnAt.of (ok__law_number F__law_number T ) rfl m__law_number' F__law_number.kp b__law_number
  have g__law_carried : FnAt tz P w K mg base 1 ("_law_carried" : Str) 3 f__law_carried := FnAt.of (ok__law_carried F__law_carried T ) rfl m__law_carried' F__law_carried.kp b__law_carried
  have g_readings : FnAt tz P w K mg base 2 ("readings" : Str) 2 f_readings := FnAt.of (ok_readings F_readings T g_way) rfl m_readings' F_readings.kp b_readings
  have g_signs_of : FnAt tz P w K mg base 2 ("signs_of" : Str) 2 f_signs_of := FnAt.of (ok_signs_of F_signs_of T g_line_of) rfl m_signs_of' F_signs_of.kp b_signs_of
  have g_number_of : FnAt tz P w K mg base 2 ("number_of" : Str) 2 f_number_of := FnAt.of (ok_number_of F_number_of T g_columns) rfl m_number_of' F_number_of.kp b_number_of
  have g__law_pick : FnAt tz P w K mg base 2 ("_law_pick" : Str) 2 f__law_pick := FnAt.of (ok__law_pick F__law_pick T g__law_take) rfl m__law_pick' F__law_pick.kp b__law_pick
  have g_shown : FnAt tz P w K mg base 3 ("shown" : Str) 3 f_shown := FnAt.of (ok_shown F_shown T g_readings) rfl m_shown' F_shown.kp b_shown
  have g_row_of_readings : FnAt tz P w K mg base 3 ("row_of_readings" : Str) 2 f_row_of_readings := FnAt.of (ok_row_of_readings F_row_of_readings T g_signs_of) rfl m_row_of_readings' F_row_of_readings.kp b_row_of_readings
  have g_possible : FnAt tz P w K mg base 3 ("possible" : Str) 2 f_possible := FnAt.of (ok_possible F_possible T g_signs_of g_agrees_with) rfl m_possible' F_possible.kp b_possible
  have g_read_at : FnAt tz P w K mg base 3 ("read_at" : Str) 3 f_read_at := FnAt.of (ok_read_at F_read_at T g_way g_number_of) rfl m_read_at' F_read_at.kp b_read_at
  have g__law_places : FnAt tz P w K mg base 3 ("_law_places" : Str) 1 f__law_places := FnAt.of (ok__law_places F__law_places T g__law_take g__law_pick) rfl m__law_places' F__law_places.kp b__law_places
  have g__law_history : FnAt tz P w K mg base 3 ("_law_history" : Str) 2 f__law_history := FnAt.of (ok__law_history F__law_history T g__law_take g__law_number g__law_pick) rfl m__law_history' F__law_history.kp b__law_history
  have g_readings_of : FnAt tz P w K mg base 4 ("readings_of" : Str) 2 f_readings_of := FnAt.of (ok_readings_of F_readings_of T g_possible g_parts_of) rfl m_readings_of' F_readings_of.kp b_readings_of
  have g_is_carried : FnAt tz P w K mg base 4 ("is_carried" : Str) 2 f_is_carried := FnAt.of (ok_is_carried F_is_carried T g_read_at g_columns) rfl m_is_carried' F_is_carried.kp b_is_carried
  have g_texts_read : FnAt tz P w K mg base 4 ("texts_read" : Str) 3 f_texts_read := FnAt.of (ok_texts_read F_texts_read T g_read_at) rfl m_texts_read' F_texts_read.kp b_texts_read
  exact ok_law F_law T (ok__law_state F__law_state T) m__law_state' F__law_state.kp b__law_state g__law_carried g_is_carried g__law_take g_readings_of g_row_of_readings g_shown g_texts_read g__law_history g__law_places plain
end K38

namespace K38
open PySem L2 DL


/-! ### the data -/
abbrev Pl := List (Option Nat)
def oD : Option Nat → D
  | none => .non
  | some i => .int i
abbrev nD (i : Nat) : D := .int (i : Int)
def wD (j : Nat) : D := .tup (List.replicate j (.str "w"))
def plD (E : Pl) : D := .tup [.tup ((List.range E.length).map wD), .tup (E.map oD)]
def psD (P : List Pl) : D := .tup (P.map plD)
def rowD (r : List Nat) : D := .tup (r.map nD)
def stD (ps : Pl) (made : List (List Nat)) (seats : List Nat) : D := .tup [.str "stemma", .tup (ps.map oD), .tup (made.map rowD), .tup (seats.map nD)]
def Asc (ps : Pl) : Prop := ∀ (j i : Nat), ps[j]? = some (some i) → i < j
theorem ix0 (a : D) (r : List D) : idxD (.tup (a :: r)) (.int 0) = some a := idx_tup _ 0
theorem ix1 (a b : D) (r : List D) : idxD (.tup (a :: b :: r)) (.int 1) = some b := idx_tup _ 1
theorem ix2 (a b c : D) (r : List D) : idxD (.tup (a :: b :: c :: r)) (.int 2) = some c := idx_tup _ 2
theorem ix3 (a b c d : D) (r : List D) : idxD (.tup (a :: b :: c :: d :: r)) (.int 3) = some d := idx_tup _ 3
theorem ixl0 (a : D) (r : List D) : idxD (.lst (a :: r)) (.int 0) = some a := idx_lst _ 0
theorem ixt {A : Type} (f : A → D) (xs : List A) (i : Nat) : idxD (.tup (xs.map f)) (.int (i : Int)) = (xs[i]?).map f := by rw [idx_tup, List.getElem?_map]
theorem ixl {A : Type} (f : A → D) (xs : List A) (i : Nat) : idxD (.lst (xs.map f)) (.int (i : Int)) = (xs[i]?).map f := by rw [idx_lst, List.getElem?_map]
/-! ### ways -/
def wayL (ps : Pl) : Nat → Nat → List Nat
  | 0, n => [n]
  | f + 1, n => match ps[n]? with
    | some (some m) => wayL ps f m ++ [n]
    | _ => [n]
def wayP (ps : Pl) (n : Nat) : List Nat := wayL ps n n
theorem wayL_fuel {ps : Pl} (h : Asc ps) : ∀ (f n : Nat), n ≤ f → wayL ps f n = wayL ps n n
  | 0, n, hn => by
    have : n = 0 := by omega
    subst this; rfl
  | f + 1, n, hn => by
    cases n with
    | zero =>
      unfold wayL
      cases q : ps[0]? with
      | none => rfl
      | some x =>
        cases x with
        | none => rfl
        | some m => exact absurd (h 0 m q) (by omega)
    | succ n =>
      unfold wayL
      cases q : ps[n + 1]? with
      | none => rfl
      | some x =>
        cases x with
        | none => rfl
        | some m =>
          have hm := h _ _ q
          simp only
          rw [wayL_fuel h f m (by omega), wayL_fuel h n m (by omega)]
theorem way_some {ps : Pl} (h : Asc ps) {n m : Nat} (e : ps[n]? = some (some m)) : wayP ps n = wayP ps m ++ [n] := by
  have hm := h _ _ e
  unfold wayP
  cases n with
  | zero => omega
  | succ n =>
    rw [wayL, e]
    simp only
    rw [wayL_fuel h n m (by omega)]
theorem way_none {ps : Pl} {n : Nat} (e : ps[n]? = some none) : wayP ps n = [n] := by
  unfold wayP
  cases n with
  | zero => rfl
  | succ n => rw [wayL, e]
theorem way_len {ps : Pl} (h : Asc ps) : ∀ n : Nat, (wayP ps n).length ≤ n + 1 := fun n => by
  induction n using Nat.strongRecOn with
  | ind n ih =>
    cases q : ps[n]? with
    | none => unfold wayP; cases n with
      | zero => simp [wayL]
      | succ n => rw [wayL, q]; simp
    | some x =>
      cases x with
      | none => rw [way_none q]; simp
      | some m =>
        have hm := h _ _ q
        rw [way_some h q, List.length_append, List.length_singleton]
        have := ih m hm
        omega
theorem way_mem {ps : Pl} (h : Asc ps) : ∀ (n k : Nat), n < ps.length → k ∈ wayP ps n → k ≤ n := fun n => by
  induction n using Nat.strongRecOn with
  | ind n ih =>
    intro k hn hk
    have q : ps[n]? = some ps[n] := List.getElem?_eq_getElem hn
    cases x : ps[n] with
    | none => rw [x] at q; rw [way_none q] at hk; simp at hk; omega
    | some m =>
      rw [x] at q
      have hm := h _ _ q
      rw [way_some h q, List.mem_append] at hk
      rcases hk with hk | hk
      · have := ih m hm k (by omega) hk; omega
      · simp at hk; omega
def wC : MB tz := asB (mop isntND (.e (mop idxD (.e (mop idxD (.v 0) (.e (mcst (.int 1))))) (.e (mop idxD (.v 2) (.e (mcst (.int 0))))))) (.e (mcst .non)))
def wB : SM tz := sset 2 (mop addD (.e (mlst (mcons (mop idxD (.e (mop idxD (.v 0) (.e (mcst (.int 1))))) (.e (mop idxD (.v 2) (.e (mcst (.int 0)))))) mnil))) (.v 2))
theorem way_loop {ps : Pl} (h : Asc ps) (a c : D) (rest : List D) (t : Tp) : ∀ (k n : Nat) (r : List D), n < ps.length → n < k → r.length + n ≤ 1000 →
    whileL wC wB k [.sh (.tup (a :: .tup (ps.map oD) :: rest)), .sh c, .sh (.lst (nD n :: r))] t = some (.nx, [.sh (.tup (a :: .tup (ps.map oD) :: rest)), .sh c, .sh (.lst ((wayP ps n).map nD ++ r))], t)
  | 0, n, r, _, hk, _ => by omega
  | k + 1, n, r, hn, hk, hr => by
    have q : ps[n]? = some ps[n] := List.getElem?_eq_getElem hn
    have i1 : idxD (.tup (ps.map oD)) (nD n) = some (oD ps[n]) := by rw [ixt, q]; rfl
    cases x : ps[n] with
    | none =>
      rw [x] at q i1
      rw [way_none q]
      unfold whileL wC
      simp [mop, ev2, ev1, evA, getA, look, slotOk, mcst, mvar, asB, mlst, mtup, mcons, mnil, mfn, mfnL, evN, evAs, getAs, mite, band, bor, bnot, mand, mor, mnot, mcall, iseq, irange1, irange2, sset, ssetO, sret, sdrop, snil, sif, gset, mmut, isL1, ssub, spar, evOs, setSls, slOf, sasg, gtup, gcons, gnil, mslice, osome, onone, mopL, mlensetA, misinst, mmt, kindD, saug, byes, ix1, ixl0, i1, oD, isntND, noTape, isNonD]
    | some m =>
      rw [x] at q i1
      have hm := h _ _ q
      have sz : r.length + 1 + 1 ≤ sizeLine := Nat.le_trans (by omega : r.length + 1 + 1 ≤ 1001) (by decide)
      have ih := way_loop h a c rest t k m (nD n :: r) (by omega) (by omega) (by simp only [List.length_cons]; omega)
      rw [way_some h q]
      unfold whileL
      have ec : wC [.sh (.tup (a :: .tup (ps.map oD) :: rest)), .sh c, .sh (.lst (nD n :: r))] t = some (true, [.sh (.tup (a :: .tup (ps.map oD) :: rest)), .sh c, .sh (.lst (nD n :: r))], t) := by
        unfold wC
        simp [mop, ev2, ev1, evA, getA, look, slotOk, mcst, mvar, asB, mlst, mtup, mcons, mnil, mfn, mfnL, evN, evAs, getAs, mite, band, bor, bnot, mand, mor, mnot, mcall, iseq, irange1, irange2, sset, ssetO, sret, sdrop, snil, sif, gset, mmut, isL1, ssub, spar, evOs, setSls, slOf, sasg, gtup, gcons, gnil, mslice, osome, onone, mopL, mlensetA, misinst, mmt, kindD, saug, byes, ix1, ixl0, i1, oD, isntND, noTape, isNonD]
      have eb : wB [.sh (.tup (a :: .tup (ps.map oD) :: rest)), .sh c, .sh (.lst (nD n :: r))] t = some (.nx, [.sh (.tup (a :: .tup (ps.map oD) :: rest)), .sh c, .sh (.lst (nD m :: nD n :: r))], t) := by
        unfold wB
        have sz' : 1 + (r.length + 1) ≤ sizeLine := by omega
        simp [mop, ev2, ev1, evA, getA, look, slotOk, mcst, mvar, asB, mlst, mtup, mcons, mnil, mfn, mfnL, evN, evAs, getAs, mite, band, bor, bnot, mand, mor, mnot, mcall, iseq, irange1, irange2, sset, ssetO, sret, sdrop, snil, sif, gset, mmut, isL1, ssub, spar, evOs, setSls, slOf, sasg, gtup, gcons, gnil, mslice, osome, onone, mopL, mlensetA, misinst, mmt, kindD, saug, byes, ix1, ixl0, i1, oD, addD, sz']
      simp only [ec, eb, ih, List.map_append, List.map_cons, List.map_nil, List.append_assoc, List.singleton_append]
theorem way_run {ps : Pl} (h : Asc ps) (a : D) (rest : List D) (t : Tp) {n : Nat} (hn : n < ps.length) (hz : ps.length ≤ 200) :
    f_way [.tup (a :: .tup (ps.map oD) :: rest), nD n] t = some (.lst ((wayP ps n).map nD), t) := by
  have q := way_loop h a (nD n) rest t 200 n [] hn (by omega) (by simp; omega)
  unfold wC wB at q
  simp only [List.append_nil] at q
  unfold f_way runFn m_way scons w_way_1 wc_way_1 wb_way_1
  simp [mop, ev2, ev1, evA, getA, look, slotOk, mcst, mvar, asB, mlst, mtup, mcons, mnil, mfn, mfnL, evN, evAs, getAs, mite, band, bor, bnot, mand, mor, mnot, mcall, iseq, irange1, irange2, sset, ssetO, sret, sdrop, snil, sif, gset, mmut, isL1, ssub, spar, evOs, setSls, slOf, sasg, gtup, gcons, gnil, mslice, osome, onone, mopL, mlensetA, misinst, mmt, kindD, saug, byes, q]
theorem line_run {ps : Pl} (h : Asc ps) (a : D) (rest : List D) (t : Tp) {n : Nat} (hn : n < ps.length) (hz : ps.length ≤ 200) :
    f_line_of [.tup (a :: .tup (ps.map oD) :: rest), nD n] t = some (.lst ((wayP ps n).map nD), t) := by
  have q := way_loop h a (nD n) rest t 200 n [] hn (by omega) (by simp; omega)
  unfold wC wB at q
  simp only [List.append_nil] at q
  unfold f_line_of runFn m_line_of scons w_line_of_1 wc_line_of_1 wb_line_of_1
  simp [mop, ev2, ev1, evA, getA, look, slotOk, mcst, mvar, asB, mlst, mtup, mcons, mnil, mfn, mfnL, evN, evAs, getAs, mite, band, bor, bnot, mand, mor, mnot, mcall, iseq, irange1, irange2, sset, ssetO, sret, sdrop, snil, sif, gset, mmut, isL1, ssub, spar, evOs, setSls, slOf, sasg, gtup, gcons, gnil, mslice, osome, onone, mopL, mlensetA, misinst, mmt, kindD, saug, byes, q]
end K38

namespace K38
open PySem L2 DL

/-! ### texts -/
def mkS (cs : List Nat) : Str := ⟨cs.toArray⟩
theorem s_emp : ("" : Str) = mkS [] := by decide +kernel
theorem s_one : ("1" : Str) = mkS [49] := by decide +kernel
theorem s_zero : ("0" : Str) = mkS [48] := by decide +kernel
theorem s_01 : ("01" : Str) = mkS [48, 49] := by decide +kernel
theorem s_10 : ("10" : Str) = mkS [49, 48] := by decide +kernel
theorem s_w : ("w" : Str) = mkS [119] := by decide +kernel
theorem mkS_inj {a b : List Nat} : mkS a = mkS b ↔ a = b := by
  constructor
  · intro h
    have := congrArg (fun s : Str => s.cps.toList) h
    simpa [mkS] using this
  · rintro rfl; rfl
theorem mkS_beq (a b : List Nat) : (mkS a == mkS b) = decide (a = b) := by
  by_cases h : a = b
  · subst h; simp
  · rw [decide_eq_false h]
    exact beq_eq_false_iff_ne.mpr fun z => h (mkS_inj.mp z)
theorem mkS_app (a b : List Nat) : mkS a ++ mkS b = mkS (a ++ b) := by
  show Str.append _ _ = _
  simp [Str.append, mkS]
theorem mkS_len (a : List Nat) : (mkS a).length = a.length := by simp [mkS, Str.length]
theorem mkS_list (a : List Nat) : (mkS a).cps.toList = a := by simp [mkS]
theorem mkS_ok {a : List Nat} (h : ∀ c ∈ a, c < 1114112) : PyData.strOk (mkS a) = true := by
  unfold PyData.strOk mkS
  simpa using h
theorem join_mkS : ∀ parts : List (List Nat), Str.join (mkS []) (parts.map mkS) = mkS parts.flatten
  | [] => rfl
  | [x] => by simp [Str.join]
  | x :: y :: r => by
    have ih := join_mkS (y :: r)
    simp only [List.map_cons] at ih
    simp only [List.map_cons, Str.join, ih]
    rw [mkS_app, mkS_app]
    simp
def bit (b : Bool) : Nat := if b then 49 else 48
def sgS (bs : List Bool) : Str := mkS (bs.map bit)
theorem bit_lt (b : Bool) : bit b < 1114112 := by cases b <;> decide
theorem bit_inj {a b : Bool} : bit a = bit b ↔ a = b := by cases a <;> cases b <;> decide
/-! ### ranges -/
theorem range0 (n : Nat) : rangeD 0 n = (List.range n).map nD := by
  unfold rangeD
  apply List.map_congr_left
  intro i _
  show D.int _ = D.int _
  congr 1
  omega
theorem range1 (n : Nat) : rangeD 1 n = (List.range' 1 n).map nD := by
  unfold rangeD
  rw [List.range'_eq_map_range, List.map_map]
  apply List.map_congr_left
  intro i _
  show D.int _ = D.int _
  congr 1
/-! ### readings -/
theorem pl_0 (E : Pl) : idxD (plD E) (.int 0) = some (.tup ((List.range E.length).map wD)) := ix0 _ _
theorem pl_1 (E : Pl) : idxD (plD E) (.int 1) = some (.tup (E.map oD)) := ix1 _ _ _
theorem ok_w (j : Nat) : okD 29 (wD j) = true := by
  have h : PyData.strOk ("w" : Str) = true := by decide +kernel
  unfold wD
  simp [okD, h]
theorem eqvL_rep (x : Str) : ∀ i j : Nat, eqvL (List.replicate i (.str x)) (List.replicate j (.str x)) = decide (i = j)
  | 0, 0 => by simp [eqvL]
  | 0, j + 1 => by simp [List.replicate_succ, eqvL]
  | i + 1, 0 => by simp [List.replicate_succ, eqvL]
  | i + 1, j + 1 => by simp [List.replicate_succ, eqvL, eqvD, eqvL_rep x i j]
theorem eqv_w (i j : Nat) : eqvD (wD i) (wD j) = decide (i = j) := by
  unfold wD
  simp [eqvD, eqvL_rep]
theorem mem_w (n j : Nat) : memD (wD j) ((List.range n).map wD) = decide (j < n) := by
  unfold memD
  rw [List.any_map]
  by_cases h : j < n
  · rw [decide_eq_true h, List.any_eq_true]
    exact ⟨j, List.mem_range.mpr h, by simp [eqv_w]⟩
  · rw [decide_eq_false h, List.any_eq_false]
    intro i hi
    have := List.mem_range.mp hi
    simp [eqv_w]
    omega
theorem notin_w (n j : Nat) (h : j < n) : notinD (wD j) (.tup ((List.range n).map wD)) = some (.bl false) := by
  have o1 : okD 30 (wD j) = true := by
    have hs : PyData.strOk ("w" : Str) = true := by decide +kernel
    unfold wD; simp [okD, hs]
  have o2 : (((List.range n).map wD).all (okD 30)) = true := by
    rw [List.all_eq_true]
    intro x hx
    obtain ⟨i, _, rfl⟩ := List.mem_map.mp hx
    have hs : PyData.strOk ("w" : Str) = true := by decide +kernel
    unfold wD; simp [okD, hs]
  simp [notinD, seqD, o1, o2, mem_w, h]
theorem idxOf_w (j : Nat) : ∀ (n s : Nat), s ≤ j → j < s + n → idxOfD (wD j) ((List.range' s n).map wD) = some (j - s)
  | 0, s, h1, h2 => by omega
  | n + 1, s, h1, h2 => by
    rw [List.range'_succ, List.map_cons]
    unfold idxOfD
    rw [eqv_w]
    by_cases e : s = j
    · subst e; simp
    · rw [decide_eq_false e]
      simp only [Bool.false_eq_true, if_false]
      rw [idxOf_w j n (s + 1) (by omega) (by omega)]
      simp
      omega
theorem index_w (n j : Nat) (h : j < n) (hn : n ≤ 1000) : indexG (.tup ((List.range n).map wD)) [wD j] = some (nD j) := by
  have hs : PyData.strOk ("w" : Str) = true := by decide +kernel
  have o1 : okD 30 (wD j) = true := by unfold wD; simp [okD, hs]
  have o2 : (((List.range n).map wD).all (okD 30)) = true := by
    rw [List.all_eq_true]
    intro x hx
    obtain ⟨i, _, rfl⟩ := List.mem_map.mp hx
    unfold wD; simp [okD, hs]
  have q := idxOf_w j n 0 (Nat.zero_le _) (by omega)
  rw [← List.range_eq_range'] at q
  have hl : ((List.range n).map wD).length ≤ 1000000 := by simp; omega
  simp only [indexG, seqD, o1, o2, hl, decide_true, Bool.and_self, if_true, q]
  simp
theorem in_nats (k : Nat) (xs : List Nat) : inD (nD k) (.lst (xs.map nD)) = some (.bl (decide (k ∈ xs))) := by
  have o2 : ((xs.map nD).all (okD 30)) = true := by
    rw [List.all_eq_true]
    intro x hx
    obtain ⟨i, _, rfl⟩ := List.mem_map.mp hx
    simp [okD]
  have m : memD (nD k) (xs.map nD) = decide (k ∈ xs) := by
    unfold memD
    rw [List.any_map]
    by_cases h : k ∈ xs
    · rw [decide_eq_true h, List.any_eq_true]
      exact ⟨k, h, by simp [eqvD]⟩
    · rw [decide_eq_false h, List.any_eq_false]
      intro i hi
      simp [eqvD]
      intro z
      have z' : i = k := by omega
      exact h (z' ▸ hi)
  simp [inD, seqD, o2, m, okD]
theorem in_natsT (k : Nat) (xs : List Nat) : inD (nD k) (.tup (xs.map nD)) = some (.bl (decide (k ∈ xs))) := by
  have := in_nats k xs
  simpa [inD, seqD] using this
theorem joinG_bits (bs : List Bool) (h : bs.length ≤ 1000) : joinG (.str "") [.lst (bs.map fun b => .str (if b then "1" else "0"))] = some (.str (sgS bs)) := by
  have e : (bs.map fun b => D.str (if b then "1" else "0")) = (bs.map fun b => mkS [bit b]).map D.str := by
    rw [List.map_map]
    apply List.map_congr_left
    intro b _
    cases b
    · simp [s_zero, bit]
    · simp [s_one, bit]
  have z : ((bs.map fun b => mkS [bit b]).map (·.length)).sum + (bs.map fun b => mkS [bit b]).length * (mkS []).length ≤ 16777216 := by
    have : ((bs.map fun b => mkS [bit b]).map (·.length)) = bs.map fun _ => 1 := by
      rw [List.map_map]
      apply List.map_congr_left
      intro b _
      show (mkS [bit b]).length = 1
      rw [mkS_len]; rfl
    have s1 : (bs.map fun _ => 1).sum = bs.length := by
      clear this e h
      induction bs with
      | nil => rfl
      | cons b bs ih => simp [ih, Nat.add_comm]
    rw [this, mkS_len, s1]
    simp
    omega
  have j : Str.join (mkS []) (bs.map fun b => mkS [bit b]) = sgS bs := by
    have := join_mkS (bs.map fun b => [bit b])
    rw [List.map_map] at this
    unfold sgS
    rw [show (bs.map fun b => mkS [bit b]) = bs.map (mkS ∘ fun b => [bit b]) from rfl, this]
    congr 1
    clear this z e h
    induction bs with
    | nil => rfl
    | cons b bs ih => simp [ih]
  simp only [joinG, e, seqD, strsD_map, s_emp, z, if_true, j]
end K38

namespace K38
open PySem L2 DL

/-! ### signs -/
def signs (E : Pl) (j : Nat) : List Bool := (List.range' 1 (E.length - 1)).map fun k => decide (k ∈ wayP E j)
theorem signs_len (E : Pl) (j : Nat) : (signs E j).length = E.length - 1 := by simp [signs]
theorem sub1 (n : Nat) : (((n : Nat) : Int) - 1).toNat = n - 1 := by omega
theorem signs_run {E : Pl} (hA : Asc E) {j : Nat} (hj : j < E.length) (hE : E.length ≤ 100) (t : Tp) : f_signs_of [plD E, wD j] t = some (.str (sgS (signs E j)), t) := by
  have q1 := notin_w E.length j hj
  have q2 := index_w E.length j hj (by omega)
  have q3 : f_line_of [plD E, nD j] t = some (.lst ((wayP E j).map nD), t) := line_run hA _ [] t hj (by omega)
  have b1 : ((E.length : Nat) : Int) < 4611686018427387904 := by omega
  have q4 : c_signs_of_1 [.sh (plD E), .sh (wD j), .sh (.lst ((wayP E j).map nD)), .no] t = some (.lst ((signs E j).map fun b => .str (if b then "1" else "0")), [.sh (plD E), .sh (wD j), .sh (.lst ((wayP E j).map nD)), .no], t) := by
    unfold c_signs_of_1
    rw [mlc_all (e1 := [.sh (plD E), .sh (wD j), .sh (.lst ((wayP E j).map nD)), .no]) (t1 := t) nD (fun k => .str (if decide (k ∈ wayP E j) then "1" else "0")) (List.range' 1 (E.length - 1))]
    · unfold signs
      rw [List.map_map]
      rfl
    · simp [mop, ev2, ev1, evA, getA, look, slotOk, mcst, mvar, asB, mlst, mtup, mcons, mnil, mfn, mfnL, evN, evAs, getAs, mite, band, bor, bnot, mand, mor, mnot, mcall, iseq, irange1, irange2, sset, ssetO, sret, sdrop, snil, sif, gset, mmut, isL1, ssub, spar, evOs, setSls, slOf, sasg, gtup, gcons, gnil, mslice, osome, onone, mopL, mlensetA, misinst, mmt, kindD, saug, byes, pl_0, len1, b1, sub1, range1]
    · rfl
    · simp; omega
    · intro k _
      refine ⟨[.sh (plD E), .sh (wD j), .sh (.lst ((wayP E j).map nD)), .sh (nD k)], rfl, rfl, ?_⟩
      unfold ce_signs_of_1
      have q5 := in_nats k (wayP E j)
      by_cases h : k ∈ wayP E j
      · refine ⟨[.sh (plD E), .sh (wD j), .sh (.lst ((wayP E j).map nD)), .sh (nD k)], ?_, rfl⟩
        simp [mop, ev2, ev1, evA, getA, look, slotOk, mcst, mvar, asB, mlst, mtup, mcons, mnil, mfn, mfnL, evN, evAs, getAs, mite, band, bor, bnot, mand, mor, mnot, mcall, iseq, irange1, irange2, sset, ssetO, sret, sdrop, snil, sif, gset, mmut, isL1, ssub, spar, evOs, setSls, slOf, sasg, gtup, gcons, gnil, mslice, osome, onone, mopL, mlensetA, misinst, mmt, kindD, saug, byes, q5, h]
      · refine ⟨[.sh (plD E), .sh (wD j), .sh (.lst ((wayP E j).map nD)), .sh (nD k)], ?_, rfl⟩
        simp [mop, ev2, ev1, evA, getA, look, slotOk, mcst, mvar, asB, mlst, mtup, mcons, mnil, mfn, mfnL, evN, evAs, getAs, mite, band, bor, bnot, mand, mor, mnot, mcall, iseq, irange1, irange2, sset, ssetO, sret, sdrop, snil, sif, gset, mmut, isL1, ssub, spar, evOs, setSls, slOf, sasg, gtup, gcons, gnil, mslice, osome, onone, mopL, mlensetA, misinst, mmt, kindD, saug, byes, q5, h]
  have q5 := joinG_bits (signs E j) (by rw [signs_len]; omega)
  refine runFn_rt (e1 := [.sh (plD E), .sh (wD j), .sh (.lst ((wayP E j).map nD)), .no]) ?_
  refine scons_nx (e1 := [.sh (plD E), .sh (wD j), .no, .no]) (t1 := t) ?_ (scons_nx (e1 := [.sh (plD E), .sh (wD j), .sh (.lst ((wayP E j).map nD)), .no]) (t1 := t) ?_ (sret_ev ?_))
  · simp [mop, ev2, ev1, evA, getA, look, slotOk, mcst, mvar, asB, mlst, mtup, mcons, mnil, mfn, mfnL, evN, evAs, getAs, mite, band, bor, bnot, mand, mor, mnot, mcall, iseq, irange1, irange2, sset, ssetO, sret, sdrop, snil, sif, gset, mmut, isL1, ssub, spar, evOs, setSls, slOf, sasg, gtup, gcons, gnil, mslice, osome, onone, mopL, mlensetA, misinst, mmt, kindD, saug, byes, pl_0, q1]
  · simp [mop, ev2, ev1, evA, getA, look, slotOk, mcst, mvar, asB, mlst, mtup, mcons, mnil, mfn, mfnL, evN, evAs, getAs, mite, band, bor, bnot, mand, mor, mnot, mcall, iseq, irange1, irange2, sset, ssetO, sret, sdrop, snil, sif, gset, mmut, isL1, ssub, spar, evOs, setSls, slOf, sasg, gtup, gcons, gnil, mslice, osome, onone, mopL, mlensetA, misinst, mmt, kindD, saug, byes, pl_0, q2, q3]
  · exact mmt_ee (Z := tz) (T := "str") (g := joinG) (m := mcst (.str "")) (d0 := .str "") rfl rfl q4 q5
end K38

namespace K38
open PySem L2 DL

theorem in_0110 (a b : Bool) : inD (.str (mkS [bit a, bit b])) (.tup [.str "01", .str "10"]) = some (.bl (a != b)) := by
  have o1 : PyData.strOk (mkS [bit a, bit b]) = true := mkS_ok fun c hc => by
    simp only [List.mem_cons, List.not_mem_nil, or_false] at hc
    rcases hc with rfl | rfl <;> exact bit_lt _
  have o2 : PyData.strOk ("01" : Str) = true := by decide +kernel
  have o3 : PyData.strOk ("10" : Str) = true := by decide +kernel
  have e : memD (.str (mkS [bit a, bit b])) [.str "01", .str "10"] = (a != b) := by
    simp only [memD, List.any_cons, List.any_nil, eqvD, s_01, s_10, mkS_beq]
    cases a <;> cases b <;> decide
  simp [inD, seqD, okD, o1, o2, o3, e]
theorem idx_sg (bs : List Bool) (i : Nat) (h : bs.length ≤ 1000) (hi : i < bs.length) : idxD (.str (sgS bs)) (nD i) = some (.str (mkS [bit bs[i]])) := by
  have hl : (sgS bs).length ≤ sizeLine := by
    unfold sgS
    rw [mkS_len, List.length_map]
    exact Nat.le_trans h (by decide)
  unfold idxD
  simp only [hl, if_true]
  unfold sgS
  rw [mkS_list, DL.atI_nat, List.getElem?_map, List.getElem?_eq_getElem hi]
  rfl
theorem len_sg (bs : List Bool) (h : bs.length ≤ 1000) : len1 [.str (sgS bs)] = some (nD bs.length) := by
  have hl : (sgS bs).length = bs.length := by unfold sgS; rw [mkS_len, List.length_map]
  have hz : bs.length ≤ sizeLine := Nat.le_trans h (by decide)
  simp only [len1, hl, hz, if_true]
theorem add_sg (a b : Bool) : addD (.str (mkS [bit a])) (.str (mkS [bit b])) = some (.str (mkS [bit a, bit b])) := by
  have hl : (mkS [bit a]).length + (mkS [bit b]).length ≤ sizeLine := by rw [mkS_len, mkS_len]; exact (by decide : 2 ≤ sizeLine)
  unfold addD
  simp only [hl, if_true, mkS_app]
  rfl
theorem agrees_run (as bs : List Bool) (h : as.length = bs.length) (hz : as.length ≤ 1000) (t : Tp) : f_agrees_with [.str (sgS as), .str (sgS bs)] t = some (.bl (decide (as = bs)), t) := by
  have b1 : ((as.length : Nat) : Int) < 4611686018427387904 := by omega
  have q4 : c_agrees_with_1 [.sh (.str (sgS as)), .sh (.str (sgS bs)), .no] t = some (.lst (((List.range as.length).map fun k => (as.getD k false != bs.getD k false)).map .bl), [.sh (.str (sgS as)), .sh (.str (sgS bs)), .no], t) := by
    unfold c_agrees_with_1
    rw [mlc_all (Z := tz) (e1 := [.sh (.str (sgS as)), .sh (.str (sgS bs)), .no]) (t1 := t) nD (fun k => .bl (as.getD k false != bs.getD k false)) (List.range as.length)]
    · rw [List.map_map]
      rfl
    · simp [mop, ev2, ev1, evA, getA, look, slotOk, mcst, mvar, asB, mlst, mtup, mcons, mnil, mfn, mfnL, evN, evAs, getAs, mite, band, bor, bnot, mand, mor, mnot, mcall, iseq, irange1, irange2, sset, ssetO, sret, sdrop, snil, sif, gset, mmut, isL1, ssub, spar, evOs, setSls, slOf, sasg, gtup, gcons, gnil, mslice, osome, onone, mopL, mlensetA, misinst, mmt, kindD, saug, byes, len_sg as hz, b1, range0]
    · rfl
    · simp; omega
    · intro k hk
      have hk := List.mem_range.mp hk
      refine ⟨[.sh (.str (sgS as)), .sh (.str (sgS bs)), .sh (nD k)], rfl, rfl, ?_⟩
      refine ⟨[.sh (.str (sgS as)), .sh (.str (sgS bs)), .sh (nD k)], ?_, rfl⟩
      unfold ce_agrees_with_1
      have i1 := idx_sg as k hz hk
      have i2 := idx_sg bs k (by omega) (by omega)
      have i3 : as.getD k false = as[k] := by rw [List.getD_eq_getElem?_getD, List.getElem?_eq_getElem hk]; rfl
      have i4 : bs.getD k false = bs[k]'(by omega) := by rw [List.getD_eq_getElem?_getD, List.getElem?_eq_getElem (by omega)]; rfl
      have i5 := add_sg as[k] (bs[k]'(by omega))
      have i6 := in_0110 as[k] (bs[k]'(by omega))
      rw [i3, i4]
      simp [mop, ev2, ev1, evA, getA, look, slotOk, mcst, mvar, asB, mlst, mtup, mcons, mnil, mfn, mfnL, evN, evAs, getAs, mite, band, bor, bnot, mand, mor, mnot, mcall, iseq, irange1, irange2, sset, ssetO, sret, sdrop, snil, sif, gset, mmut, isL1, ssub, spar, evOs, setSls, slOf, sasg, gtup, gcons, gnil, mslice, osome, onone, mopL, mlensetA, misinst, mmt, kindD, saug, byes, i1, i2, i5, i6]
  have q5 : any1 [.lst (((List.range as.length).map fun k => (as.getD k false != bs.getD k false)).map .bl)] = some (.bl (!decide (as = bs))) := by
    have e : ((List.range as.length).map fun k => (as.getD k false != bs.getD k false)).any id = !decide (as = bs) := by
      by_cases q : as = bs
      · subst q
        simp
      · rw [decide_eq_false q]
        simp only [Bool.not_false, List.any_map, List.any_eq_true]
        have : ∃ k, k < as.length ∧ as[k]? ≠ bs[k]? := by
          apply Classical.byContradiction
          intro no
          apply q
          apply List.ext_getElem?
          intro k
          apply Classical.byContradiction
          intro z
          by_cases hk : k < as.length
          · exact no ⟨k, hk, z⟩
          · rw [List.getElem?_eq_none (by omega), List.getElem?_eq_none (by omega)] at z
            exact z rfl
        obtain ⟨k, hk, z⟩ := this
        refine ⟨k, List.mem_range.mpr hk, ?_⟩
        simp only [Function.comp_apply, id_eq, bne_iff_ne, ne_eq]
        rw [List.getD_eq_getElem?_getD, List.getD_eq_getElem?_getD, List.getElem?_eq_getElem hk, List.getElem?_eq_getElem (by omega)] 
        intro w
        apply z
        rw [List.getElem?_eq_getElem hk, List.getElem?_eq_getElem (by omega)]
        simpa using w
    simp only [any1, blsD_map, Option.map_some, e]
  generalize ((List.range as.length).map fun k => (as.getD k false != bs.getD k false)).map D.bl = X at q4 q5
  refine runFn_rt (Z := tz) (e1 := [.sh (.str (sgS as)), .sh (.str (sgS bs)), .no]) ?_
  unfold m_agrees_with
  simp [mop, ev2, ev1, evA, getA, look, slotOk, mcst, mvar, asB, mlst, mtup, mcons, mnil, mfn, mfnL, evN, evAs, getAs, mite, band, bor, bnot, mand, mor, mnot, mcall, iseq, irange1, irange2, sset, ssetO, sret, sdrop, snil, sif, gset, mmut, isL1, ssub, spar, evOs, setSls, slOf, sasg, gtup, gcons, gnil, mslice, osome, onone, mopL, mlensetA, misinst, mmt, kindD, saug, byes, q4, q5]
/-! ### proper chains -/
structure Prop1 (E : Pl) : Prop where
  asc : Asc E
  h0 : E[0]? = some none
  hs : ∀ j, 0 < j → j < E.length → ∃ i, E[j]? = some (some i)
  le : E.length ≤ 7
theorem Prop1.pos {E : Pl} (h : Prop1 E) : 0 < E.length := (List.getElem?_eq_some_iff.mp h.h0).1
theorem self_mem {E : Pl} (h : Asc E) (j : Nat) : j ∈ wayP E j := by
  cases q : E[j]? with
  | none => unfold wayP; cases j with
    | zero => simp [wayL]
    | succ j => rw [wayL, q]; simp
  | some x => cases x with
    | none => rw [way_none q]; simp
    | some m => rw [way_some h q]; simp
theorem signs_inj {E : Pl} (h : Prop1 E) {i j : Nat} (hi : i < E.length) (hj : j < E.length) (e : signs E i = signs E j) : i = j := by
  have key : ∀ k, 1 ≤ k → k < E.length → (k ∈ wayP E i ↔ k ∈ wayP E j) := fun k h1 h2 => by
    unfold signs at e
    rw [List.map_inj_left] at e
    have := e k (by rw [List.mem_range'_1]; omega)
    simpa using this
  have a : ∀ {x y : Nat}, x < E.length → y < E.length → (∀ k, 1 ≤ k → k < E.length → (k ∈ wayP E x ↔ k ∈ wayP E y)) → x ≤ y := fun {x y} hx hy k => by
    by_cases z : x = 0
    · omega
    · exact way_mem h.asc y x hy ((k x (by omega) hx).mp (self_mem h.asc x))
  have b1 := a hi hj key
  have b2 := a hj hi fun k h1 h2 => (key k h1 h2).symm
  omega
theorem filter_one (n j : Nat) (h : j < n) (p : Nat → Bool) (hp : ∀ i, i < n → (p i = true ↔ i = j)) : (List.range n).filter p = [j] := by
  have e : (List.range n).filter p = (List.range n).filter (fun i => decide (i = j)) := by
    apply List.filter_congr
    intro i hi
    have := hp i (List.mem_range.mp hi)
    by_cases q : i = j
    · rw [decide_eq_true q, this.mpr q]
    · rw [decide_eq_false q]
      cases w : p i with
      | false => rfl
      | true => exact absurd (this.mp w) q
  rw [e]
  clear e hp p
  induction n with
  | zero => omega
  | succ n ih =>
    rw [List.range_succ, List.filter_append]
    by_cases q : j = n
    · subst q
      have : (List.range j).filter (fun i => decide (i = j)) = [] := by
        rw [List.filter_eq_nil_iff]
        intro i hi
        have := List.mem_range.mp hi
        simp; omega
      rw [this]
      simp
    · rw [ih (by omega)]
      simp
      omega
theorem possible_run {E : Pl} (h : Prop1 E) {j : Nat} (hj : j < E.length) (t : Tp) : f_possible [plD E, .str (sgS (signs E j))] t = some (.lst [wD j], t) := by
  have le := h.le
  have q : c_possible_1 [.sh (plD E), .sh (.str (sgS (signs E j))), .no] t = some (.lst [wD j], [.sh (plD E), .sh (.str (sgS (signs E j))), .no], t) := by
    unfold c_possible_1
    rw [mlc_map (Z := tz) (e1 := [.sh (plD E), .sh (.str (sgS (signs E j))), .no]) (t1 := t) wD (fun i => decide (signs E j = signs E i)) wD (List.range E.length)]
    · rw [filter_one E.length j hj _ fun i hi => ?_]
      · rfl
      · rw [decide_eq_true_iff]
        exact ⟨fun z => (signs_inj h hj hi z).symm, fun z => by rw [z]⟩
    · simp [mop, ev2, ev1, evA, getA, look, slotOk, mcst, mvar, asB, mlst, mtup, mcons, mnil, mfn, mfnL, evN, evAs, getAs, mite, band, bor, bnot, mand, mor, mnot, mcall, iseq, irange1, irange2, sset, ssetO, sret, sdrop, snil, sif, gset, mmut, isL1, ssub, spar, evOs, setSls, slOf, sasg, gtup, gcons, gnil, mslice, osome, onone, mopL, mlensetA, misinst, mmt, kindD, saug, byes, pl_0]
    · rfl
    · simp; omega
    · intro i hi
      have hi := List.mem_range.mp hi
      refine ⟨[.sh (plD E), .sh (.str (sgS (signs E j))), .sh (wD i)], rfl, rfl, ?_, fun _ => ⟨[.sh (plD E), .sh (.str (sgS (signs E j))), .sh (wD i)], rfl, rfl⟩⟩
      unfold ct_possible_1
      have r1 := signs_run h.asc hi (by omega) t
      have r2 := agrees_run (signs E j) (signs E i) (by rw [signs_len, signs_len]) (by rw [signs_len]; omega) t
      simp [mop, ev2, ev1, evA, getA, look, slotOk, mcst, mvar, asB, mlst, mtup, mcons, mnil, mfn, mfnL, evN, evAs, getAs, mite, band, bor, bnot, mand, mor, mnot, mcall, iseq, irange1, irange2, sset, ssetO, sret, sdrop, snil, sif, gset, mmut, isL1, ssub, spar, evOs, setSls, slOf, sasg, gtup, gcons, gnil, mslice, osome, onone, mopL, mlensetA, misinst, mmt, kindD, saug, byes, r1, r2]
  refine runFn_rt (Z := tz) (e1 := [.sh (plD E), .sh (.str (sgS (signs E j))), .no]) ?_
  unfold m_possible
  simp [mop, ev2, ev1, evA, getA, look, slotOk, mcst, mvar, asB, mlst, mtup, mcons, mnil, mfn, mfnL, evN, evAs, getAs, mite, band, bor, bnot, mand, mor, mnot, mcall, iseq, irange1, irange2, sset, ssetO, sret, sdrop, snil, sif, gset, mmut, isL1, ssub, spar, evOs, setSls, slOf, sasg, gtup, gcons, gnil, mslice, osome, onone, mopL, mlensetA, misinst, mmt, kindD, saug, byes, q]
end K38

namespace K38
open PySem L2 DL

structure PP (P : List Pl) : Prop where
  pr : ∀ (k : Nat) (E : Pl), P[k]? = some E → Prop1 E
  le : P.length ≤ 5
def pl (P : List Pl) (k : Nat) : Pl := P.getD k []
theorem pl_get {P : List Pl} {k : Nat} (h : k < P.length) : P[k]? = some (pl P k) := by
  unfold pl
  rw [List.getD_eq_getElem?_getD, List.getElem?_eq_getElem h]; rfl
theorem PP.at {P : List Pl} (h : PP P) {k : Nat} (hk : k < P.length) : Prop1 (pl P k) := h.pr k _ (pl_get hk)
theorem pl_le {P : List Pl} (h : PP P) (k : Nat) : (pl P k).length ≤ 7 := by
  by_cases hk : k < P.length
  · exact (h.at hk).le
  · unfold pl
    rw [List.getD_eq_getElem?_getD, List.getElem?_eq_none (by omega)]; simp
theorem ixP {P : List Pl} {k : Nat} (h : k < P.length) : idxD (psD P) (nD k) = some (plD (pl P k)) := by
  unfold psD
  rw [ixt, pl_get h]; rfl
theorem lenP (P : List Pl) : len1 [psD P] = some (nD P.length) := by simp [len1, psD]
theorem ixE {E : Pl} {j : Nat} (h : j < E.length) : idxD (.tup (E.map oD)) (nD j) = some (oD E[j]) := by rw [ixt, List.getElem?_eq_getElem h]; rfl
theorem ixW {n j : Nat} (h : j < n) : idxD (.tup ((List.range n).map wD)) (nD j) = some (wD j) := by
  rw [ixt, List.getElem?_eq_getElem (by simpa using h)]
  simp
def in1 (P : List Pl) (k : Nat) : List Nat := List.range' 1 ((pl P k).length - 1)
def cols (P : List Pl) : List (Nat × Nat) := (List.range P.length).flatMap fun k => (in1 P k).map fun j => (k, j)
def pD (x : Nat × Nat) : D := .tup [nD x.1, nD x.2]
theorem flat_le {A B : Type} (f : A → List B) (m : Nat) : ∀ (xs : List A), (∀ a ∈ xs, (f a).length ≤ m) → (xs.flatMap f).length ≤ m * xs.length
  | [], _ => by simp
  | x :: xs, h => by
    have a := h x List.mem_cons_self
    have b := flat_le f m xs fun a ha => h a (List.mem_cons_of_mem _ ha)
    rw [List.flatMap_cons, List.length_append, List.length_cons, Nat.mul_succ]
    omega
theorem cols_D (P : List Pl) : (cols P).map pD = (List.range P.length).flatMap fun k => (in1 P k).map fun j => D.tup [nD k, nD j] := by
  unfold cols
  rw [List.map_flatMap]
  congr 1
  funext k
  rw [List.map_map]
  rfl
theorem columns_run {P : List Pl} (h : PP P) (t : Tp) : f_columns [psD P] t = some (.lst ((cols P).map pD), t) := by
  have le := h.le
  have b1 : ((P.length : Nat) : Int) < 4611686018427387904 := by omega
  have q : c_columns_1 [.sh (psD P), .no, .no] t = some (.lst ((cols P).map pD), [.sh (psD P), .no, .no], t) := by
    unfold c_columns_1
    rw [mlc2_map (Z := tz) (e0 := [.sh (psD P), .no, .no]) (t0 := t) nD nD (in1 P) (fun a b => .tup [nD a, nD b]) (List.range P.length)]
    · rw [cols_D]
    · simp [mop, ev2, ev1, evA, getA, look, slotOk, mcst, mvar, asB, mlst, mtup, mcons, mnil, mfn, mfnL, evN, evAs, getAs, mite, band, bor, bnot, mand, mor, mnot, mcall, iseq, irange1, irange2, sset, ssetO, sret, sdrop, snil, sif, gset, mmut, isL1, ssub, spar, evOs, setSls, slOf, sasg, gtup, gcons, gnil, mslice, osome, onone, mopL, mlensetA, misinst, mmt, kindD, saug, byes, lenP, b1, range0]
    · rfl
    · have := flat_le (in1 P) 6 (List.range P.length) fun a _ => by
        have := pl_le h a
        simp [in1]; omega
      simp at this ⊢
      omega
    · intro k hk
      have hk := List.mem_range.mp hk
      refine ⟨[.sh (psD P), .sh (nD k), .no], [.sh (psD P), .sh (nD k), .no], rfl, ?_, rfl, fun j hj => ⟨[.sh (psD P), .sh (nD k), .sh (nD j)], rfl, rfl, [.sh (psD P), .sh (nD k), .sh (nD j)], ?_, rfl⟩⟩
      · have b2 := pl_le h k
        have b3 : (((pl P k).length : Nat) : Int) < 4611686018427387904 := by omega
        unfold cs_columns_1
        simp [mop, ev2, ev1, evA, getA, look, slotOk, mcst, mvar, asB, mlst, mtup, mcons, mnil, mfn, mfnL, evN, evAs, getAs, mite, band, bor, bnot, mand, mor, mnot, mcall, iseq, irange1, irange2, sset, ssetO, sret, sdrop, snil, sif, gset, mmut, isL1, ssub, spar, evOs, setSls, slOf, sasg, gtup, gcons, gnil, mslice, osome, onone, mopL, mlensetA, misinst, mmt, kindD, saug, byes, ixP hk, pl_0, len1, b3, sub1, range1, in1]
      · unfold ce_columns_1
        simp [mop, ev2, ev1, evA, getA, look, slotOk, mcst, mvar, asB, mlst, mtup, mcons, mnil, mfn, mfnL, evN, evAs, getAs, mite, band, bor, bnot, mand, mor, mnot, mcall, iseq, irange1, irange2, sset, ssetO, sret, sdrop, snil, sif, gset, mmut, isL1, ssub, spar, evOs, setSls, slOf, sasg, gtup, gcons, gnil, mslice, osome, onone, mopL, mlensetA, misinst, mmt, kindD, saug, byes]
  refine runFn_rt (Z := tz) (e1 := [.sh (psD P), .no, .no]) ?_
  unfold m_columns
  obtain ⟨C, hC⟩ : ∃ z, z = c_columns_1 := ⟨_, rfl⟩
  rw [← hC] at q ⊢
  clear hC
  simp [mop, ev2, ev1, evA, getA, look, slotOk, mcst, mvar, asB, mlst, mtup, mcons, mnil, mfn, mfnL, evN, evAs, getAs, mite, band, bor, bnot, mand, mor, mnot, mcall, iseq, irange1, irange2, sset, ssetO, sret, sdrop, snil, sif, gset, mmut, isL1, ssub, spar, evOs, setSls, slOf, sasg, gtup, gcons, gnil, mslice, osome, onone, mopL, mlensetA, misinst, mmt, kindD, saug, byes, q]
/-- the number of an error -/
def num (P : List Pl) (k j : Nat) : Nat := ((P.take k).map fun E => E.length - 1).sum + j - 1
theorem flatMap_congr' {A B : Type} {f g : A → List B} : ∀ {xs : List A}, (∀ a ∈ xs, f a = g a) → xs.flatMap f = xs.flatMap g
  | [], _ => rfl
  | x :: xs, h => by rw [List.flatMap_cons, List.flatMap_cons, h x List.mem_cons_self, flatMap_congr' fun a ha => h a (List.mem_cons_of_mem _ ha)]
theorem cols_app (P Q : List Pl) : cols (P ++ Q) = cols P ++ (cols Q).map fun x => (x.1 + P.length, x.2) := by
  unfold cols
  rw [List.length_append, List.range_add, List.flatMap_append, List.map_flatMap]
  congr 1
  · apply flatMap_congr'
    intro k hk
    have hk := List.mem_range.mp hk
    have : pl (P ++ Q) k = pl P k := by
      unfold pl
      rw [List.getD_eq_getElem?_getD, List.getD_eq_getElem?_getD, List.getElem?_append_left hk]
    unfold in1
    rw [this]
  · rw [List.flatMap_map]
    congr 1
    funext k
    have : pl (P ++ Q) (P.length + k) = pl Q k := by
      unfold pl
      rw [List.getD_eq_getElem?_getD, List.getD_eq_getElem?_getD, List.getElem?_append_right (by omega)]
      congr 2
      omega
    unfold in1
    rw [this, List.map_map]
    apply List.map_congr_left
    intro j _
    show (P.length + k, j) = (k + P.length, j)
    rw [Nat.add_comm]
theorem cols_one (E : Pl) : cols [E] = (List.range' 1 (E.length - 1)).map fun j => (0, j) := by
  simp [cols, in1, pl, List.range_succ]
theorem cols_len : ∀ P : List Pl, (cols P).length = (P.map fun E => E.length - 1).sum
  | [] => rfl
  | E :: P => by
    rw [show E :: P = [E] ++ P from rfl, cols_app, List.length_append, List.length_map, cols_len P, cols_one]
    simp
/-- the columns are the numbers, in order -/
theorem cols_num (P : List Pl) {k j : Nat} (hk : k < P.length) (h1 : 1 ≤ j) (h2 : j < (pl P k).length) : (cols P)[num P k j]? = some (k, j) := by
  have e : P = P.take k ++ ([pl P k] ++ P.drop (k + 1)) := by
    have : P.drop k = pl P k :: P.drop (k + 1) := by
      rw [List.drop_eq_getElem_cons hk]
      congr 1
      have := pl_get hk
      rw [List.getElem?_eq_getElem hk] at this
      simpa using this
    rw [List.singleton_append, ← this, List.take_append_drop]
  have hl : (P.take k).length = k := by rw [List.length_take]; omega
  have q : cols P = cols (P.take k) ++ (cols ([pl P k] ++ P.drop (k + 1))).map fun x => (x.1 + k, x.2) := by
    conv => lhs; rw [e]
    rw [cols_app, hl]
  have n : num P k j = (cols (P.take k)).length + (j - 1) := by
    unfold num
    rw [cols_len]
    omega
  rw [q, n, List.getElem?_append_right (by omega), Nat.add_sub_cancel_left, List.getElem?_map, cols_app, cols_one, List.getElem?_append_left (by simp; omega), List.getElem?_map, List.getElem?_range' (by omega)]
  simp
  omega
theorem num_lt (P : List Pl) {k j : Nat} (hk : k < P.length) (h1 : 1 ≤ j) (h2 : j < (pl P k).length) : num P k j < (cols P).length := by
  have := cols_num P hk h1 h2
  exact (List.getElem?_eq_some_iff.mp this).1
theorem number_run {P : List Pl} (h : PP P) (t : Tp) {n : Nat} (hn : n < (cols P).length) : f_number_of [psD P, nD n] t = some (pD (cols P)[n], t) := by
  have q := columns_run h t
  have i : idxD (.lst ((cols P).map pD)) (nD n) = some (pD (cols P)[n]) := by rw [ixl, List.getElem?_eq_getElem hn]; rfl
  generalize (cols P).map pD = X at q i
  refine runFn_rt (Z := tz) (e1 := [.sh (psD P), .sh (nD n)]) ?_
  unfold m_number_of
  obtain ⟨F, hF⟩ : ∃ z, z = f_columns := ⟨_, rfl⟩
  rw [← hF] at q ⊢
  clear hF
  simp [mop, ev2, ev1, evA, getA, look, slotOk, mcst, mvar, asB, mlst, mtup, mcons, mnil, mfn, mfnL, evN, evAs, getAs, mite, band, bor, bnot, mand, mor, mnot, mcall, iseq, irange1, irange2, sset, ssetO, sret, sdrop, snil, sif, gset, mmut, isL1, ssub, spar, evOs, setSls, slOf, sasg, gtup, gcons, gnil, mslice, osome, onone, mopL, mlensetA, misinst, mmt, kindD, saug, byes, q, i]
end K38

namespace K38
open PySem L2 DL

theorem cutD_take (xs : List D) (k : Nat) : cutD xs none (some (k : Int)) = xs.take k := by
  unfold cutD
  rw [HT.sIx_nat, HT.sIx_none, List.drop_zero, Nat.sub_zero]
  by_cases h : k ≤ xs.length
  · rw [Nat.min_eq_left h]
  · rw [Nat.min_eq_right (by omega), List.take_of_length_le (by omega), List.take_of_length_le (by omega)]
theorem sum_nats (xs : List Nat) : (xs.map fun n : Nat => (n : Int)).sum = (xs.sum : Nat) := by
  induction xs with
  | nil => rfl
  | cons x xs ih => simp [ih]
theorem lnum_run {P : List Pl} (h : PP P) {k j : Nat} (hk : k < P.length) (hj : 1 ≤ j) (t : Tp) : f__law_number [psD P, nD k, nD j] t = some (nD (num P k j), t) := by
  have le := h.le
  have e1 : sliceD (psD P) none (some (k : Int)) = some (.tup ((P.take k).map plD)) := by
    show some (D.tup (cutD (P.map plD) none (some (k : Int)))) = _
    rw [cutD_take, List.map_take]
  have q : c__law_number_1 [.sh (psD P), .sh (nD k), .sh (nD j), .no] t = some (.lst (((P.take k).map fun E => ((E.length - 1 : Nat) : Int)).map .int), [.sh (psD P), .sh (nD k), .sh (nD j), .no], t) := by
    unfold c__law_number_1
    rw [mlc_all (Z := tz) (e1 := [.sh (psD P), .sh (nD k), .sh (nD j), .no]) (t1 := t) plD (fun E => .int ((E.length - 1 : Nat) : Int)) (P.take k)]
    · rw [List.map_map]; rfl
    · simp [mop, ev2, ev1, evA, getA, look, slotOk, mcst, mvar, asB, mlst, mtup, mcons, mnil, mfn, mfnL, evN, evAs, getAs, mite, band, bor, bnot, mand, mor, mnot, mcall, iseq, irange1, irange2, sset, ssetO, sret, sdrop, snil, sif, gset, mmut, isL1, ssub, spar, evOs, setSls, slOf, sasg, gtup, gcons, gnil, mslice, osome, onone, mopL, mlensetA, misinst, mmt, kindD, saug, byes, e1]
    · rfl
    · simp; omega
    · intro E hE
      obtain ⟨i, hi⟩ := List.getElem?_of_mem hE
      have hi' : P[i]? = some E := by
        rw [List.getElem?_take] at hi
        split at hi
        · exact hi
        · cases hi
      have pos := (h.pr i E hi').pos
      have z : ((E.length : Nat) : Int) - 1 = ((E.length - 1 : Nat) : Int) := by omega
      refine ⟨[.sh (psD P), .sh (nD k), .sh (nD j), .sh (plD E)], rfl, rfl, [.sh (psD P), .sh (nD k), .sh (nD j), .sh (plD E)], ?_, rfl⟩
      unfold ce__law_number_1
      simp [mop, ev2, ev1, evA, getA, look, slotOk, mcst, mvar, asB, mlst, mtup, mcons, mnil, mfn, mfnL, evN, evAs, getAs, mite, band, bor, bnot, mand, mor, mnot, mcall, iseq, irange1, irange2, sset, ssetO, sret, sdrop, snil, sif, gset, mmut, isL1, ssub, spar, evOs, setSls, slOf, sasg, gtup, gcons, gnil, mslice, osome, onone, mopL, mlensetA, misinst, mmt, kindD, saug, byes, pl_0, len1, subD, z]
  have q2 : sum1 [.lst (((P.take k).map fun E => ((E.length - 1 : Nat) : Int)).map .int)] = some (.int (((P.take k).map fun E => E.length - 1).sum : Nat)) := by
    have := sum_nats ((P.take k).map fun E => E.length - 1)
    rw [List.map_map] at this
    simp only [sum1, intsD_map, Option.map_some]
    rw [← this]
    rfl
  have z : ((((P.take k).map fun E => E.length - 1).sum : Nat) : Int) + (j : Int) - 1 = ((num P k j : Nat) : Int) := by unfold num; omega
  generalize ((P.take k).map fun E => ((E.length - 1 : Nat) : Int)).map D.int = X at q q2
  generalize ((P.take k).map fun E => E.length - 1).sum = s0 at q2 z
  refine runFn_at (Z := tz) (e1 := [.sh (psD P), .sh (nD k), .sh (nD j), .no]) [.sh (psD P), .sh (nD k), .sh (nD j), .no] rfl ?_
  unfold m__law_number
  obtain ⟨C, hC⟩ : ∃ z, z = c__law_number_1 := ⟨_, rfl⟩
  rw [← hC] at q ⊢
  clear hC
  simp [mop, ev2, ev1, evA, getA, look, slotOk, mcst, mvar, asB, mlst, mtup, mcons, mnil, mfn, mfnL, evN, evAs, getAs, mite, band, bor, bnot, mand, mor, mnot, mcall, iseq, irange1, irange2, sset, ssetO, sret, sdrop, snil, sif, gset, mmut, isL1, ssub, spar, evOs, setSls, slOf, sasg, gtup, gcons, gnil, mslice, osome, onone, mopL, mlensetA, misinst, mmt, kindD, saug, byes, q, q2, addD, subD, z]
/-! ### rows -/
def rowL (P : List Pl) (js : List Nat) : List (List Bool) := (List.range P.length).map fun k => signs (pl P k) (js.getD k 0)
structure Rd (P : List Pl) (js : List Nat) : Prop where
  len : js.length = P.length
  lt : ∀ k, k < P.length → js.getD k 0 < (pl P k).length
def rdD (js : List Nat) : D := .lst (js.map wD)
theorem rd_get {P : List Pl} {js : List Nat} (h : Rd P js) {k : Nat} (hk : k < P.length) : idxD (rdD js) (nD k) = some (wD (js.getD k 0)) := by
  unfold rdD
  rw [ixl, List.getD_eq_getElem?_getD, List.getElem?_eq_getElem (by rw [h.len]; exact hk)]
  rfl
theorem flat_len (f : Nat → List Bool) (m : Nat) : ∀ (xs : List Nat), (∀ a ∈ xs, (f a).length ≤ m) → ((xs.map f).flatten).length ≤ m * xs.length
  | [], _ => by simp
  | x :: xs, h => by
    have a := h x List.mem_cons_self
    have b := flat_len f m xs fun a ha => h a (List.mem_cons_of_mem _ ha)
    rw [List.map_cons, List.flatten_cons, List.length_append, List.length_cons, Nat.mul_succ]
    omega
theorem rowL_le {P : List Pl} (h : PP P) (js : List Nat) : ((rowL P js).flatten).length ≤ 30 := by
  have le := h.le
  have := flat_len (fun k => signs (pl P k) (js.getD k 0)) 6 (List.range P.length) fun a _ => by
    have := pl_le h a
    rw [signs_len]; omega
  rw [List.length_range] at this
  unfold rowL
  omega
theorem join_sg (bss : List (List Bool)) (h : (bss.flatten).length ≤ 1000) : joinG (.str "") [.lst ((bss.map sgS).map .str)] = some (.str (sgS bss.flatten)) := by
  have z : ((bss.map sgS).map (·.length)).sum + (bss.map sgS).length * (mkS []).length ≤ 16777216 := by
    have e : ((bss.map sgS).map (·.length)).sum = (bss.flatten).length := by
      clear h
      induction bss with
      | nil => rfl
      | cons b bss ih =>
        simp only [List.map_cons, List.sum_cons, ih, List.flatten_cons, List.length_append]
        congr 1
        unfold sgS
        rw [mkS_len, List.length_map]
    rw [e, mkS_len]
    simp only [List.length_nil, Nat.mul_zero, Nat.add_zero]
    omega
  have j : Str.join (mkS []) (bss.map sgS) = sgS bss.flatten := by
    have := join_mkS (bss.map (List.map bit))
    rw [List.map_map] at this
    rw [show bss.map sgS = bss.map (mkS ∘ List.map bit) from rfl, this]
    unfold sgS
    rw [List.map_flatten]
  simp only [joinG, seqD, strsD_map, s_emp, z, if_true, j]
theorem row_run {P : List Pl} (h : PP P) {js : List Nat} (hr : Rd P js) (t : Tp) : f_row_of_readings [psD P, rdD js] t = some (.str (sgS (rowL P js).flatten), t) := by
  have le := h.le
  have b1 : ((P.length : Nat) : Int) < 4611686018427387904 := by omega
  have q : c_row_of_readings_1 [.sh (psD P), .sh (rdD js), .no] t = some (.lst (((rowL P js).map sgS).map .str), [.sh (psD P), .sh (rdD js), .no], t) := by
    unfold c_row_of_readings_1
    rw [mlc_all (Z := tz) (e1 := [.sh (psD P), .sh (rdD js), .no]) (t1 := t) nD (fun k => .str (sgS (signs (pl P k) (js.getD k 0)))) (List.range P.length)]
    · unfold rowL
      rw [List.map_map, List.map_map]
      rfl
    · simp [mop, ev2, ev1, evA, getA, look, slotOk, mcst, mvar, asB, mlst, mtup, mcons, mnil, mfn, mfnL, evN, evAs, getAs, mite, band, bor, bnot, mand, mor, mnot, mcall, iseq, irange1, irange2, sset, ssetO, sret, sdrop, snil, sif, gset, mmut, isL1, ssub, spar, evOs, setSls, slOf, sasg, gtup, gcons, gnil, mslice, osome, onone, mopL, mlensetA, misinst, mmt, kindD, saug, byes, lenP, b1, range0]
    · rfl
    · simp; omega
    · intro k hk
      have hk := List.mem_range.mp hk
      refine ⟨[.sh (psD P), .sh (rdD js), .sh (nD k)], rfl, rfl, [.sh (psD P), .sh (rdD js), .sh (nD k)], ?_, rfl⟩
      have r := signs_run (h.at hk).asc (hr.lt k hk) (by have := (h.at hk).le; omega) t
      have i1 := rd_get hr hk
      show ce_row_of_readings_1 _ t = some (.str (sgS (signs (pl P k) (js.getD k 0))), _, t)
      generalize js.getD k 0 = j' at i1 r ⊢
      unfold ce_row_of_readings_1
      obtain ⟨F, hF⟩ : ∃ z, z = f_signs_of := ⟨_, rfl⟩
      rw [← hF] at r ⊢
      clear hF
      simp [mop, ev2, ev1, evA, getA, look, slotOk, mcst, mvar, asB, mlst, mtup, mcons, mnil, mfn, mfnL, evN, evAs, getAs, mite, band, bor, bnot, mand, mor, mnot, mcall, iseq, irange1, irange2, sset, ssetO, sret, sdrop, snil, sif, gset, mmut, isL1, ssub, spar, evOs, setSls, slOf, sasg, gtup, gcons, gnil, mslice, osome, onone, mopL, mlensetA, misinst, mmt, kindD, saug, byes, ixP hk, i1, r]
  have j := join_sg (rowL P js) (by have := rowL_le h js; omega)
  refine runFn_at (Z := tz) (e1 := [.sh (psD P), .sh (rdD js), .no]) [.sh (psD P), .sh (rdD js), .no] rfl ?_
  unfold m_row_of_readings
  exact sret_ev (Z := tz) (mmt_ee (Z := tz) (T := "str") (g := joinG) (m := mcst (.str "")) (d0 := .str "") rfl rfl q j)
/-! ### the parts of a row -/
def offs (P : List Pl) (k : Nat) : Nat := ((P.take k).map fun E => E.length - 1).sum
theorem offs_succ {P : List Pl} {k : Nat} (hk : k < P.length) : offs P (k + 1) = offs P k + ((pl P k).length - 1) := by
  unfold offs
  have : P[k] = pl P k := by
    have := pl_get hk
    rw [List.getElem?_eq_getElem hk] at this
    simpa using this
  rw [List.take_succ_eq_append_getElem hk, List.map_append, List.sum_append, this]
  simp
theorem cut_sg (bs : List Bool) (lo hi : Nat) (h1 : lo ≤ hi) (h2 : hi ≤ bs.length) (hz : bs.length ≤ 1000) : sliceD (.str (sgS bs)) (some (lo : Int)) (some (hi : Int)) = some (.str (sgS ((bs.drop lo).take (hi - lo)))) := by
  have hl : (sgS bs).length = bs.length := by unfold sgS; rw [mkS_len, List.length_map]
  have hs : bs.length ≤ sizeLine := Nat.le_trans hz (by decide)
  simp only [sliceD, hl, hs, if_true]
  unfold cutS
  rw [hl, HT.sIx_nat, HT.sIx_nat, Nat.min_eq_left h2, Nat.min_eq_left (Nat.le_trans h1 h2)]
  unfold sgS
  rw [mkS_list, ← List.map_drop, ← List.map_take]
  rfl
theorem parts_at (P : List Pl) (js : List Nat) : ∀ k, k < P.length → (((rowL P js).flatten).drop (offs P k)).take ((pl P k).length - 1) = signs (pl P k) (js.getD k 0) := by
  intro k hk
  have e : rowL P js = (rowL P js).take k ++ (signs (pl P k) (js.getD k 0) :: (rowL P js).drop (k + 1)) := by
    have hl : (rowL P js).length = P.length := by simp [rowL]
    have hk' : k < (rowL P js).length := by omega
    have : (rowL P js).drop k = signs (pl P k) (js.getD k 0) :: (rowL P js).drop (k + 1) := by
      rw [List.drop_eq_getElem_cons hk']
      congr 1
      simp [rowL]
    rw [← this, List.take_append_drop]
  have hlen : (((rowL P js).take k).flatten).length = offs P k := by
    unfold offs rowL
    rw [← List.map_take, List.length_flatten, List.map_map, List.take_range, Nat.min_eq_left (by omega)]
    congr 1
    apply List.ext_getElem?
    intro i
    rw [List.getElem?_map, List.getElem?_map, List.getElem?_take]
    by_cases hi : i < k
    · rw [if_pos hi, List.getElem?_range (by omega), pl_get (by omega)]
      simp [signs_len]
    · rw [if_neg hi, List.getElem?_eq_none (by simpa using hi)]
      rfl
  rw [e, List.flatten_append, List.drop_append_of_le_length (by omega), List.drop_of_length_le (by omega), List.nil_append, List.flatten_cons]
  rw [List.take_append_of_le_length (by rw [signs_len]; exact Nat.le_refl _), List.take_of_length_le (by rw [signs_len]; exact Nat.le_refl _)]
theorem offs_le (P : List Pl) (js : List Nat) : ∀ k, k ≤ P.length → offs P k ≤ ((rowL P js).flatten).length := by
  intro k hk
  have : ((rowL P js).flatten).length = offs P P.length := by
    unfold offs rowL
    rw [List.length_flatten, List.map_map, List.take_length]
    congr 1
    apply List.ext_getElem?
    intro i
    rw [List.getElem?_map, List.getElem?_map]
    by_cases hi : i < P.length
    · rw [List.getElem?_range hi, pl_get hi]
      simp [signs_len]
    · rw [List.getElem?_eq_none (by simpa using hi), List.getElem?_eq_none (by omega)]
      rfl
  rw [this]
  unfold offs
  have mono : ∀ (xs : List Nat) (a b : Nat), a ≤ b → (xs.take a).sum ≤ (xs.take b).sum := by
    intro xs
    induction xs with
    | nil => intro a b _; simp
    | cons x xs ih =>
      intro a b hab
      cases a with
      | zero => simp
      | succ a =>
        cases b with
        | zero => omega
        | succ b =>
          have := ih a b (by omega)
          simp only [List.take_succ_cons, List.sum_cons]
          omega
  rw [List.map_take, List.map_take]
  exact mono _ _ _ hk
end K38

namespace K38
open PySem L2 DL

def sgD (P : List Pl) (js : List Nat) (k : Nat) : D := .str (sgS (signs (pl P k) (js.getD k 0)))
theorem parts_run {P : List Pl} (h : PP P) (js : List Nat) (t0 : Tp) : f_parts_of [psD P, .str (sgS (rowL P js).flatten)] t0 = some (.lst ((List.range P.length).map (sgD P js)), t0) := by
  have le := h.le
  have rle := rowL_le h js
  have q : ∃ e' t', l_parts_of_1 [.sh (psD P), .sh (.str (sgS (rowL P js).flatten)), .ow 1 (.lst []), .sh (nD 0), .no] t0 = some (.nx, e', t') ∧ t' = t0 ∧ ∃ s3 x4, e' = [.sh (psD P), .sh (.str (sgS (rowL P js).flatten)), .ow 1 (.lst ((List.range P.length).map (sgD P js))), s3, x4] := by
    unfold l_parts_of_1
    have src : (iseq (mvar 0) : ML tz) [.sh (psD P), .sh (.str (sgS (rowL P js).flatten)), .ow 1 (.lst []), .sh (nD 0), .no] t0 = some (P.map plD, [.sh (psD P), .sh (.str (sgS (rowL P js).flatten)), .ow 1 (.lst []), .sh (nD 0), .no], t0) := rfl
    obtain ⟨e', t', l1, l2⟩ := forL_nx (Z := tz) (g := gset 4) (b := lb_parts_of_1) (ds := P.map plD) (e := [.sh (psD P), .sh (.str (sgS (rowL P js).flatten)), .ow 1 (.lst []), .sh (nD 0), .no]) (t := t0)
      (fun i e t => t = t0 ∧ ∃ x4, e = [.sh (psD P), .sh (.str (sgS (rowL P js).flatten)), .ow 1 (.lst ((List.range i).map (sgD P js))), .sh (nD (offs P i)), x4]) ⟨rfl, .no, by simp [offs]⟩ fun i d e t hd hi => by
        obtain ⟨rfl, x4, rfl⟩ := hi
        have hk : i < P.length := by
          have := (List.getElem?_eq_some_iff.mp hd).1
          simpa using this
        have ed : d = plD (pl P i) := by
          rw [List.getElem?_map, pl_get hk] at hd
          simpa using hd.symm
        subst ed
        refine ⟨_, rfl, .nx, [.sh (psD P), .sh (.str (sgS (rowL P js).flatten)), .ow 1 (.lst ((List.range (i + 1)).map (sgD P js))), .sh (nD (offs P (i + 1))), .sh (plD (pl P i))], t, ?_, .inl rfl, rfl, _, rfl⟩
        have pos := (h.at hk).pos
        have os := offs_succ hk
        have o1 := offs_le P js (i + 1) (by omega)
        have z : ((offs P i : Nat) : Int) + ((pl P i).length : Nat) - 1 = ((offs P (i + 1) : Nat) : Int) := by omega
        have z2 : ((offs P i : Nat) : Int) + (((pl P i).length : Nat) - 1 : Int) = ((offs P (i + 1) : Nat) : Int) := by omega
        have c := cut_sg (rowL P js).flatten (offs P i) (offs P (i + 1)) (by omega) o1 (by omega)
        have pa := parts_at P js i hk
        rw [show offs P (i + 1) - offs P i = (pl P i).length - 1 by omega, pa] at c
        have sl : ((List.range i).map (sgD P js)).length < sizeLine := by
          simp
          exact Nat.lt_of_lt_of_le hk (Nat.le_trans le (by decide))
        have ap : uAppend [sgD P js i] ((List.range i).map (sgD P js)) = some (.non, (List.range (i + 1)).map (sgD P js)) := by
          simp only [uAppend, sl, if_true]
          rw [List.range_succ, List.map_append]
          rfl
        have c' : sliceD (.str (sgS (rowL P js).flatten)) (some (offs P i : Int)) (some (offs P (i + 1) : Int)) = some (sgD P js i) := c
        generalize sgS (rowL P js).flatten = R at c' ⊢
        generalize (List.range i).map (sgD P js) = X at ap ⊢
        generalize (List.range (i + 1)).map (sgD P js) = Y at ap ⊢
        generalize sgD P js i = y at ap c'
        unfold lb_parts_of_1 scons
        simp [mop, ev2, ev1, evA, getA, look, slotOk, mcst, mvar, asB, mlst, mtup, mcons, mnil, mfn, mfnL, evN, evAs, getAs, mite, band, bor, bnot, mand, mor, mnot, mcall, iseq, irange1, irange2, sset, ssetO, sret, sdrop, snil, sif, gset, mmut, isL1, ssub, spar, evOs, setSls, slOf, sasg, gtup, gcons, gnil, mslice, osome, onone, mopL, mlensetA, misinst, mmt, kindD, saug, byes, pl_0, len1, addD, subD, z, z2, c', ap, addIS]
    refine ⟨e', t', ?_, l2.1, ?_⟩
    · exact sfor_nx (Z := tz) src l1
    · obtain ⟨x4, e4⟩ := l2.2
      rw [List.length_map] at e4
      exact ⟨_, x4, e4⟩
  obtain ⟨e', t', q1, rfl, s3, x4, rfl⟩ := q
  generalize sgS (rowL P js).flatten = R at q1 ⊢
  generalize (List.range P.length).map (sgD P js) = X at q1 ⊢
  refine runFn_at (Z := tz) (e1 := [.sh (psD P), .sh (.str R), .sh (.lst X), s3, x4]) [.sh (psD P), .sh (.str R), .no, .no, .no] rfl ?_
  refine scons_nx (Z := tz) (e1 := [.sh (psD P), .sh (.str R), .ow 1 (.lst []), .sh (nD 0), .no]) (t1 := t') rfl ?_
  exact scons_nx (Z := tz) q1 rfl
theorem rdof_run {P : List Pl} (h : PP P) {js : List Nat} (hr : Rd P js) (t : Tp) : f_readings_of [psD P, .str (sgS (rowL P js).flatten)] t = some (.lst ((List.range P.length).map fun k => .lst [wD (js.getD k 0)]), t) := by
  have le := h.le
  have b1 : ((P.length : Nat) : Int) < 4611686018427387904 := by omega
  have p := parts_run h js t
  generalize hX : (List.range P.length).map (sgD P js) = X at p
  generalize sgS (rowL P js).flatten = R at p ⊢
  have q : c_readings_of_1 [.sh (psD P), .sh (.str R), .sh (.lst X), .no] t = some (.lst ((List.range P.length).map fun k => .lst [wD (js.getD k 0)]), [.sh (psD P), .sh (.str R), .sh (.lst X), .no], t) := by
    unfold c_readings_of_1
    rw [mlc_all (Z := tz) (e1 := [.sh (psD P), .sh (.str R), .sh (.lst X), .no]) (t1 := t) nD (fun k => .lst [wD (js.getD k 0)]) (List.range P.length)]
    · simp [mop, ev2, ev1, evA, getA, look, slotOk, mcst, mvar, asB, mlst, mtup, mcons, mnil, mfn, mfnL, evN, evAs, getAs, mite, band, bor, bnot, mand, mor, mnot, mcall, iseq, irange1, irange2, sset, ssetO, sret, sdrop, snil, sif, gset, mmut, isL1, ssub, spar, evOs, setSls, slOf, sasg, gtup, gcons, gnil, mslice, osome, onone, mopL, mlensetA, misinst, mmt, kindD, saug, byes, lenP, b1, range0]
    · rfl
    · simp; omega
    · intro k hk
      have hk := List.mem_range.mp hk
      refine ⟨[.sh (psD P), .sh (.str R), .sh (.lst X), .sh (nD k)], rfl, rfl, [.sh (psD P), .sh (.str R), .sh (.lst X), .sh (nD k)], ?_, rfl⟩
      have r := possible_run (h.at hk) (hr.lt k hk) t
      have i1 : idxD (.lst X) (nD k) = some (.str (sgS (signs (pl P k) (js.getD k 0)))) := by
        rw [← hX, ixl, List.getElem?_range hk]; rfl
      show ce_readings_of_1 _ t = some (.lst [wD (js.getD k 0)], _, t)
      generalize js.getD k 0 = j' at i1 r ⊢
      unfold ce_readings_of_1
      obtain ⟨F, hF⟩ : ∃ z, z = f_possible := ⟨_, rfl⟩
      rw [← hF] at r ⊢
      clear hF
      simp [mop, ev2, ev1, evA, getA, look, slotOk, mcst, mvar, asB, mlst, mtup, mcons, mnil, mfn, mfnL, evN, evAs, getAs, mite, band, bor, bnot, mand, mor, mnot, mcall, iseq, irange1, irange2, sset, ssetO, sret, sdrop, snil, sif, gset, mmut, isL1, ssub, spar, evOs, setSls, slOf, sasg, gtup, gcons, gnil, mslice, osome, onone, mopL, mlensetA, misinst, mmt, kindD, saug, byes, ixP hk, i1, r]
  refine runFn_at (Z := tz) (e1 := [.sh (psD P), .sh (.str R), .sh (.lst X), .no]) [.sh (psD P), .sh (.str R), .no, .no] rfl ?_
  refine scons_nx (Z := tz) (e1 := [.sh (psD P), .sh (.str R), .sh (.lst X), .no]) (t1 := t) ?_ (sret_ev (Z := tz) q)
  obtain ⟨F, hF⟩ : ∃ z, z = f_parts_of := ⟨_, rfl⟩
  rw [← hF] at p ⊢
  clear hF
  simp [mop, ev2, ev1, evA, getA, look, slotOk, mcst, mvar, asB, mlst, mtup, mcons, mnil, mfn, mfnL, evN, evAs, getAs, mite, band, bor, bnot, mand, mor, mnot, mcall, iseq, irange1, irange2, sset, ssetO, sret, sdrop, snil, sif, gset, mmut, isL1, ssub, spar, evOs, setSls, slOf, sasg, gtup, gcons, gnil, mslice, osome, onone, mopL, mlensetA, misinst, mmt, kindD, saug, byes, p]
end K38

namespace K38
open PySem L2 DL

structure St (ps : Pl) (made : List (List Nat)) (seats : List Nat) : Prop where
  asc : Asc ps
  le : ps.length ≤ 200
  len : made.length = ps.length
  sz : ∀ r ∈ made, r.length ≤ 1000
  st : ∀ s ∈ seats, s < ps.length
  sle : seats.length ≤ 1000
def rowOf (made : List (List Nat)) (n : Nat) : List Nat := made.getD n []
theorem row_get {made : List (List Nat)} {n : Nat} (h : n < made.length) : made[n]? = some (rowOf made n) := by
  unfold rowOf
  rw [List.getD_eq_getElem?_getD, List.getElem?_eq_getElem h]; rfl
theorem St.row_le {ps : Pl} {made : List (List Nat)} {seats : List Nat} (h : St ps made seats) (n : Nat) : (rowOf made n).length ≤ 1000 := by
  by_cases q : n < made.length
  · exact h.sz _ (List.mem_of_getElem? (row_get q))
  · unfold rowOf
    rw [List.getD_eq_getElem?_getD, List.getElem?_eq_none (by omega)]; simp
theorem ixM {made : List (List Nat)} {n : Nat} (h : n < made.length) : idxD (.tup (made.map rowD)) (nD n) = some (.tup ((rowOf made n).map nD)) := by
  rw [ixt, row_get h]; rfl
theorem st1 (ps : Pl) (made : List (List Nat)) (seats : List Nat) : idxD (stD ps made seats) (.int 1) = some (.tup (ps.map oD)) := ix1 _ _ _
theorem st2 (ps : Pl) (made : List (List Nat)) (seats : List Nat) : idxD (stD ps made seats) (.int 2) = some (.tup (made.map rowD)) := ix2 _ _ _ _
theorem st3 (ps : Pl) (made : List (List Nat)) (seats : List Nat) : idxD (stD ps made seats) (.int 3) = some (.tup (seats.map nD)) := ix3 _ _ _ _ _
theorem st_way {ps : Pl} {made : List (List Nat)} {seats : List Nat} (h : St ps made seats) {n : Nat} (hn : n < ps.length) (t : Tp) : f_way [stD ps made seats, nD n] t = some (.lst ((wayP ps n).map nD), t) := way_run h.asc _ _ t hn h.le
def errs (ps : Pl) (made : List (List Nat)) (n : Nat) : List Nat := (wayP ps n).flatMap (rowOf made)
theorem nats_ints (xs : List Nat) : xs.map nD = (xs.map fun n : Nat => (n : Int)).map D.int := by rw [List.map_map]; rfl
def srtD (xs : List Nat) : D := .tup ((sortI (xs.map fun n : Nat => (n : Int))).map .int)
theorem readings_run {ps : Pl} {made : List (List Nat)} {seats : List Nat} (h : St ps made seats) {n : Nat} (hn : n < ps.length) (t : Tp) : f_readings [stD ps made seats, nD n] t = some (srtD (errs ps made n), t) := by
  have w := st_way h hn t
  have q : c_readings_1 [.sh (stD ps made seats), .sh (nD n), .no, .no] t = some (.lst ((errs ps made n).map nD), [.sh (stD ps made seats), .sh (nD n), .no, .no], t) := by
    unfold c_readings_1
    rw [mlc2_map (Z := tz) (e0 := [.sh (stD ps made seats), .sh (nD n), .no, .no]) (t0 := t) nD nD (rowOf made) (fun _ b => nD b) (wayP ps n)]
    · unfold errs
      rw [List.map_flatMap]
    · obtain ⟨F, hF⟩ : ∃ z, z = f_way := ⟨_, rfl⟩
      rw [← hF] at w ⊢
      clear hF
      simp [mop, ev2, ev1, evA, getA, look, slotOk, mcst, mvar, asB, mlst, mtup, mcons, mnil, mfn, mfnL, evN, evAs, getAs, mite, band, bor, bnot, mand, mor, mnot, mcall, iseq, irange1, irange2, sset, ssetO, sret, sdrop, snil, sif, gset, mmut, isL1, ssub, spar, evOs, setSls, slOf, sasg, gtup, gcons, gnil, mslice, osome, onone, mopL, mlensetA, misinst, mmt, kindD, saug, byes, w]
    · rfl
    · have a := flat_le (rowOf made) 1000 (wayP ps n) fun a _ => h.row_le a
      have b := way_len h.asc n
      have c := h.le
      have d : 1000 * (wayP ps n).length ≤ 1000 * 201 := Nat.mul_le_mul_left _ (by omega)
      omega
    · intro k hk
      have hk' : k < made.length := by have := way_mem h.asc n k hn hk; rw [h.len]; omega
      refine ⟨[.sh (stD ps made seats), .sh (nD n), .sh (nD k), .no], [.sh (stD ps made seats), .sh (nD n), .sh (nD k), .no], rfl, ?_, rfl, fun j hj => ⟨[.sh (stD ps made seats), .sh (nD n), .sh (nD k), .sh (nD j)], rfl, rfl, [.sh (stD ps made seats), .sh (nD n), .sh (nD k), .sh (nD j)], rfl, rfl⟩⟩
      have i := ixM hk'
      unfold cs_readings_1
      simp [mop, ev2, ev1, evA, getA, look, slotOk, mcst, mvar, asB, mlst, mtup, mcons, mnil, mfn, mfnL, evN, evAs, getAs, mite, band, bor, bnot, mand, mor, mnot, mcall, iseq, irange1, irange2, sset, ssetO, sret, sdrop, snil, sif, gset, mmut, isL1, ssub, spar, evOs, setSls, slOf, sasg, gtup, gcons, gnil, mslice, osome, onone, mopL, mlensetA, misinst, mmt, kindD, saug, byes, st2, i]
  have s : sortedI1 [.lst ((errs ps made n).map nD)] = some ((sortI ((errs ps made n).map fun n : Nat => (n : Int))).map .int) := by
    rw [nats_ints]
    simp only [sortedI1, intsD_map]
  refine runFn_at (Z := tz) (e1 := [.sh (stD ps made seats), .sh (nD n), .no, .no]) [.sh (stD ps made seats), .sh (nD n), .no, .no] rfl ?_
  unfold m_readings
  unfold srtD
  generalize (errs ps made n).map nD = X at q s
  generalize (sortI ((errs ps made n).map fun n : Nat => (n : Int))).map D.int = Y at s ⊢
  obtain ⟨C, hC⟩ : ∃ z, z = c_readings_1 := ⟨_, rfl⟩
  rw [← hC] at q ⊢
  clear hC
  simp [mop, ev2, ev1, evA, getA, look, slotOk, mcst, mvar, asB, mlst, mtup, mcons, mnil, mfn, mfnL, evN, evAs, getAs, mite, band, bor, bnot, mand, mor, mnot, mcall, iseq, irange1, irange2, sset, ssetO, sret, sdrop, snil, sif, gset, mmut, isL1, ssub, spar, evOs, setSls, slOf, sasg, gtup, gcons, gnil, mslice, osome, onone, mopL, mlensetA, misinst, mmt, kindD, saug, byes, q, s, tuple1]
theorem in_srt (k : Nat) (xs : List Nat) : inD (nD k) (srtD xs) = some (.bl (decide (k ∈ xs))) := by
  have key : ∀ ns : List Int, inD (nD k) (.tup (ns.map .int)) = some (.bl (decide ((k : Int) ∈ ns))) := fun ns => by
    have o2 : ((ns.map D.int).all (okD 30)) = true := by
      rw [List.all_eq_true]
      intro x hx
      obtain ⟨i, _, rfl⟩ := List.mem_map.mp hx
      simp [okD]
    have m : memD (nD k) (ns.map D.int) = decide ((k : Int) ∈ ns) := by
      unfold memD
      rw [List.any_map]
      by_cases h : (k : Int) ∈ ns
      · rw [decide_eq_true h, List.any_eq_true]
        exact ⟨_, h, by simp [eqvD]⟩
      · rw [decide_eq_false h, List.any_eq_false]
        intro i hi
        simp [eqvD]
        intro z
        exact h (z ▸ hi)
    simp [inD, seqD, o2, m, okD]
  unfold srtD
  rw [key]
  have : ((k : Int) ∈ sortI (xs.map fun n : Nat => (n : Int))) ↔ k ∈ xs := by
    rw [(sortI_perm _).mem_iff, List.mem_map]
    constructor
    · rintro ⟨i, hi, e⟩
      have : i = k := by omega
      exact this ▸ hi
    · intro hk
      exact ⟨k, hk, rfl⟩
  simp only [this]
def bitsOf (ps : Pl) (made : List (List Nat)) (many s : Nat) : List Bool := (List.range many).map fun e => decide (e ∈ errs ps made s)
theorem shown_run {ps : Pl} {made : List (List Nat)} {seats : List Nat} (h : St ps made seats) (names : List D) {many : Nat} (hm : many ≤ 1000) (t0 : Tp) :
    f_shown [stD ps made seats, .tup names, nD many] t0 = some (.tup [.str "table", .tup names, .tup (seats.map fun s => .str (sgS (bitsOf ps made many s)))], t0) := by
  have b1 : ((many : Nat) : Int) < 4611686018427387904 := by omega
  have q : ∃ x4 x5, l_shown_1 [.sh (stD ps made seats), .sh (.tup names), .sh (nD many), .ow 1 (.lst []), .no, .no, .no] t0 = some (.nx, [.sh (stD ps made seats), .sh (.tup names), .sh (nD many), .ow 1 (.lst (seats.map fun s => .str (sgS (bitsOf ps made many s)))), x4, x5, .no], t0) := by
    obtain ⟨e', t', l1, rfl, x4, x5, rfl⟩ := forL_nx (Z := tz) (g := gset 4) (b := lb_shown_1) (ds := seats.map nD) (e := [.sh (stD ps made seats), .sh (.tup names), .sh (nD many), .ow 1 (.lst []), .no, .no, .no]) (t := t0)
      (fun i e t => t = t0 ∧ ∃ x4 x5 : Sl, e = [.sh (stD ps made seats), .sh (.tup names), .sh (nD many), .ow 1 (.lst ((seats.take i).map fun s => .str (sgS (bitsOf ps made many s)))), x4, x5, .no]) ⟨rfl, .no, .no, rfl⟩ fun i d e t hd hi => by
        obtain ⟨rfl, x4, x5, rfl⟩ := hi
        have hk : i < seats.length := by
          have := (List.getElem?_eq_some_iff.mp hd).1
          simpa using this
        have ed : d = nD seats[i] := by
          rw [List.getElem?_map, List.getElem?_eq_getElem hk] at hd
          simpa using hd.symm
        subst ed
        have hs := h.st _ (List.getElem_mem hk)
        have r := readings_run h hs t
        have hsl := h.sle
        generalize hsi : seats[i] = s at r hs ⊢
        refine ⟨_, rfl, .nx, [.sh (stD ps made seats), .sh (.tup names), .sh (nD many), .ow 1 (.lst ((seats.take (i + 1)).map fun s => .str (sgS (bitsOf ps made many s)))), .sh (nD s), .sh (srtD (errs ps made s)), .no], t, ?_, .inl rfl, rfl, _, _, rfl⟩
        have q : c_shown_1 [.sh (stD ps made seats), .sh (.tup names), .sh (nD many), .ow 1 (.lst ((seats.take i).map fun s => .str (sgS (bitsOf ps made many s)))), .sh (nD s), .sh (srtD (errs ps made s)), .no] t = some (.lst ((bitsOf ps made many s).map fun b => .str (if b then "1" else "0")), [.sh (stD ps made seats), .sh (.tup names), .sh (nD many), .ow 1 (.lst ((seats.take i).map fun s => .str (sgS (bitsOf ps made many s)))), .sh (nD s), .sh (srtD (errs ps made s)), .no], t) := by
          generalize (seats.take i).map (fun s => D.str (sgS (bitsOf ps made many s))) = X
          unfold c_shown_1
          rw [mlc_all (Z := tz) (e1 := [.sh (stD ps made seats), .sh (.tup names), .sh (nD many), .ow 1 (.lst X), .sh (nD s), .sh (srtD (errs ps made s)), .no]) (t1 := t) nD (fun k => .str (if decide (k ∈ errs ps made s) then "1" else "0")) (List.range many)]
          · unfold bitsOf
            rw [List.map_map]
            rfl
          · simp [mop, ev2, ev1, evA, getA, look, slotOk, mcst, mvar, asB, mlst, mtup, mcons, mnil, mfn, mfnL, evN, evAs, getAs, mite, band, bor, bnot, mand, mor, mnot, mcall, iseq, irange1, irange2, sset, ssetO, sret, sdrop, snil, sif, gset, mmut, isL1, ssub, spar, evOs, setSls, slOf, sasg, gtup, gcons, gnil, mslice, osome, onone, mopL, mlensetA, misinst, mmt, kindD, saug, byes, b1, range0]
          · rfl
          · simp; omega
          · intro k _
            refine ⟨[.sh (stD ps made seats), .sh (.tup names), .sh (nD many), .ow 1 (.lst X), .sh (nD s), .sh (srtD (errs ps made s)), .sh (nD k)], rfl, rfl, ?_⟩
            unfold ce_shown_1
            have q5 := in_srt k (errs ps made s)
            by_cases hh : k ∈ errs ps made s
            · refine ⟨[.sh (stD ps made seats), .sh (.tup names), .sh (nD many), .ow 1 (.lst X), .sh (nD s), .sh (srtD (errs ps made s)), .sh (nD k)], ?_, rfl⟩
              simp [mop, ev2, ev1, evA, getA, look, slotOk, mcst, mvar, asB, mlst, mtup, mcons, mnil, mfn, mfnL, evN, evAs, getAs, mite, band, bor, bnot, mand, mor, mnot, mcall, iseq, irange1, irange2, sset, ssetO, sret, sdrop, snil, sif, gset, mmut, isL1, ssub, spar, evOs, setSls, slOf, sasg, gtup, gcons, gnil, mslice, osome, onone, mopL, mlensetA, misinst, mmt, kindD, saug, byes, q5, hh]
            · refine ⟨[.sh (stD ps made seats), .sh (.tup names), .sh (nD many), .ow 1 (.lst X), .sh (nD s), .sh (srtD (errs ps made s)), .sh (nD k)], ?_, rfl⟩
              simp [mop, ev2, ev1, evA, getA, look, slotOk, mcst, mvar, asB, mlst, mtup, mcons, mnil, mfn, mfnL, evN, evAs, getAs, mite, band, bor, bnot, mand, mor, mnot, mcall, iseq, irange1, irange2, sset, ssetO, sret, sdrop, snil, sif, gset, mmut, isL1, ssub, spar, evOs, setSls, slOf, sasg, gtup, gcons, gnil, mslice, osome, onone, mopL, mlensetA, misinst, mmt, kindD, saug, byes, q5, hh]
        have j := joinG_bits (bitsOf ps made many s) (by simp [bitsOf]; omega)
        have m := mmt_ee (Z := tz) (T := "str") (g := joinG) (m := mcst (.str "")) (d0 := .str "") rfl rfl q j
        have sl : ((seats.take i).map fun s => D.str (sgS (bitsOf ps made many s))).length < sizeLine := by
          simp
          exact Nat.lt_of_le_of_lt (Nat.min_le_left _ _) (Nat.lt_of_lt_of_le hk (Nat.le_trans hsl (by decide)))
        have ap : uAppend [.str (sgS (bitsOf ps made many s))] ((seats.take i).map fun s => D.str (sgS (bitsOf ps made many s))) = some (.non, (seats.take (i + 1)).map fun s => .str (sgS (bitsOf ps made many s))) := by
          simp only [uAppend, sl, if_true]
          rw [List.take_succ_eq_append_getElem hk, List.map_append, hsi]
          rfl
        unfold lb_shown_1
        generalize (seats.take i).map (fun s => D.str (sgS (bitsOf ps made many s))) = X at m ap ⊢
        generalize (seats.take (i + 1)).map (fun s => D.str (sgS (bitsOf ps made many s))) = Y at ap ⊢
        generalize D.str (sgS (bitsOf ps made many s)) = y at m ap
        refine scons_nx (Z := tz) (e1 := [.sh (stD ps made seats), .sh (.tup names), .sh (nD many), .ow 1 (.lst X), .sh (nD s), .sh (srtD (errs ps made s)), .no]) (t1 := t) ?_ ?_
        · obtain ⟨F, hF⟩ : ∃ z, z = f_readings := ⟨_, rfl⟩
          rw [← hF] at r ⊢
          clear hF
          simp [mop, ev2, ev1, evA, getA, look, slotOk, mcst, mvar, asB, mlst, mtup, mcons, mnil, mfn, mfnL, evN, evAs, getAs, mite, band, bor, bnot, mand, mor, mnot, mcall, iseq, irange1, irange2, sset, ssetO, sret, sdrop, snil, sif, gset, mmut, isL1, ssub, spar, evOs, setSls, slOf, sasg, gtup, gcons, gnil, mslice, osome, onone, mopL, mlensetA, misinst, mmt, kindD, saug, byes, r]
        · obtain ⟨C, hC⟩ : ∃ z, z = (mmt "str" joinG (.e (mcst (.str ""))) [(.e c_shown_1)] : M tz) := ⟨_, rfl⟩
          rw [← hC] at m ⊢
          clear hC
          simp [mop, ev2, ev1, evA, getA, look, slotOk, mcst, mvar, asB, mlst, mtup, mcons, mnil, mfn, mfnL, evN, evAs, getAs, mite, band, bor, bnot, mand, mor, mnot, mcall, iseq, irange1, irange2, sset, ssetO, sret, sdrop, snil, sif, gset, mmut, isL1, ssub, spar, evOs, setSls, slOf, sasg, gtup, gcons, gnil, mslice, osome, onone, mopL, mlensetA, misinst, mmt, kindD, saug, byes, m, ap]
    rw [List.length_map, List.take_length] at l1
    refine ⟨x4, x5, ?_⟩
    unfold l_shown_1
    refine sfor_nx (Z := tz) (e1 := [.sh (stD ps made seats), .sh (.tup names), .sh (nD many), .ow 1 (.lst []), .no, .no, .no]) (t1 := t') (ds := seats.map nD) ?_ l1
    simp [mop, ev2, ev1, evA, getA, look, slotOk, mcst, mvar, asB, mlst, mtup, mcons, mnil, mfn, mfnL, evN, evAs, getAs, mite, band, bor, bnot, mand, mor, mnot, mcall, iseq, irange1, irange2, sset, ssetO, sret, sdrop, snil, sif, gset, mmut, isL1, ssub, spar, evOs, setSls, slOf, sasg, gtup, gcons, gnil, mslice, osome, onone, mopL, mlensetA, misinst, mmt, kindD, saug, byes, st3]
  obtain ⟨x4, x5, q⟩ := q
  generalize (seats.map fun s => D.str (sgS (bitsOf ps made many s))) = X at q ⊢
  refine runFn_at (Z := tz) (e1 := [.sh (stD ps made seats), .sh (.tup names), .sh (nD many), .ow 1 (.lst X), x4, x5, .no]) [.sh (stD ps made seats), .sh (.tup names), .sh (nD many), .no, .no, .no, .no] rfl ?_
  refine scons_nx (Z := tz) (e1 := [.sh (stD ps made seats), .sh (.tup names), .sh (nD many), .ow 1 (.lst []), .no, .no, .no]) (t1 := t0) rfl ?_
  refine scons_nx (Z := tz) q ?_
  simp [mop, ev2, ev1, evA, getA, look, slotOk, mcst, mvar, asB, mlst, mtup, mcons, mnil, mfn, mfnL, evN, evAs, getAs, mite, band, bor, bnot, mand, mor, mnot, mcall, iseq, irange1, irange2, sset, ssetO, sret, sdrop, snil, sif, gset, mmut, isL1, ssub, spar, evOs, setSls, slOf, sasg, gtup, gcons, gnil, mslice, osome, onone, mopL, mlensetA, misinst, mmt, kindD, saug, byes, tuple1]
end K38

namespace K38
open PySem L2 DL

def col (P : List Pl) (e : Nat) : Nat × Nat := (cols P).getD e (0, 0)
theorem col_get {P : List Pl} {e : Nat} (h : e < (cols P).length) : (cols P)[e] = col P e := by
  unfold col
  rw [List.getD_eq_getElem?_getD, List.getElem?_eq_getElem h]; rfl
theorem col_mem {P : List Pl} {e : Nat} (h : e < (cols P).length) : (col P e).1 < P.length ∧ 1 ≤ (col P e).2 ∧ (col P e).2 < (pl P (col P e).1).length := by
  rw [← col_get h]
  have m := List.getElem_mem h
  generalize (cols P)[e] = x at m ⊢
  unfold cols at m
  rw [List.mem_flatMap] at m
  obtain ⟨k, hk, m⟩ := m
  rw [List.mem_map] at m
  obtain ⟨j, hj, m⟩ := m
  rw [← m]
  have hk := List.mem_range.mp hk
  unfold in1 at hj
  rw [List.mem_range'_1] at hj
  exact ⟨hk, hj.1, by show j < (pl P k).length; omega⟩
theorem ixN_nat {n k : Nat} (h : k < n) : ixN n (k : Int) = some k := by
  unfold ixN
  rw [if_pos (by omega), if_pos (by omega)]; simp
/-- one error read -/
def stepR (P : List Pl) (now : List (Option Nat)) (e : Nat) : List (Option Nat) := match now.getD (col P e).1 none with
  | some v => now.set (col P e).1 (if (pl P (col P e).1).getD (col P e).2 none = some v then some (col P e).2 else none)
  | none => now
theorem stepR_len (P : List Pl) (now : List (Option Nat)) (e : Nat) : (stepR P now e).length = now.length := by
  unfold stepR
  split
  · rw [List.length_set]
  · rfl
theorem foldR_len (P : List Pl) : ∀ (es : List Nat) (now : List (Option Nat)), (es.foldl (stepR P) now).length = now.length
  | [], _ => rfl
  | e :: es, now => by rw [List.foldl_cons, foldR_len P es, stepR_len]
theorem eq_o (x : Option Nat) (v : Nat) : eqD (oD x) (nD v) = some (.bl (decide (x = some v))) := by
  cases x with
  | none => simp [eqD, oD, scalD, eqvD]
  | some i =>
    have : (((i : Nat) : Int) == (v : Int)) = decide (i = v) := by
      by_cases q : i = v
      · subst q; simp
      · rw [decide_eq_false q]
        exact beq_eq_false_iff_ne.mpr fun z => q (by omega)
    simp [eqD, oD, scalD, eqvD, this]
theorem step_run {P : List Pl} (h : PP P) (S x2 x4 x6 x7 : Sl) {now : List (Option Nat)} (hn : now.length = P.length) {e : Nat} (he : e < (cols P).length) (t : Tp) :
    ∃ y6 y7, lb_read_at_1 [S, .sh (psD P), x2, .ow 1 (.lst (now.map oD)), x4, .sh (nD e), x6, x7] t = some (.nx, [S, .sh (psD P), x2, .ow 1 (.lst ((stepR P now e).map oD)), x4, .sh (nD e), y6, y7], t) := by
  have nr := number_run h t he
  obtain ⟨c1, c2, c3⟩ := col_mem he
  rw [col_get he] at nr
  unfold stepR
  generalize hc : col P e = kj at *
  obtain ⟨k, j⟩ := kj
  dsimp only at c1 c2 c3 nr ⊢
  have ek : now.getD k none = now[k]'(by omega) := by rw [List.getD_eq_getElem?_getD, List.getElem?_eq_getElem (by omega)]; rfl
  have ej : (pl P k).getD j none = (pl P k)[j] := by rw [List.getD_eq_getElem?_getD, List.getElem?_eq_getElem c3]; rfl
  have i1 : idxD (.lst (now.map oD)) (nD k) = some (oD (now[k]'(by omega))) := by rw [ixl, List.getElem?_eq_getElem (by omega)]; rfl
  have i2 := ixE c3
  have ix : ixN (now.map oD).length (k : Int) = some k := ixN_nat (by rw [List.length_map]; omega)
  refine ⟨.sh (nD k), .sh (nD j), ?_⟩
  rw [ek, ej]
  unfold lb_read_at_1
  refine scons_nx (Z := tz) (e1 := [S, .sh (psD P), x2, .ow 1 (.lst (now.map oD)), x4, .sh (nD e), .sh (nD k), .sh (nD j)]) (t1 := t) ?_ ?_
  · obtain ⟨F, hF⟩ : ∃ z, z = f_number_of := ⟨_, rfl⟩
    rw [← hF] at nr ⊢
    clear hF
    simp [mop, ev2, ev1, evA, getA, look, slotOk, mcst, mvar, asB, mlst, mtup, mcons, mnil, mfn, mfnL, evN, evAs, getAs, mite, band, bor, bnot, mand, mor, mnot, mcall, iseq, irange1, irange2, sset, ssetO, sret, sdrop, snil, sif, gset, mmut, isL1, ssub, spar, evOs, setSls, slOf, sasg, gtup, gcons, gnil, mslice, osome, onone, mopL, mlensetA, misinst, mmt, kindD, saug, byes, nr, pD]
  · cases hv : now[k]'(by omega) with
    | none =>
      rw [hv] at i1
      simp [mop, ev2, ev1, evA, getA, look, slotOk, mcst, mvar, asB, mlst, mtup, mcons, mnil, mfn, mfnL, evN, evAs, getAs, mite, band, bor, bnot, mand, mor, mnot, mcall, iseq, irange1, irange2, sset, ssetO, sret, sdrop, snil, sif, gset, mmut, isL1, ssub, spar, evOs, setSls, slOf, sasg, gtup, gcons, gnil, mslice, osome, onone, mopL, mlensetA, misinst, mmt, kindD, saug, byes, i1, oD, isntND, noTape, isNonD]
    | some v =>
      rw [hv] at i1
      have eq := eq_o (pl P k)[j] v
      generalize (pl P k)[j] = x at i2 eq ⊢
      dsimp only
      by_cases q : x = some v
      · rw [decide_eq_true q] at eq
        rw [if_pos q]
        have e2 : (now.set k (some j)).map oD = (now.map oD).set k (nD j) := by rw [List.map_set]; rfl
        rw [e2]
        generalize now.map oD = X at i1 ix ⊢
        generalize oD x = y at i2 eq
        have i1' : idxD (.lst X) (nD k) = some (nD v) := i1
        simp [mop, ev2, ev1, evA, getA, look, slotOk, mcst, mvar, asB, mlst, mtup, mcons, mnil, mfn, mfnL, evN, evAs, getAs, mite, band, bor, bnot, mand, mor, mnot, mcall, iseq, irange1, irange2, sset, ssetO, sret, sdrop, snil, sif, gset, mmut, isL1, ssub, spar, evOs, setSls, slOf, sasg, gtup, gcons, gnil, mslice, osome, onone, mopL, mlensetA, misinst, mmt, kindD, saug, byes, i1', isntND, noTape, isNonD, ixP c1, pl_1, i2, eq, ix]
      · rw [decide_eq_false q] at eq
        rw [if_neg q]
        have e2 : (now.set k none).map oD = (now.map oD).set k .non := by rw [List.map_set]; rfl
        rw [e2]
        generalize now.map oD = X at i1 ix ⊢
        generalize oD x = y at i2 eq
        have i1' : idxD (.lst X) (nD k) = some (nD v) := i1
        simp [mop, ev2, ev1, evA, getA, look, slotOk, mcst, mvar, asB, mlst, mtup, mcons, mnil, mfn, mfnL, evN, evAs, getAs, mite, band, bor, bnot, mand, mor, mnot, mcall, iseq, irange1, irange2, sset, ssetO, sret, sdrop, snil, sif, gset, mmut, isL1, ssub, spar, evOs, setSls, slOf, sasg, gtup, gcons, gnil, mslice, osome, onone, mopL, mlensetA, misinst, mmt, kindD, saug, byes, i1', isntND, noTape, isNonD, ixP c1, pl_1, i2, eq, ix]
theorem steps_run {P : List Pl} (h : PP P) {ps : Pl} {made : List (List Nat)} {seats : List Nat} (hs : St ps made seats) {s : Nat} (hsl : s < made.length) (x2 x5 x6 x7 : Sl) {now : List (Option Nat)} (hn : now.length = P.length) (he : ∀ e ∈ rowOf made s, e < (cols P).length) (t0 : Tp) :
    ∃ y5 y6 y7, lb_read_at_2 [.sh (stD ps made seats), .sh (psD P), x2, .ow 1 (.lst (now.map oD)), .sh (nD s), x5, x6, x7] t0 = some (.nx, [.sh (stD ps made seats), .sh (psD P), x2, .ow 1 (.lst (((rowOf made s).foldl (stepR P) now).map oD)), .sh (nD s), y5, y6, y7], t0) := by
  obtain ⟨e', t', l1, rfl, y5, y6, y7, rfl⟩ := forL_nx (Z := tz) (g := gset 5) (b := lb_read_at_1) (ds := (rowOf made s).map nD) (e := [.sh (stD ps made seats), .sh (psD P), x2, .ow 1 (.lst (now.map oD)), .sh (nD s), x5, x6, x7]) (t := t0)
    (fun i e t => t = t0 ∧ ∃ y5 y6 y7, e = [.sh (stD ps made seats), .sh (psD P), x2, .ow 1 (.lst ((((rowOf made s).take i).foldl (stepR P) now).map oD)), .sh (nD s), y5, y6, y7]) ⟨rfl, x5, x6, x7, rfl⟩ fun i d e t hd hi => by
      obtain ⟨rfl, y5, y6, y7, rfl⟩ := hi
      have hk : i < (rowOf made s).length := by
        have := (List.getElem?_eq_some_iff.mp hd).1
        simpa using this
      have ed : d = nD (rowOf made s)[i] := by
        rw [List.getElem?_map, List.getElem?_eq_getElem hk] at hd
        simpa using hd.symm
      subst ed
      obtain ⟨z6, z7, r⟩ := step_run h (.sh (stD ps made seats)) x2 (.sh (nD s)) y6 y7 (now := ((rowOf made s).take i).foldl (stepR P) now) (by rw [foldR_len, hn]) (he _ (List.getElem_mem hk)) t
      refine ⟨_, rfl, .nx, _, t, r, .inl rfl, rfl, .sh (nD (rowOf made s)[i]), z6, z7, ?_⟩
      rw [List.take_succ_eq_append_getElem hk, List.foldl_append]
      rfl
  rw [List.length_map, List.take_length] at l1
  refine ⟨y5, y6, y7, ?_⟩
  have i := ixM hsl
  unfold lb_read_at_2 l_read_at_1
  refine sfor_nx (Z := tz) (e1 := [.sh (stD ps made seats), .sh (psD P), x2, .ow 1 (.lst (now.map oD)), .sh (nD s), x5, x6, x7]) (t1 := t') (ds := (rowOf made s).map nD) ?_ l1
  simp [mop, ev2, ev1, evA, getA, look, slotOk, mcst, mvar, asB, mlst, mtup, mcons, mnil, mfn, mfnL, evN, evAs, getAs, mite, band, bor, bnot, mand, mor, mnot, mcall, iseq, irange1, irange2, sset, ssetO, sret, sdrop, snil, sif, gset, mmut, isL1, ssub, spar, evOs, setSls, slOf, sasg, gtup, gcons, gnil, mslice, osome, onone, mopL, mlensetA, misinst, mmt, kindD, saug, byes, st2, i]
def readAt (P : List Pl) (ps : Pl) (made : List (List Nat)) (n : Nat) : List (Option Nat) := (wayP ps n).foldl (fun now s => (rowOf made s).foldl (stepR P) now) (List.replicate P.length (some 0))
theorem foldS_len (P : List Pl) (made : List (List Nat)) : ∀ (ss : List Nat) (now : List (Option Nat)), (ss.foldl (fun now s => (rowOf made s).foldl (stepR P) now) now).length = now.length
  | [], _ => rfl
  | s :: ss, now => by rw [List.foldl_cons, foldS_len P made ss, foldR_len]
theorem readAt_len (P : List Pl) (ps : Pl) (made : List (List Nat)) (n : Nat) : (readAt P ps made n).length = P.length := by
  unfold readAt
  rw [foldS_len, List.length_replicate]
def Errs (P : List Pl) (made : List (List Nat)) : Prop := ∀ s, s < made.length → ∀ e ∈ rowOf made s, e < (cols P).length
theorem zeros (n : Nat) : repD n [D.int 0] = (List.replicate n (some 0)).map oD := by
  unfold repD
  induction n with
  | zero => rfl
  | succ n ih => rw [List.replicate_succ, List.flatten_cons, ih, List.replicate_succ]; rfl
theorem read_run {P : List Pl} (h : PP P) {ps : Pl} {made : List (List Nat)} {seats : List Nat} (hs : St ps made seats) (he : Errs P made) {n : Nat} (hn : n < ps.length) (t0 : Tp) :
    f_read_at [stD ps made seats, psD P, nD n] t0 = some (.lst ((readAt P ps made n).map oD), t0) := by
  have le := h.le
  have w := st_way hs hn t0
  have q : ∃ x4 x5 x6 x7, l_read_at_2 [.sh (stD ps made seats), .sh (psD P), .sh (nD n), .ow 1 (.lst ((List.replicate P.length (some 0)).map oD)), .no, .no, .no, .no] t0 = some (.nx, [.sh (stD ps made seats), .sh (psD P), .sh (nD n), .ow 1 (.lst ((readAt P ps made n).map oD)), x4, x5, x6, x7], t0) := by
    obtain ⟨e', t', l1, rfl, x4, x5, x6, x7, rfl⟩ := forL_nx (Z := tz) (g := gset 4) (b := lb_read_at_2) (ds := (wayP ps n).map nD) (e := [.sh (stD ps made seats), .sh (psD P), .sh (nD n), .ow 1 (.lst ((List.replicate P.length (some 0)).map oD)), .no, .no, .no, .no]) (t := t0)
      (fun i e t => t = t0 ∧ ∃ x4 x5 x6 x7, e = [.sh (stD ps made seats), .sh (psD P), .sh (nD n), .ow 1 (.lst ((((wayP ps n).take i).foldl (fun now s => (rowOf made s).foldl (stepR P) now) (List.replicate P.length (some 0))).map oD)), x4, x5, x6, x7]) ⟨rfl, .no, .no, .no, .no, rfl⟩ fun i d e t hd hi => by
        obtain ⟨rfl, x4, x5, x6, x7, rfl⟩ := hi
        have hk : i < (wayP ps n).length := by
          have := (List.getElem?_eq_some_iff.mp hd).1
          simpa using this
        have ed : d = nD (wayP ps n)[i] := by
          rw [List.getElem?_map, List.getElem?_eq_getElem hk] at hd
          simpa using hd.symm
        subst ed
        have hm := way_mem hs.asc n _ hn (List.getElem_mem hk)
        have hsl : (wayP ps n)[i] < made.length := by rw [hs.len]; omega
        obtain ⟨z5, z6, z7, r⟩ := steps_run h hs hsl (.sh (nD n)) x5 x6 x7 (now := ((wayP ps n).take i).foldl (fun now s => (rowOf made s).foldl (stepR P) now) (List.replicate P.length (some 0))) (by rw [foldS_len, List.length_replicate]) (he _ hsl) t
        refine ⟨_, rfl, .nx, _, t, r, .inl rfl, rfl, .sh (nD (wayP ps n)[i]), z5, z6, z7, ?_⟩
        rw [List.take_succ_eq_append_getElem hk, List.foldl_append]
        rfl
    rw [List.length_map, List.take_length] at l1
    refine ⟨x4, x5, x6, x7, ?_⟩
    unfold l_read_at_2
    refine sfor_nx (Z := tz) (e1 := [.sh (stD ps made seats), .sh (psD P), .sh (nD n), .ow 1 (.lst ((List.replicate P.length (some 0)).map oD)), .no, .no, .no, .no]) (t1 := t') (ds := (wayP ps n).map nD) ?_ l1
    obtain ⟨F, hF⟩ : ∃ z, z = f_way := ⟨_, rfl⟩
    rw [← hF] at w ⊢
    clear hF
    simp [mop, ev2, ev1, evA, getA, look, slotOk, mcst, mvar, asB, mlst, mtup, mcons, mnil, mfn, mfnL, evN, evAs, getAs, mite, band, bor, bnot, mand, mor, mnot, mcall, iseq, irange1, irange2, sset, ssetO, sret, sdrop, snil, sif, gset, mmut, isL1, ssub, spar, evOs, setSls, slOf, sasg, gtup, gcons, gnil, mslice, osome, onone, mopL, mlensetA, misinst, mmt, kindD, saug, byes, w]
  obtain ⟨x4, x5, x6, x7, q⟩ := q
  have z := zeros P.length
  generalize (List.replicate P.length (some 0)).map oD = X at q z
  generalize (readAt P ps made n).map oD = Y at q ⊢
  refine runFn_at (Z := tz) (e1 := [.sh (stD ps made seats), .sh (psD P), .sh (nD n), .sh (.lst Y), x4, x5, x6, x7]) [.sh (stD ps made seats), .sh (psD P), .sh (nD n), .no, .no, .no, .no, .no] rfl ?_
  refine scons_nx (Z := tz) (e1 := [.sh (stD ps made seats), .sh (psD P), .sh (nD n), .ow 1 (.lst X), .no, .no, .no, .no]) (t1 := t0) ?_ (scons_nx (Z := tz) q rfl)
  have b : ((P.length : Nat) : Int) ≤ 1000 := by omega
  have b2 : (-9223372036854775808 : Int) ≤ ((P.length : Nat) : Int) := by omega
  simp [mop, ev2, ev1, evA, getA, look, slotOk, mcst, mvar, asB, mlst, mtup, mcons, mnil, mfn, mfnL, evN, evAs, getAs, mite, band, bor, bnot, mand, mor, mnot, mcall, iseq, irange1, irange2, sset, ssetO, sret, sdrop, snil, sif, gset, mmut, isL1, ssub, spar, evOs, setSls, slOf, sasg, gtup, gcons, gnil, mslice, osome, onone, mopL, mlensetA, misinst, mmt, kindD, saug, byes, lenP, mulN, b, b2, z]
end K38

namespace K38
open PySem L2 DL

theorem texts_run {P : List Pl} (h : PP P) {ps : Pl} {made : List (List Nat)} {seats : List Nat} (hs : St ps made seats) (he : Errs P made) {n : Nat} (hn : n < ps.length) {js : List Nat} (hj : readAt P ps made n = js.map some) (hr : Rd P js) (t : Tp) :
    f_texts_read [stD ps made seats, psD P, nD n] t = some (rdD js, t) := by
  have le := h.le
  have b1 : ((P.length : Nat) : Int) < 4611686018427387904 := by omega
  have r := read_run h hs he hn t
  have ex : (readAt P ps made n).map oD = js.map nD := by rw [hj, List.map_map]; rfl
  rw [ex] at r
  have q : c_texts_read_1 [.sh (stD ps made seats), .sh (psD P), .sh (nD n), .sh (.lst (js.map nD)), .no] t = some (rdD js, [.sh (stD ps made seats), .sh (psD P), .sh (nD n), .sh (.lst (js.map nD)), .no], t) := by
    unfold c_texts_read_1
    rw [mlc_all (Z := tz) (e1 := [.sh (stD ps made seats), .sh (psD P), .sh (nD n), .sh (.lst (js.map nD)), .no]) (t1 := t) nD (fun k => wD (js.getD k 0)) (List.range P.length)]
    · have e : (List.range P.length).map (fun k => wD (js.getD k 0)) = js.map wD := by
        apply List.ext_getElem?
        intro i
        rw [List.getElem?_map, List.getElem?_map]
        by_cases hi : i < P.length
        · rw [List.getElem?_range hi, List.getElem?_eq_getElem (by rw [hr.len]; exact hi)]
          simp only [Option.map_some, List.getD_eq_getElem?_getD]
          rw [List.getElem?_eq_getElem (by rw [hr.len]; exact hi)]
          rfl
        · rw [List.getElem?_eq_none (by simpa using hi), List.getElem?_eq_none (by rw [hr.len]; omega)]
          rfl
      rw [e]
      rfl
    · simp [mop, ev2, ev1, evA, getA, look, slotOk, mcst, mvar, asB, mlst, mtup, mcons, mnil, mfn, mfnL, evN, evAs, getAs, mite, band, bor, bnot, mand, mor, mnot, mcall, iseq, irange1, irange2, sset, ssetO, sret, sdrop, snil, sif, gset, mmut, isL1, ssub, spar, evOs, setSls, slOf, sasg, gtup, gcons, gnil, mslice, osome, onone, mopL, mlensetA, misinst, mmt, kindD, saug, byes, lenP, b1, range0]
    · rfl
    · simp; omega
    · intro k hk
      have hk := List.mem_range.mp hk
      have hlt := hr.lt k hk
      have i1 : idxD (.lst (js.map nD)) (nD k) = some (nD (js.getD k 0)) := by
        rw [ixl, List.getD_eq_getElem?_getD, List.getElem?_eq_getElem (by rw [hr.len]; exact hk)]; rfl
      refine ⟨[.sh (stD ps made seats), .sh (psD P), .sh (nD n), .sh (.lst (js.map nD)), .sh (nD k)], rfl, rfl, [.sh (stD ps made seats), .sh (psD P), .sh (nD n), .sh (.lst (js.map nD)), .sh (nD k)], ?_, rfl⟩
      show ce_texts_read_1 _ t = some (wD (js.getD k 0), _, t)
      generalize js.getD k 0 = j' at i1 hlt ⊢
      have i2 := ixW hlt
      generalize js.map nD = X at i1 ⊢
      unfold ce_texts_read_1
      simp [mop, ev2, ev1, evA, getA, look, slotOk, mcst, mvar, asB, mlst, mtup, mcons, mnil, mfn, mfnL, evN, evAs, getAs, mite, band, bor, bnot, mand, mor, mnot, mcall, iseq, irange1, irange2, sset, ssetO, sret, sdrop, snil, sif, gset, mmut, isL1, ssub, spar, evOs, setSls, slOf, sasg, gtup, gcons, gnil, mslice, osome, onone, mopL, mlensetA, misinst, mmt, kindD, saug, byes, ixP hk, pl_0, i1, i2]
  generalize rdD js = Y at q ⊢
  generalize js.map nD = X at q r
  refine runFn_at (Z := tz) (e1 := [.sh (stD ps made seats), .sh (psD P), .sh (nD n), .sh (.lst X), .no]) [.sh (stD ps made seats), .sh (psD P), .sh (nD n), .no, .no] rfl ?_
  refine scons_nx (Z := tz) (e1 := [.sh (stD ps made seats), .sh (psD P), .sh (nD n), .sh (.lst X), .no]) (t1 := t) ?_ (sret_ev (Z := tz) q)
  obtain ⟨F, hF⟩ : ∃ z, z = f_read_at := ⟨_, rfl⟩
  rw [← hF] at r ⊢
  clear hF
  simp [mop, ev2, ev1, evA, getA, look, slotOk, mcst, mvar, asB, mlst, mtup, mcons, mnil, mfn, mfnL, evN, evAs, getAs, mite, band, bor, bnot, mand, mor, mnot, mcall, iseq, irange1, irange2, sset, ssetO, sret, sdrop, snil, sif, gset, mmut, isL1, ssub, spar, evOs, setSls, slOf, sasg, gtup, gcons, gnil, mslice, osome, onone, mopL, mlensetA, misinst, mmt, kindD, saug, byes, r]
/-! ### is_carried -/
theorem dedup_le (xs acc : List Int) : (xs.foldl PyProof.Rows.step_dedup acc).length ≤ acc.length + xs.length := by
  induction xs generalizing acc with
  | nil => simp
  | cons x xs ih =>
    rw [List.foldl_cons]
    refine Nat.le_trans (ih _) ?_
    unfold PyProof.Rows.step_dedup
    split
    · simp only [List.length_cons]; omega
    · simp only [List.length_append, List.length_cons, List.length_nil]; omega
theorem dedup_eq (xs acc : List Int) : (xs.foldl PyProof.Rows.step_dedup acc).length = acc.length + xs.length ↔ (xs.Nodup ∧ ∀ x ∈ xs, x ∉ acc) := by
  induction xs generalizing acc with
  | nil => simp
  | cons x xs ih =>
    rw [List.foldl_cons]
    by_cases q : x ∈ acc
    · have e : PyProof.Rows.step_dedup acc x = acc := by
        unfold PyProof.Rows.step_dedup
        rw [if_pos]
        rw [List.any_eq_true]
        exact ⟨x, q, by simp⟩
      rw [e]
      constructor
      · intro z
        have := dedup_le xs acc
        simp only [List.length_cons] at z
        omega
      · intro z
        exact absurd q (z.2 x List.mem_cons_self)
    · have e : PyProof.Rows.step_dedup acc x = acc ++ [x] := by
        unfold PyProof.Rows.step_dedup
        rw [if_neg]
        rw [List.any_eq_true]
        rintro ⟨y, hy, z⟩
        have : y = x := by simpa using z
        exact q (this ▸ hy)
      rw [e]
      have := ih (acc ++ [x])
      rw [List.length_append, List.length_singleton] at this
      rw [List.length_cons, show acc.length + (xs.length + 1) = acc.length + 1 + xs.length by omega, this, List.nodup_cons]
      constructor
      · rintro ⟨h1, h2⟩
        refine ⟨⟨fun z => (h2 x z) (by simp), h1⟩, fun y hy => ?_⟩
        rcases List.mem_cons.mp hy with rfl | hy
        · exact q
        · exact fun z => h2 y hy (by simp [z])
      · rintro ⟨⟨h1, h2⟩, h3⟩
        refine ⟨h2, fun y hy z => ?_⟩
        rcases List.mem_append.mp z with w | w
        · exact h3 y (List.mem_cons_of_mem _ hy) w
        · have : y = x := by simpa using w
          exact h1 (this ▸ hy)
theorem distN_nodup (ns : List Int) : distN ns = ns.length ↔ ns.Nodup := by
  have := dedup_eq ns []
  simpa [distN] using this
def ksOf (P : List Pl) (made : List (List Nat)) (n : Nat) : List Nat := (rowOf made n).map fun e => (col P e).1
def okN (P : List Pl) (ps : Pl) (made : List (List Nat)) (n : Nat) : Bool := decide ((ksOf P made n).Nodup) && !decide (none ∈ readAt P ps made n)
def isCar (P : List Pl) (ps : Pl) (made : List (List Nat)) : Bool := (List.range ps.length).all (okN P ps made)
theorem in_non (now : List (Option Nat)) : inD .non (.lst (now.map oD)) = some (.bl (decide (none ∈ now))) := by
  have o2 : ((now.map oD).all (okD 30)) = true := by
    rw [List.all_eq_true]
    intro x hx
    obtain ⟨i, _, rfl⟩ := List.mem_map.mp hx
    cases i <;> simp [okD, oD]
  have m : memD .non (now.map oD) = decide (none ∈ now) := by
    unfold memD
    rw [List.any_map]
    by_cases h : none ∈ now
    · rw [decide_eq_true h, List.any_eq_true]
      exact ⟨none, h, by simp [eqvD, oD]⟩
    · rw [decide_eq_false h, List.any_eq_false]
      intro i hi
      cases i with
      | none => exact absurd hi h
      | some v => simp [eqvD, oD]
  simp [inD, seqD, o2, m, okD]
theorem car_run {P : List Pl} (h : PP P) {ps : Pl} {made : List (List Nat)} {seats : List Nat} (hs : St ps made seats) (he : Errs P made) (t0 : Tp) :
    f_is_carried [stD ps made seats, psD P] t0 = some (.bl (isCar P ps made), t0) := by
  have le := h.le
  have ple := hs.le
  have b1 : ((ps.length : Nat) : Int) < 4611686018427387904 := by omega
  have cr := columns_run h t0
  obtain ⟨fl, e', t', l1, l2⟩ := forL_any (Z := tz) (g := gset 3) (b := lb_is_carried_1) (ds := (List.range ps.length).map nD) (e := [.sh (stD ps made seats), .sh (psD P), .sh (.lst ((cols P).map pD)), .no, .no, .no]) (t := t0)
    (fun i e t => t = t0 ∧ (∀ n, n < i → okN P ps made n = true) ∧ ∃ x3 x4 : Sl, e = [.sh (stD ps made seats), .sh (psD P), .sh (.lst ((cols P).map pD)), x3, x4, .no])
    (fun r t => t = t0 ∧ r = .bl false ∧ ∃ n, n < ps.length ∧ okN P ps made n = false) ⟨rfl, fun n hn => by omega, .no, .no, rfl⟩ fun i d e t hd hi => by
      obtain ⟨rfl, hok, x3, x4, rfl⟩ := hi
      have hk : i < ps.length := by
        have := (List.getElem?_eq_some_iff.mp hd).1
        simpa using this
      have ed : d = nD i := by
        rw [List.getElem?_map, List.getElem?_range hk] at hd
        simpa using hd.symm
      subst ed
      refine ⟨_, rfl, ?_⟩
      have hm : i < made.length := by rw [hs.len]; exact hk
      have ixm := ixM hm
      have q : c_is_carried_1 [.sh (stD ps made seats), .sh (psD P), .sh (.lst ((cols P).map pD)), .sh (nD i), x4, .no] t = some (.lst (((ksOf P made i).map fun n : Nat => (n : Int)).map .int), [.sh (stD ps made seats), .sh (psD P), .sh (.lst ((cols P).map pD)), .sh (nD i), x4, .no], t) := by
        unfold c_is_carried_1
        cases x4 with
        | _ =>
          rw [mlc_all (Z := tz) (e1 := [.sh (stD ps made seats), .sh (psD P), .sh (.lst ((cols P).map pD)), .sh (nD i), _, .no]) (t1 := t) nD (fun e => nD (col P e).1) (rowOf made i)]
          · unfold ksOf
            rw [List.map_map, List.map_map]
            rfl
          · simp [mop, ev2, ev1, evA, getA, look, slotOk, mcst, mvar, asB, mlst, mtup, mcons, mnil, mfn, mfnL, evN, evAs, getAs, mite, band, bor, bnot, mand, mor, mnot, mcall, iseq, irange1, irange2, sset, ssetO, sret, sdrop, snil, sif, gset, mmut, isL1, ssub, spar, evOs, setSls, slOf, sasg, gtup, gcons, gnil, mslice, osome, onone, mopL, mlensetA, misinst, mmt, kindD, saug, byes, st2, ixm]
          · rfl
          · have := hs.row_le i
            omega
          · intro e hee
            have hlt := he i hm e hee
            refine ⟨[.sh (stD ps made seats), .sh (psD P), .sh (.lst ((cols P).map pD)), .sh (nD i), _, .sh (nD e)], rfl, rfl, [.sh (stD ps made seats), .sh (psD P), .sh (.lst ((cols P).map pD)), .sh (nD i), _, .sh (nD e)], ?_, rfl⟩
            have i1 : idxD (.lst ((cols P).map pD)) (nD e) = some (pD (col P e)) := by rw [ixl, List.getElem?_eq_getElem hlt, col_get hlt]; rfl
            have i2 : idxD (pD (col P e)) (.int 0) = some (nD (col P e).1) := ix0 _ _
            show ce_is_carried_1 _ t = some (nD (col P e).1, _, t)
            generalize (cols P).map pD = X at i1 ⊢
            generalize pD (col P e) = y at i1 i2
            unfold ce_is_carried_1
            simp [mop, ev2, ev1, evA, getA, look, slotOk, mcst, mvar, asB, mlst, mtup, mcons, mnil, mfn, mfnL, evN, evAs, getAs, mite, band, bor, bnot, mand, mor, mnot, mcall, iseq, irange1, irange2, sset, ssetO, sret, sdrop, snil, sif, gset, mmut, isL1, ssub, spar, evOs, setSls, slOf, sasg, gtup, gcons, gnil, mslice, osome, onone, mopL, mlensetA, misinst, mmt, kindD, saug, byes, i1, i2]
      have rr := read_run h hs he hk t
      have inn := in_non (readAt P ps made i)
      have dl : ((ksOf P made i).map fun n : Nat => (n : Int)).length ≤ 4000 := by
        unfold ksOf
        have := hs.row_le i
        simp; omega
      have dn : distN ((ksOf P made i).map fun n : Nat => (n : Int)) = (ksOf P made i).length ↔ (ksOf P made i).Nodup := by
        have := distN_nodup ((ksOf P made i).map fun n : Nat => (n : Int))
        rw [List.length_map] at this
        rw [this]
        constructor
        · intro z
          exact (List.pairwise_map.mp z).imp fun h w => h (by rw [w])
        · intro z
          exact List.pairwise_map.mpr (z.imp fun h w => h (by omega))
      have i3 := intsD_map ((ksOf P made i).map fun n : Nat => (n : Int))
      have i4 : (((ksOf P made i).map fun n : Nat => (n : Int)).map D.int).length = (ksOf P made i).length := by simp
      have okE : okN P ps made i = (decide ((ksOf P made i).Nodup) && !decide (none ∈ readAt P ps made i)) := rfl
      have ne : neD (.int (distN ((ksOf P made i).map fun n : Nat => (n : Int)) : Nat)) (nD (ksOf P made i).length) = some (.bl (!decide ((ksOf P made i).Nodup))) := by
        by_cases z : (ksOf P made i).Nodup
        · rw [decide_eq_true z]
          have := dn.mpr z
          simp [neD, scalD, eqvD, this]
        · rw [decide_eq_false z]
          have : distN ((ksOf P made i).map fun n : Nat => (n : Int)) ≠ (ksOf P made i).length := fun w => z (dn.mp w)
          have e : (((distN ((ksOf P made i).map fun n : Nat => (n : Int)) : Nat) : Int) == ((ksOf P made i).length : Int)) = false := beq_eq_false_iff_ne.mpr fun w => this (by omega)
          simp [neD, scalD, eqvD, e]
      have ln : len1 [.lst (((ksOf P made i).map fun n : Nat => (n : Int)).map .int)] = some (nD (ksOf P made i).length) := by simp [len1]
      have post : ∃ fl e2, lb_is_carried_1 [.sh (stD ps made seats), .sh (psD P), .sh (.lst ((cols P).map pD)), .sh (nD i), x4, .no] t = some (fl, e2, t) ∧ (okN P ps made i = true → fl = .nx ∧ ∃ y4, e2 = [.sh (stD ps made seats), .sh (psD P), .sh (.lst ((cols P).map pD)), .sh (nD i), y4, .no]) ∧ (okN P ps made i = false → fl = .rt (.bl false)) := by
        rw [okE]
        generalize (readAt P ps made i).map oD = Y at rr inn
        generalize decide (none ∈ readAt P ps made i) = c2 at inn ⊢
        generalize decide ((ksOf P made i).Nodup) = c1 at ne ⊢
        generalize hdx : distN ((ksOf P made i).map fun n : Nat => (n : Int)) = dx at ne
        clear dn okE i4 hok ixm
        have ml : mlensetA (.v 4) [.sh (stD ps made seats), .sh (psD P), .sh (.lst ((cols P).map pD)), .sh (nD i), .sh (.lst (((ksOf P made i).map fun n : Nat => (n : Int)).map .int)), .no] t = some (.int (dx : Nat), [.sh (stD ps made seats), .sh (psD P), .sh (.lst ((cols P).map pD)), .sh (nD i), .sh (.lst (((ksOf P made i).map fun n : Nat => (n : Int)).map .int)), .no], t) := by
          have e1 : ev1 (.v 4 : Arg tz) [.sh (stD ps made seats), .sh (psD P), .sh (.lst ((cols P).map pD)), .sh (nD i), .sh (.lst (((ksOf P made i).map fun n : Nat => (n : Int)).map .int)), .no] t = some (.lst (((ksOf P made i).map fun n : Nat => (n : Int)).map .int), [.sh (stD ps made seats), .sh (psD P), .sh (.lst ((cols P).map pD)), .sh (nD i), .sh (.lst (((ksOf P made i).map fun n : Nat => (n : Int)).map .int)), .no], t) := rfl
          unfold mlensetA
          simp only [e1, i3, dl, if_true, hdx]
        generalize ((ksOf P made i).map fun n : Nat => (n : Int)).map D.int = L at q ml ln
        generalize (ksOf P made i).length = len at ln ne
        clear i3 dl hdx
        unfold lb_is_carried_1
        obtain ⟨ML, hML⟩ : ∃ z, z = (mlensetA (.v 4) : M tz) := ⟨_, rfl⟩
        rw [← hML] at ml ⊢
        clear hML
        obtain ⟨C, hC⟩ : ∃ z, z = c_is_carried_1 := ⟨_, rfl⟩
        rw [← hC] at q ⊢
        clear hC
        obtain ⟨F, hF⟩ : ∃ z, z = f_read_at := ⟨_, rfl⟩
        rw [← hF] at rr ⊢
        clear hF
        cases c1 with
        | true =>
          cases c2 with
          | true =>
            refine ⟨.rt (.bl false), [.sh (stD ps made seats), .sh (psD P), .sh (.lst ((cols P).map pD)), .sh (nD i), .sh (.lst L), .no], ?_, (fun z => by cases z), fun _ => rfl⟩
            refine scons_nx (Z := tz) (sset_ev (Z := tz) q) ?_
            simp [mop, ev2, ev1, evA, getA, look, slotOk, mcst, mvar, asB, mlst, mtup, mcons, mnil, mfn, mfnL, evN, evAs, getAs, mite, band, bor, bnot, mand, mor, mnot, mcall, iseq, irange1, irange2, sset, ssetO, sret, sdrop, snil, sif, gset, mmut, isL1, ssub, spar, evOs, setSls, slOf, sasg, gtup, gcons, gnil, mslice, osome, onone, mopL, mlensetA, misinst, mmt, kindD, saug, byes, ml, ln, ne, rr, inn]
          | false =>
            refine ⟨.nx, [.sh (stD ps made seats), .sh (psD P), .sh (.lst ((cols P).map pD)), .sh (nD i), .sh (.lst L), .no], ?_, (fun _ => ⟨rfl, _, rfl⟩), fun z => by cases z⟩
            refine scons_nx (Z := tz) (sset_ev (Z := tz) q) ?_
            simp [mop, ev2, ev1, evA, getA, look, slotOk, mcst, mvar, asB, mlst, mtup, mcons, mnil, mfn, mfnL, evN, evAs, getAs, mite, band, bor, bnot, mand, mor, mnot, mcall, iseq, irange1, irange2, sset, ssetO, sret, sdrop, snil, sif, gset, mmut, isL1, ssub, spar, evOs, setSls, slOf, sasg, gtup, gcons, gnil, mslice, osome, onone, mopL, mlensetA, misinst, mmt, kindD, saug, byes, ml, ln, ne, rr, inn]
        | false =>
          refine ⟨.rt (.bl false), [.sh (stD ps made seats), .sh (psD P), .sh (.lst ((cols P).map pD)), .sh (nD i), .sh (.lst L), .no], ?_, (fun z => by cases z), fun _ => rfl⟩
          refine scons_nx (Z := tz) (sset_ev (Z := tz) q) ?_
          simp [mop, ev2, ev1, evA, getA, look, slotOk, mcst, mvar, asB, mlst, mtup, mcons, mnil, mfn, mfnL, evN, evAs, getAs, mite, band, bor, bnot, mand, mor, mnot, mcall, iseq, irange1, irange2, sset, ssetO, sret, sdrop, snil, sif, gset, mmut, isL1, ssub, spar, evOs, setSls, slOf, sasg, gtup, gcons, gnil, mslice, osome, onone, mopL, mlensetA, misinst, mmt, kindD, saug, byes, ml, ln, ne]
      obtain ⟨fl, e2, p1, p2, p3⟩ := post
      refine ⟨fl, e2, t, p1, ?_⟩
      cases ob : okN P ps made i with
      | true =>
        obtain ⟨f1, y4, f2⟩ := p2 ob
        refine .inl ⟨.inl f1, rfl, fun n hn => ?_, _, y4, f2⟩
        by_cases z : n = i
        · rw [z]; exact ob
        · exact hok n (by omega)
      | false => exact .inr ⟨.bl false, p3 ob, rfl, rfl, i, hk, ob⟩
  have src : (irange1 (mcons (mfn len1 [(.e (mop idxD (.v 0) (.e (mcst (.int 1)))))]) mnil) : ML tz) [.sh (stD ps made seats), .sh (psD P), .sh (.lst ((cols P).map pD)), .no, .no, .no] t0 = some ((List.range ps.length).map nD, [.sh (stD ps made seats), .sh (psD P), .sh (.lst ((cols P).map pD)), .no, .no, .no], t0) := by
    simp [mop, ev2, ev1, evA, getA, look, slotOk, mcst, mvar, asB, mlst, mtup, mcons, mnil, mfn, mfnL, evN, evAs, getAs, mite, band, bor, bnot, mand, mor, mnot, mcall, iseq, irange1, irange2, sset, ssetO, sret, sdrop, snil, sif, gset, mmut, isL1, ssub, spar, evOs, setSls, slOf, sasg, gtup, gcons, gnil, mslice, osome, onone, mopL, mlensetA, misinst, mmt, kindD, saug, byes, st1, len1, b1, range0]
  have l3 : l_is_carried_1 [.sh (stD ps made seats), .sh (psD P), .sh (.lst ((cols P).map pD)), .no, .no, .no] t0 = some (fl, e', t') := by
    unfold l_is_carried_1
    exact sfor_nx (Z := tz) src l1
  have s0 : sset 2 (mcall 1 f_columns (mcons (mvar 1) mnil)) [.sh (stD ps made seats), .sh (psD P), .no, .no, .no, .no] t0 = some (.nx, [.sh (stD ps made seats), .sh (psD P), .sh (.lst ((cols P).map pD)), .no, .no, .no], t0) := by
    generalize (cols P).map pD = X at cr ⊢
    obtain ⟨F, hF⟩ : ∃ z, z = f_columns := ⟨_, rfl⟩
    rw [← hF] at cr ⊢
    clear hF
    simp [mop, ev2, ev1, evA, getA, look, slotOk, mcst, mvar, asB, mlst, mtup, mcons, mnil, mfn, mfnL, evN, evAs, getAs, mite, band, bor, bnot, mand, mor, mnot, mcall, iseq, irange1, irange2, sset, ssetO, sret, sdrop, snil, sif, gset, mmut, isL1, ssub, spar, evOs, setSls, slOf, sasg, gtup, gcons, gnil, mslice, osome, onone, mopL, mlensetA, misinst, mmt, kindD, saug, byes, cr]
  rcases l2 with ⟨rfl, rfl, hok, x3, x4, rfl⟩ | ⟨r, rfl, rfl, rfl, n, hn, hb⟩
  · have e : isCar P ps made = true := by
      unfold isCar
      rw [List.all_eq_true]
      intro n hn
      exact hok n (by simpa using hn)
    rw [e]
    refine runFn_at (Z := tz) (e1 := [.sh (stD ps made seats), .sh (psD P), .sh (.lst ((cols P).map pD)), x3, x4, .no]) [.sh (stD ps made seats), .sh (psD P), .no, .no, .no, .no] rfl ?_
    exact scons_nx (Z := tz) s0 (scons_nx (Z := tz) l3 rfl)
  · have e : isCar P ps made = false := by
      unfold isCar
      rw [List.all_eq_false]
      exact ⟨n, List.mem_range.mpr hn, by rw [hb]; decide⟩
    rw [e]
    refine runFn_at (Z := tz) (e1 := e') [.sh (stD ps made seats), .sh (psD P), .no, .no, .no, .no] rfl ?_
    refine scons_nx (Z := tz) s0 ?_
    exact scons_rt (Z := tz) l3
end K38

namespace K38
open PySem L2 DL

def stepC (P : List Pl) (s : List Nat × List Nat) (e : Nat) : Option (List Nat × List Nat) :=
  if (col P e).1 ∈ s.1 ∨ (pl P (col P e).1).getD (col P e).2 none ≠ some (s.2.getD (col P e).1 0) then none else some (s.1 ++ [(col P e).1], s.2.set (col P e).1 (col P e).2)
def rowC (P : List Pl) : List Nat → List Nat × List Nat → Option (List Nat × List Nat)
  | [], s => some s
  | e :: es, s => match stepC P s e with
    | some s' => rowC P es s'
    | none => none
theorem rowC_len {P : List Pl} : ∀ {es : List Nat} {s s' : List Nat × List Nat}, rowC P es s = some s' → s'.2.length = s.2.length
  | [], s, s', h => by simp only [rowC, Option.some.injEq] at h; rw [h]
  | e :: es, s, s', h => by
    unfold rowC at h
    split at h
    · rename_i s1 q
      rw [rowC_len h]
      unfold stepC at q
      split at q
      · cases q
      · simp only [Option.some.injEq] at q
        rw [← q, List.length_set]
    · cases h
theorem ne_o (x : Option Nat) (v : Nat) : neD (oD x) (nD v) = some (.bl (decide (x ≠ some v))) := by
  cases x with
  | none => simp [neD, oD, scalD, eqvD]
  | some i =>
    have : (((i : Nat) : Int) == (v : Int)) = decide (i = v) := by
      by_cases q : i = v
      · subst q; simp
      · rw [decide_eq_false q]
        exact beq_eq_false_iff_ne.mpr fun z => q (by omega)
    simp [neD, oD, scalD, eqvD, this]
def natsD (r : List Nat) : D := .lst (r.map nD)
theorem stepC_run {P : List Pl} (h : PP P) (pa ma R x7 x4 x5 : Sl) {now T : List Nat} (hn : now.length = P.length) (hT : T.length < 1000) {e : Nat} (he : e < (cols P).length) (t : Tp) :
    ∃ fl e', lb__law_carried_1 [.sh (psD P), pa, ma, .sh (.lst ((cols P).map pD)), x4, x5, R, x7, .ow 1 (.lst (now.map nD)), .ow 1 (.lst (T.map nD)), .sh (nD e)] t = some (fl, e', t) ∧
      ((∃ s', stepC P (T, now) e = some s' ∧ fl = .nx ∧ ∃ y4 y5, e' = [.sh (psD P), pa, ma, .sh (.lst ((cols P).map pD)), y4, y5, R, x7, .ow 1 (.lst (s'.2.map nD)), .ow 1 (.lst (s'.1.map nD)), .sh (nD e)]) ∨ (stepC P (T, now) e = none ∧ fl = .rt (.bl false))) := by
  obtain ⟨c1, c2, c3⟩ := col_mem he
  have i0 : idxD (.lst ((cols P).map pD)) (nD e) = some (pD (col P e)) := by rw [ixl, List.getElem?_eq_getElem he, col_get he]; rfl
  unfold stepC
  generalize (cols P).map pD = CP at i0 ⊢
  generalize hc : col P e = kj at *
  obtain ⟨k, j⟩ := kj
  dsimp only at c1 c2 c3 i0 ⊢
  have ek : now.getD k 0 = now[k]'(by omega) := by rw [List.getD_eq_getElem?_getD, List.getElem?_eq_getElem (by omega)]; rfl
  have ej : (pl P k).getD j none = (pl P k)[j] := by rw [List.getD_eq_getElem?_getD, List.getElem?_eq_getElem c3]; rfl
  have i1 : idxD (.lst (now.map nD)) (nD k) = some (nD (now[k]'(by omega))) := by rw [ixl, List.getElem?_eq_getElem (by omega)]; rfl
  have i2 := ixE c3
  have i3 := in_nats k T
  have i4 := ne_o (pl P k)[j] (now[k]'(by omega))
  have ix : ixN (now.map nD).length (k : Int) = some k := ixN_nat (by rw [List.length_map]; omega)
  have sl : (T.map nD).length < sizeLine := by rw [List.length_map]; exact Nat.lt_trans hT (by decide)
  have ap : uAppend [nD k] (T.map nD) = some (.non, (T ++ [k]).map nD) := by
    simp only [uAppend, sl, if_true]
    rw [List.map_append]
    rfl
  have s1 : (sasg (gtup 2 (gcons (gset 4) (gcons (gset 5) gnil))) (mop idxD (.v 3) (.v 10)) : SM tz) [.sh (psD P), pa, ma, .sh (.lst CP), x4, x5, R, x7, .ow 1 (.lst (now.map nD)), .ow 1 (.lst (T.map nD)), .sh (nD e)] t = some (.nx, [.sh (psD P), pa, ma, .sh (.lst CP), .sh (nD k), .sh (nD j), R, x7, .ow 1 (.lst (now.map nD)), .ow 1 (.lst (T.map nD)), .sh (nD e)], t) := by
    simp [mop, ev2, ev1, evA, getA, look, slotOk, mcst, mvar, asB, mlst, mtup, mcons, mnil, mfn, mfnL, evN, evAs, getAs, mite, band, bor, bnot, mand, mor, mnot, mcall, iseq, irange1, irange2, sset, ssetO, sret, sdrop, snil, sif, gset, mmut, isL1, ssub, spar, evOs, setSls, slOf, sasg, gtup, gcons, gnil, mslice, osome, onone, mopL, mlensetA, misinst, mmt, kindD, saug, byes, i0, pD]
  rw [ek, ej]
  have e2 : (now.set k j).map nD = (now.map nD).set k (nD j) := by rw [List.map_set]
  by_cases q1 : k ∈ T
  · rw [decide_eq_true q1] at i3
    refine ⟨.rt (.bl false), [.sh (psD P), pa, ma, .sh (.lst CP), .sh (nD k), .sh (nD j), R, x7, .ow 1 (.lst (now.map nD)), .ow 1 (.lst (T.map nD)), .sh (nD e)], ?_, .inr ⟨by rw [if_pos (.inl q1)], rfl⟩⟩
    unfold lb__law_carried_1
    refine scons_nx (Z := tz) s1 (scons_rt (Z := tz) ?_)
    generalize T.map nD = TT at i3
    generalize now.map nD = NN
    simp [mop, ev2, ev1, evA, getA, look, slotOk, mcst, mvar, asB, mlst, mtup, mcons, mnil, mfn, mfnL, evN, evAs, getAs, mite, band, bor, bnot, mand, mor, mnot, mcall, iseq, irange1, irange2, sset, ssetO, sret, sdrop, snil, sif, gset, mmut, isL1, ssub, spar, evOs, setSls, slOf, sasg, gtup, gcons, gnil, mslice, osome, onone, mopL, mlensetA, misinst, mmt, kindD, saug, byes, i3]
  · rw [decide_eq_false q1] at i3
    by_cases q2 : (pl P k)[j] ≠ some (now[k]'(by omega))
    · rw [decide_eq_true q2] at i4
      refine ⟨.rt (.bl false), [.sh (psD P), pa, ma, .sh (.lst CP), .sh (nD k), .sh (nD j), R, x7, .ow 1 (.lst (now.map nD)), .ow 1 (.lst (T.map nD)), .sh (nD e)], ?_, .inr ⟨by rw [if_pos (.inr q2)], rfl⟩⟩
      unfold lb__law_carried_1
      refine scons_nx (Z := tz) s1 (scons_rt (Z := tz) ?_)
      generalize oD (pl P k)[j] = y at i2 i4
      generalize nD (now[k]'(by omega)) = z at i1 i4
      generalize T.map nD = TT at i3
      generalize now.map nD = NN at i1
      simp [mop, ev2, ev1, evA, getA, look, slotOk, mcst, mvar, asB, mlst, mtup, mcons, mnil, mfn, mfnL, evN, evAs, getAs, mite, band, bor, bnot, mand, mor, mnot, mcall, iseq, irange1, irange2, sset, ssetO, sret, sdrop, snil, sif, gset, mmut, isL1, ssub, spar, evOs, setSls, slOf, sasg, gtup, gcons, gnil, mslice, osome, onone, mopL, mlensetA, misinst, mmt, kindD, saug, byes, i3, ixP c1, pl_1, i1, i2, i4]
    · rw [decide_eq_false q2] at i4
      refine ⟨.nx, [.sh (psD P), pa, ma, .sh (.lst CP), .sh (nD k), .sh (nD j), R, x7, .ow 1 (.lst ((now.set k j).map nD)), .ow 1 (.lst ((T ++ [k]).map nD)), .sh (nD e)], ?_, .inl ⟨(T ++ [k], now.set k j), by rw [if_neg (by simp only [not_or]; exact ⟨q1, q2⟩)], rfl, _, _, rfl⟩⟩
      unfold lb__law_carried_1
      refine scons_nx (Z := tz) s1 (scons_nx (Z := tz) (e1 := [.sh (psD P), pa, ma, .sh (.lst CP), .sh (nD k), .sh (nD j), R, x7, .ow 1 (.lst (now.map nD)), .ow 1 (.lst (T.map nD)), .sh (nD e)]) (t1 := t) ?_ ?_)
      · generalize oD (pl P k)[j] = y at i2 i4
        generalize nD (now[k]'(by omega)) = z at i1 i4
        generalize T.map nD = TT at i3
        generalize now.map nD = NN at i1
        simp [mop, ev2, ev1, evA, getA, look, slotOk, mcst, mvar, asB, mlst, mtup, mcons, mnil, mfn, mfnL, evN, evAs, getAs, mite, band, bor, bnot, mand, mor, mnot, mcall, iseq, irange1, irange2, sset, ssetO, sret, sdrop, snil, sif, gset, mmut, isL1, ssub, spar, evOs, setSls, slOf, sasg, gtup, gcons, gnil, mslice, osome, onone, mopL, mlensetA, misinst, mmt, kindD, saug, byes, i3, ixP c1, pl_1, i1, i2, i4]
      · rw [e2]
        generalize T.map nD = TT at ap
        generalize (T ++ [k]).map nD = TK at ap
        generalize now.map nD = NN at ix
        refine scons_nx (Z := tz) (e1 := [.sh (psD P), pa, ma, .sh (.lst CP), .sh (nD k), .sh (nD j), R, x7, .ow 1 (.lst NN), .ow 1 (.lst TK), .sh (nD e)]) (t1 := t) ?_ ?_
        · simp [mop, ev2, ev1, evA, getA, look, slotOk, mcst, mvar, asB, mlst, mtup, mcons, mnil, mfn, mfnL, evN, evAs, getAs, mite, band, bor, bnot, mand, mor, mnot, mcall, iseq, irange1, irange2, sset, ssetO, sret, sdrop, snil, sif, gset, mmut, isL1, ssub, spar, evOs, setSls, slOf, sasg, gtup, gcons, gnil, mslice, osome, onone, mopL, mlensetA, misinst, mmt, kindD, saug, byes, ap]
        · simp [mop, ev2, ev1, evA, getA, look, slotOk, mcst, mvar, asB, mlst, mtup, mcons, mnil, mfn, mfnL, evN, evAs, getAs, mite, band, bor, bnot, mand, mor, mnot, mcall, iseq, irange1, irange2, sset, ssetO, sret, sdrop, snil, sif, gset, mmut, isL1, ssub, spar, evOs, setSls, slOf, sasg, gtup, gcons, gnil, mslice, osome, onone, mopL, mlensetA, misinst, mmt, kindD, saug, byes, ix]
theorem rowC_run {P : List Pl} (h : PP P) (pa ma R x7 : Sl) (t : Tp) : ∀ (es : List Nat) (now T : List Nat) (x4 x5 x10 : Sl), now.length = P.length → T.length + es.length < 1000 → (∀ e ∈ es, e < (cols P).length) →
    ∃ fl e', forL (gset 10) lb__law_carried_1 (es.map nD) [.sh (psD P), pa, ma, .sh (.lst ((cols P).map pD)), x4, x5, R, x7, .ow 1 (.lst (now.map nD)), .ow 1 (.lst (T.map nD)), x10] t = some (fl, e', t) ∧
      ((∃ s', rowC P es (T, now) = some s' ∧ fl = .nx ∧ ∃ y4 y5 y9 y10, e' = [.sh (psD P), pa, ma, .sh (.lst ((cols P).map pD)), y4, y5, R, x7, .ow 1 (.lst (s'.2.map nD)), y9, y10]) ∨ (rowC P es (T, now) = none ∧ fl = .rt (.bl false)))
  | [], now, T, x4, x5, x10, _, _, _ => ⟨.nx, _, rfl, .inl ⟨_, rfl, rfl, x4, x5, _, x10, rfl⟩⟩
  | e :: es, now, T, x4, x5, x10, hn, hT, he => by
    obtain ⟨fl, e', q1, q2⟩ := stepC_run h pa ma R x7 x4 x5 hn (T := T) (by simp only [List.length_cons] at hT; omega) (he e List.mem_cons_self) t
    rcases q2 with ⟨⟨T', now'⟩, s1, rfl, y4, y5, rfl⟩ | ⟨s1, rfl⟩
    · have hl : T'.length = T.length + 1 ∧ now'.length = now.length := by
        unfold stepC at s1
        split at s1
        · cases s1
        · simp only [Option.some.injEq, Prod.mk.injEq] at s1
          rw [← s1.1, ← s1.2]
          simp
      obtain ⟨fl2, e2, r1, r2⟩ := rowC_run h pa ma R x7 t es now' T' y4 y5 (.sh (nD e)) (by omega) (by simp only [List.length_cons] at hT; omega) fun x hx => he x (List.mem_cons_of_mem _ hx)
      refine ⟨fl2, e2, ?_, ?_⟩
      · simp only [List.map_cons, forL]
        simp only [gset, List.set_cons_succ, List.set_cons_zero, q1]
        exact r1
      · simp only [rowC, s1]
        exact r2
    · refine ⟨.rt (.bl false), e', ?_, .inr ⟨?_, rfl⟩⟩
      · simp only [List.map_cons, forL, gset, List.set_cons_succ, List.set_cons_zero, q1]
      · simp only [rowC, s1]
/-- the law's own reading of a made table -/
def base (P : List Pl) (ps : Pl) (R : List (List Nat)) (n : Nat) : List Nat := match ps.getD n none with
  | none => List.replicate P.length 0
  | some m => R.getD m []
def stepN (P : List Pl) (ps : Pl) (made : List (List Nat)) (R : List (List Nat)) (n : Nat) : Option (List (List Nat)) := match rowC P (rowOf made n) ([], base P ps R n) with
  | some s => some (R ++ [s.2])
  | none => none
def carN (P : List Pl) (ps : Pl) (made : List (List Nat)) : Nat → Option (List (List Nat))
  | 0 => some []
  | n + 1 => match carN P ps made n with
    | some R => stepN P ps made R n
    | none => none
def lawCar (P : List Pl) (ps : Pl) (made : List (List Nat)) : Bool := (carN P ps made ps.length).isSome
theorem carN_none {P : List Pl} {ps : Pl} {made : List (List Nat)} {i : Nat} (h : carN P ps made i = none) : ∀ n, i ≤ n → carN P ps made n = none := by
  intro n hn
  induction n with
  | zero =>
    have : i = 0 := by omega
    rw [← this]; exact h
  | succ n ih =>
    by_cases q : i = n + 1
    · rw [← q]; exact h
    · unfold carN
      rw [ih (by omega)]
theorem cells_run {P : List Pl} (h : PP P) (pa ma : Sl) (t0 : Tp) : ∃ x4, l__law_carried_3 [.sh (psD P), pa, ma, .sh (.lst []), .no, .no, .no, .no, .no, .no, .no] t0 = some (.nx, [.sh (psD P), pa, ma, .sh (.lst ((cols P).map pD)), x4, .no, .no, .no, .no, .no, .no], t0) := by
  have le := h.le
  have b1 : ((P.length : Nat) : Int) < 4611686018427387904 := by omega
  obtain ⟨e', t', l1, rfl, x4, rfl⟩ := forL_nx (Z := tz) (g := gset 4) (b := lb__law_carried_3) (ds := (List.range P.length).map nD) (e := [.sh (psD P), pa, ma, .sh (.lst []), .no, .no, .no, .no, .no, .no, .no]) (t := t0)
    (fun i e t => t = t0 ∧ ∃ x4, e = [.sh (psD P), pa, ma, .sh (.lst ((cols (P.take i)).map pD)), x4, .no, .no, .no, .no, .no, .no]) ⟨rfl, .no, rfl⟩ fun i d e t hd hi => by
      obtain ⟨rfl, x4, rfl⟩ := hi
      have hk : i < P.length := by
        have := (List.getElem?_eq_some_iff.mp hd).1
        simpa using this
      have ed : d = nD i := by
        rw [List.getElem?_map, List.getElem?_range hk] at hd
        simpa using hd.symm
      subst ed
      refine ⟨_, rfl, .nx, [.sh (psD P), pa, ma, .sh (.lst ((cols (P.take (i + 1))).map pD)), .sh (nD i), .no, .no, .no, .no, .no, .no], t, ?_, .inl rfl, rfl, _, rfl⟩
      have q : c__law_carried_1 [.sh (psD P), pa, ma, .sh (.lst ((cols (P.take i)).map pD)), .sh (nD i), .no, .no, .no, .no, .no, .no] t = some (.lst ((in1 P i).map fun j => pD (i, j)), [.sh (psD P), pa, ma, .sh (.lst ((cols (P.take i)).map pD)), .sh (nD i), .no, .no, .no, .no, .no, .no], t) := by
        generalize (cols (P.take i)).map pD = X
        unfold c__law_carried_1
        rw [mlc_all (Z := tz) (e1 := [.sh (psD P), pa, ma, .sh (.lst X), .sh (nD i), .no, .no, .no, .no, .no, .no]) (t1 := t) nD (fun j => pD (i, j)) (in1 P i)]
        · have b2 := pl_le h i
          have b3 : (((pl P i).length : Nat) : Int) < 4611686018427387904 := by omega
          simp [mop, ev2, ev1, evA, getA, look, slotOk, mcst, mvar, asB, mlst, mtup, mcons, mnil, mfn, mfnL, evN, evAs, getAs, mite, band, bor, bnot, mand, mor, mnot, mcall, iseq, irange1, irange2, sset, ssetO, sret, sdrop, snil, sif, gset, mmut, isL1, ssub, spar, evOs, setSls, slOf, sasg, gtup, gcons, gnil, mslice, osome, onone, mopL, mlensetA, misinst, mmt, kindD, saug, byes, ixP hk, pl_0, len1, b3, sub1, range1, in1]
        · rfl
        · have b2 := pl_le h i
          simp [in1]; omega
        · intro j _
          refine ⟨[.sh (psD P), pa, ma, .sh (.lst X), .sh (nD i), .sh (nD j), .no, .no, .no, .no, .no], rfl, rfl, [.sh (psD P), pa, ma, .sh (.lst X), .sh (nD i), .sh (nD j), .no, .no, .no, .no, .no], ?_, rfl⟩
          unfold ce__law_carried_1 pD
          simp [mop, ev2, ev1, evA, getA, look, slotOk, mcst, mvar, asB, mlst, mtup, mcons, mnil, mfn, mfnL, evN, evAs, getAs, mite, band, bor, bnot, mand, mor, mnot, mcall, iseq, irange1, irange2, sset, ssetO, sret, sdrop, snil, sif, gset, mmut, isL1, ssub, spar, evOs, setSls, slOf, sasg, gtup, gcons, gnil, mslice, osome, onone, mopL, mlensetA, misinst, mmt, kindD, saug, byes]
      have hp : P[i] = pl P i := by
        have := pl_get hk
        rw [List.getElem?_eq_getElem hk] at this
        simpa using this
      have e1 : (cols (P.take (i + 1))).map pD = (cols (P.take i)).map pD ++ (in1 P i).map fun j => pD (i, j) := by
        rw [List.take_succ_eq_append_getElem hk, cols_app, cols_one, List.map_append, List.map_map, List.map_map, hp]
        congr 1
        apply List.map_congr_left
        intro j _
        simp only [Function.comp_apply, List.length_take]
        rw [Nat.zero_add, Nat.min_eq_left (by omega)]
      have sz : ((cols (P.take i)).map pD).length + ((in1 P i).map fun j => pD (i, j)).length ≤ sizeLine := by
        rw [← List.length_append, ← e1, List.length_map]
        have : (cols (P.take (i + 1))).length ≤ 6 * (P.take (i + 1)).length := by
          unfold cols
          have := flat_le (fun k => (in1 (P.take (i + 1)) k).map fun j => (k, j)) 6 (List.range (P.take (i + 1)).length) fun a ha => by
            rw [List.length_map]
            have ha := List.mem_range.mp ha
            have e : pl (P.take (i + 1)) a = pl P a := by
              unfold pl
              rw [List.getD_eq_getElem?_getD, List.getD_eq_getElem?_getD, List.getElem?_take]
              rw [List.length_take] at ha
              rw [if_pos (by omega)]
            have := pl_le h a
            unfold in1
            rw [e]
            simp; omega
          rwa [List.length_range] at this
        refine Nat.le_trans this ?_
        refine Nat.le_trans (Nat.mul_le_mul_left 6 (List.length_take_le _ _)) ?_
        exact Nat.le_trans (by omega : 6 * (i + 1) ≤ 30) (by decide)
      rw [e1]
      generalize (cols (P.take i)).map pD = X at q sz ⊢
      generalize ((in1 P i).map fun j => pD (i, j)) = Y at q sz ⊢
      unfold lb__law_carried_3
      obtain ⟨C, hC⟩ : ∃ z, z = c__law_carried_1 := ⟨_, rfl⟩
      rw [← hC] at q ⊢
      clear hC
      simp [mop, ev2, ev1, evA, getA, look, slotOk, mcst, mvar, asB, mlst, mtup, mcons, mnil, mfn, mfnL, evN, evAs, getAs, mite, band, bor, bnot, mand, mor, mnot, mcall, iseq, irange1, irange2, sset, ssetO, sret, sdrop, snil, sif, gset, mmut, isL1, ssub, spar, evOs, setSls, slOf, sasg, gtup, gcons, gnil, mslice, osome, onone, mopL, mlensetA, misinst, mmt, kindD, saug, byes, q, addD, sz]
  rw [List.length_map, List.length_range, List.take_length] at l1
  refine ⟨x4, ?_⟩
  unfold l__law_carried_3
  refine sfor_nx (Z := tz) (e1 := [.sh (psD P), pa, ma, .sh (.lst []), .no, .no, .no, .no, .no, .no, .no]) (t1 := t') (ds := (List.range P.length).map nD) ?_ l1
  simp [mop, ev2, ev1, evA, getA, look, slotOk, mcst, mvar, asB, mlst, mtup, mcons, mnil, mfn, mfnL, evN, evAs, getAs, mite, band, bor, bnot, mand, mor, mnot, mcall, iseq, irange1, irange2, sset, ssetO, sret, sdrop, snil, sif, gset, mmut, isL1, ssub, spar, evOs, setSls, slOf, sasg, gtup, gcons, gnil, mslice, osome, onone, mopL, mlensetA, misinst, mmt, kindD, saug, byes, lenP, b1, range0]
theorem zerosN (n : Nat) : repD n [D.int 0] = (List.replicate n 0).map nD := by
  unfold repD
  induction n with
  | zero => rfl
  | succ n ih => rw [List.replicate_succ, List.flatten_cons, ih, List.replicate_succ]; rfl
def mdD (made : List (List Nat)) : D := .lst (made.map natsD)
theorem lawcar_run {P : List Pl} (h : PP P) {ps : Pl} (hA : Asc ps) (pz : ps.length ≤ 200) {made : List (List Nat)} (ml : made.length = ps.length) (sz : ∀ r ∈ made, r.length < 1000) (he : Errs P made) (t0 : Tp) :
    f__law_carried [psD P, .lst (ps.map oD), mdD made] t0 = some (.bl (lawCar P ps made), t0) := by
  have le := h.le
  have b1 : ((ps.length : Nat) : Int) < 4611686018427387904 := by omega
  have b2 : ((P.length : Nat) : Int) ≤ 1000 := by omega
  have b3 : (-9223372036854775808 : Int) ≤ ((P.length : Nat) : Int) := by omega
  obtain ⟨x4, cr⟩ := cells_run h (.sh (.lst (ps.map oD))) (.sh (mdD made)) t0
  obtain ⟨fl, e', t', l1, l2⟩ := forL_any (Z := tz) (g := gset 7) (b := lb__law_carried_2) (ds := (List.range ps.length).map nD) (e := [.sh (psD P), .sh (.lst (ps.map oD)), .sh (mdD made), .sh (.lst ((cols P).map pD)), x4, .no, .ow 1 (.lst []), .no, .no, .no, .no]) (t := t0)
    (fun i e t => t = t0 ∧ ∃ R, carN P ps made i = some R ∧ R.length = i ∧ (∀ r ∈ R, r.length = P.length) ∧ ∃ x4 x5 x7 x8 x9 x10 : Sl, e = [.sh (psD P), .sh (.lst (ps.map oD)), .sh (mdD made), .sh (.lst ((cols P).map pD)), x4, x5, .ow 1 (.lst (R.map natsD)), x7, x8, x9, x10])
    (fun r t => t = t0 ∧ r = .bl false ∧ carN P ps made ps.length = none) ⟨rfl, [], rfl, rfl, (fun r hr => by cases hr), x4, .no, .no, .no, .no, .no, rfl⟩ fun i d e t hd hi => by
      obtain ⟨rfl, R, hR, hRl, hRr, x4, x5, x7, x8, x9, x10, rfl⟩ := hi
      have hk : i < ps.length := by
        have := (List.getElem?_eq_some_iff.mp hd).1
        simpa using this
      have ed : d = nD i := by
        rw [List.getElem?_map, List.getElem?_range hk] at hd
        simpa using hd.symm
      subst ed
      refine ⟨_, rfl, ?_⟩
      have hm : i < made.length := by omega
      have hrow := List.mem_of_getElem? (row_get hm)
      have hb : (base P ps R i).length = P.length := by
        unfold base
        cases q : ps.getD i none with
        | none => simp
        | some m =>
          have : ps[i]? = some (some m) := by
            rw [List.getD_eq_getElem?_getD, List.getElem?_eq_getElem hk] at q
            rw [List.getElem?_eq_getElem hk]
            simpa using q
          have hm := hA i m this
          simp only [List.getD_eq_getElem?_getD]
          rw [List.getElem?_eq_getElem (by omega)]
          exact hRr _ (List.getElem_mem _)
      obtain ⟨fl, e2, r1, r2⟩ := rowC_run h (.sh (.lst (ps.map oD))) (.sh (mdD made)) (.ow 1 (.lst (R.map natsD))) (.sh (nD i)) t (rowOf made i) (base P ps R i) [] x4 x5 x10 hb (by have := sz _ hrow; simpa using this) (he i hm)
      have i1 : idxD (.lst (ps.map oD)) (nD i) = some (oD (ps.getD i none)) := by rw [ixl, List.getD_eq_getElem?_getD, List.getElem?_eq_getElem hk]; rfl
      have i2 : idxD (mdD made) (nD i) = some (.lst ((rowOf made i).map nD)) := by unfold mdD; rw [ixl, row_get hm]; rfl
      have s1 : (sset 8 (mite (asB (mop isND (.e (mop idxD (.v 1) (.v 7))) (.e (mcst .non)))) (mop mulD (.e (mlst (mcons (mcst (.int 0)) mnil))) (.e (mfn len1 [(.v 0)]))) (mop idxD (.v 6) (.e (mop idxD (.v 1) (.v 7))))) : SM tz)
          [.sh (psD P), .sh (.lst (ps.map oD)), .sh (mdD made), .sh (.lst ((cols P).map pD)), x4, x5, .ow 1 (.lst (R.map natsD)), .sh (nD i), x8, x9, x10] t = some (.nx, [.sh (psD P), .sh (.lst (ps.map oD)), .sh (mdD made), .sh (.lst ((cols P).map pD)), x4, x5, .ow 1 (.lst (R.map natsD)), .sh (nD i), .sh (natsD (base P ps R i)), x9, x10], t) := by
        unfold base
        cases q : ps.getD i none with
        | none =>
          rw [q] at i1
          have z := zerosN P.length
          unfold natsD
          rw [← z]
          generalize (cols P).map pD = CP
          generalize ps.map oD = PD at i1 ⊢
          generalize mdD made = MD
          generalize R.map (fun r => D.lst (r.map nD)) = RD
          have i1' : idxD (.lst PD) (nD i) = some .non := i1
          simp [mop, ev2, ev1, evA, getA, look, slotOk, mcst, mvar, asB, mlst, mtup, mcons, mnil, mfn, mfnL, evN, evAs, getAs, mite, band, bor, bnot, mand, mor, mnot, mcall, iseq, irange1, irange2, sset, ssetO, sret, sdrop, snil, sif, gset, mmut, isL1, ssub, spar, evOs, setSls, slOf, sasg, gtup, gcons, gnil, mslice, osome, onone, mopL, mlensetA, misinst, mmt, kindD, saug, byes, i1', isND, noTape, isNonD, lenP, mulD, b2, b3]
        | some m =>
          rw [q] at i1
          have : ps[i]? = some (some m) := by
            rw [List.getD_eq_getElem?_getD, List.getElem?_eq_getElem hk] at q
            rw [List.getElem?_eq_getElem hk]
            simpa using q
          have hm := hA i m this
          have i3 : idxD (.lst (R.map natsD)) (nD m) = some (natsD (R.getD m [])) := by rw [ixl, List.getD_eq_getElem?_getD, List.getElem?_eq_getElem (by omega)]; rfl
          dsimp only
          generalize natsD (R.getD m []) = y at i3 ⊢
          generalize (cols P).map pD = CP
          generalize ps.map oD = PD at i1 ⊢
          generalize mdD made = MD
          generalize R.map natsD = RD at i3 ⊢
          have i1' : idxD (.lst PD) (nD i) = some (nD m) := i1
          simp [mop, ev2, ev1, evA, getA, look, slotOk, mcst, mvar, asB, mlst, mtup, mcons, mnil, mfn, mfnL, evN, evAs, getAs, mite, band, bor, bnot, mand, mor, mnot, mcall, iseq, irange1, irange2, sset, ssetO, sret, sdrop, snil, sif, gset, mmut, isL1, ssub, spar, evOs, setSls, slOf, sasg, gtup, gcons, gnil, mslice, osome, onone, mopL, mlensetA, misinst, mmt, kindD, saug, byes, i1', i3, isND, noTape, isNonD]
      have pre : ∀ x : Option (Fl × List Sl × tz.T), (scons l__law_carried_1 (sdrop (mmut 6 uAppend (mcons (mvar 8) mnil)))) [.sh (psD P), .sh (.lst (ps.map oD)), .sh (mdD made), .sh (.lst ((cols P).map pD)), x4, x5, .ow 1 (.lst (R.map natsD)), .sh (nD i), .ow 1 (natsD (base P ps R i)), .ow 1 (.lst []), x10] t = x →
          lb__law_carried_2 [.sh (psD P), .sh (.lst (ps.map oD)), .sh (mdD made), .sh (.lst ((cols P).map pD)), x4, x5, .ow 1 (.lst (R.map natsD)), .sh (nD i), x8, x9, x10] t = x := fun x hx => by
        unfold lb__law_carried_2
        refine scons_nx (Z := tz) s1 (scons_nx (Z := tz) (e1 := [.sh (psD P), .sh (.lst (ps.map oD)), .sh (mdD made), .sh (.lst ((cols P).map pD)), x4, x5, .ow 1 (.lst (R.map natsD)), .sh (nD i), .sh (natsD (base P ps R i)), x9, x10]) (t1 := t) ?_ (scons_nx (Z := tz) (e1 := [.sh (psD P), .sh (.lst (ps.map oD)), .sh (mdD made), .sh (.lst ((cols P).map pD)), x4, x5, .ow 1 (.lst (R.map natsD)), .sh (nD i), .ow 1 (natsD (base P ps R i)), .ow 1 (.lst []), x10]) (t1 := t) ?_ hx))
        · unfold natsD
          generalize (base P ps R i).map nD = X
          simp [mop, ev2, ev1, evA, getA, look, slotOk, mcst, mvar, asB, mlst, mtup, mcons, mnil, mfn, mfnL, evN, evAs, getAs, mite, band, bor, bnot, mand, mor, mnot, mcall, iseq, irange1, irange2, sset, ssetO, sret, sdrop, snil, sif, gset, mmut, isL1, ssub, spar, evOs, setSls, slOf, sasg, gtup, gcons, gnil, mslice, osome, onone, mopL, mlensetA, misinst, mmt, kindD, saug, byes, isND, noTape, isNonD]
        · unfold natsD
          generalize (base P ps R i).map nD = X
          simp [mop, ev2, ev1, evA, getA, look, slotOk, mcst, mvar, asB, mlst, mtup, mcons, mnil, mfn, mfnL, evN, evAs, getAs, mite, band, bor, bnot, mand, mor, mnot, mcall, iseq, irange1, irange2, sset, ssetO, sret, sdrop, snil, sif, gset, mmut, isL1, ssub, spar, evOs, setSls, slOf, sasg, gtup, gcons, gnil, mslice, osome, onone, mopL, mlensetA, misinst, mmt, kindD, saug, byes, list1]
      have lp : l__law_carried_1 [.sh (psD P), .sh (.lst (ps.map oD)), .sh (mdD made), .sh (.lst ((cols P).map pD)), x4, x5, .ow 1 (.lst (R.map natsD)), .sh (nD i), .ow 1 (natsD (base P ps R i)), .ow 1 (.lst []), x10] t = some (fl, e2, t) := by
        unfold l__law_carried_1
        refine sfor_nx (Z := tz) (e1 := [.sh (psD P), .sh (.lst (ps.map oD)), .sh (mdD made), .sh (.lst ((cols P).map pD)), x4, x5, .ow 1 (.lst (R.map natsD)), .sh (nD i), .ow 1 (natsD (base P ps R i)), .ow 1 (.lst []), x10]) (t1 := t) (ds := (rowOf made i).map nD) ?_ r1
        generalize mdD made = MD at i2
        generalize (rowOf made i).map nD = RW at i2
        simp [mop, ev2, ev1, evA, getA, look, slotOk, mcst, mvar, asB, mlst, mtup, mcons, mnil, mfn, mfnL, evN, evAs, getAs, mite, band, bor, bnot, mand, mor, mnot, mcall, iseq, irange1, irange2, sset, ssetO, sret, sdrop, snil, sif, gset, mmut, isL1, ssub, spar, evOs, setSls, slOf, sasg, gtup, gcons, gnil, mslice, osome, onone, mopL, mlensetA, misinst, mmt, kindD, saug, byes, i2]
      rcases r2 with ⟨⟨T', now'⟩, w1, rfl, y4, y5, y9, y10, rfl⟩ | ⟨w1, rfl⟩
      · have cn : carN P ps made (i + 1) = some (R ++ [now']) := by
          unfold carN
          rw [hR]
          simp only [stepN, w1]
        have nl : now'.length = P.length := by
          have := rowC_len w1
          dsimp only at this
          rw [this, hb]
        have sl : (R.map natsD).length < sizeLine := by
          rw [List.length_map, hRl]
          exact Nat.lt_of_lt_of_le hk (Nat.le_trans pz (by decide))
        have ap : uAppend [natsD now'] (R.map natsD) = some (.non, (R ++ [now']).map natsD) := by
          simp only [uAppend, sl, if_true]
          rw [List.map_append]
          rfl
        refine ⟨.nx, [.sh (psD P), .sh (.lst (ps.map oD)), .sh (mdD made), .sh (.lst ((cols P).map pD)), y4, y5, .ow 1 (.lst ((R ++ [now']).map natsD)), .sh (nD i), .sh (natsD now'), y9, y10], t, ?_, .inl ⟨.inl rfl, rfl, R ++ [now'], cn, by simp [hRl], ?_, _, _, _, _, _, _, rfl⟩⟩
        · refine pre _ (scons_nx (Z := tz) lp ?_)
          dsimp only
          have en : D.lst (now'.map nD) = natsD now' := rfl
          rw [en]
          generalize natsD now' = y at ap ⊢
          generalize R.map natsD = RD at ap ⊢
          generalize (R ++ [now']).map natsD = RE at ap ⊢
          simp [mop, ev2, ev1, evA, getA, look, slotOk, mcst, mvar, asB, mlst, mtup, mcons, mnil, mfn, mfnL, evN, evAs, getAs, mite, band, bor, bnot, mand, mor, mnot, mcall, iseq, irange1, irange2, sset, ssetO, sret, sdrop, snil, sif, gset, mmut, isL1, ssub, spar, evOs, setSls, slOf, sasg, gtup, gcons, gnil, mslice, osome, onone, mopL, mlensetA, misinst, mmt, kindD, saug, byes, ap]
        · intro r hr
          rcases List.mem_append.mp hr with z | z
          · exact hRr r z
          · have : r = now' := by simpa using z
            rw [this, nl]
      · refine ⟨.rt (.bl false), e2, t, pre _ (scons_rt (Z := tz) lp), .inr ⟨_, rfl, rfl, rfl, ?_⟩⟩
        refine carN_none (i := i + 1) ?_ _ (by omega)
        unfold carN
        rw [hR]
        simp only [stepN, w1]
  have l3 : l__law_carried_2 [.sh (psD P), .sh (.lst (ps.map oD)), .sh (mdD made), .sh (.lst ((cols P).map pD)), x4, .no, .ow 1 (.lst []), .no, .no, .no, .no] t0 = some (fl, e', t') := by
    unfold l__law_carried_2
    refine sfor_nx (Z := tz) (e1 := [.sh (psD P), .sh (.lst (ps.map oD)), .sh (mdD made), .sh (.lst ((cols P).map pD)), x4, .no, .ow 1 (.lst []), .no, .no, .no, .no]) (t1 := t0) (ds := (List.range ps.length).map nD) ?_ l1
    have ll : len1 [.lst (ps.map oD)] = some (nD ps.length) := by simp [len1]
    generalize ps.map oD = PD at ll
    simp [mop, ev2, ev1, evA, getA, look, slotOk, mcst, mvar, asB, mlst, mtup, mcons, mnil, mfn, mfnL, evN, evAs, getAs, mite, band, bor, bnot, mand, mor, mnot, mcall, iseq, irange1, irange2, sset, ssetO, sret, sdrop, snil, sif, gset, mmut, isL1, ssub, spar, evOs, setSls, slOf, sasg, gtup, gcons, gnil, mslice, osome, onone, mopL, mlensetA, misinst, mmt, kindD, saug, byes, ll, b1, range0]
  have go : ∀ x : Option (Fl × List Sl × tz.T), (scons l__law_carried_2 (sret (mcst (.bl true)))) [.sh (psD P), .sh (.lst (ps.map oD)), .sh (mdD made), .sh (.lst ((cols P).map pD)), x4, .no, .ow 1 (.lst []), .no, .no, .no, .no] t0 = x →
      m__law_carried [.sh (psD P), .sh (.lst (ps.map oD)), .sh (mdD made), .no, .no, .no, .no, .no, .no, .no, .no] t0 = x := fun x hx => by
    unfold m__law_carried
    refine scons_nx (Z := tz) (e1 := [.sh (psD P), .sh (.lst (ps.map oD)), .sh (mdD made), .sh (.lst []), .no, .no, .no, .no, .no, .no, .no]) (t1 := t0) rfl (scons_nx (Z := tz) cr (scons_nx (Z := tz) (e1 := [.sh (psD P), .sh (.lst (ps.map oD)), .sh (mdD made), .sh (.lst ((cols P).map pD)), x4, .no, .ow 1 (.lst []), .no, .no, .no, .no]) (t1 := t0) rfl hx))
  rcases l2 with ⟨rfl, rfl, R, hR, _, _, y4, y5, y7, y8, y9, y10, rfl⟩ | ⟨r, rfl, rfl, rfl, hn⟩
  · have e : lawCar P ps made = true := by
      rw [List.length_map, List.length_range] at hR
      unfold lawCar
      rw [hR]; rfl
    rw [e]
    refine runFn_at (Z := tz) (e1 := [.sh (psD P), .sh (.lst (ps.map oD)), .sh (mdD made), .sh (.lst ((cols P).map pD)), y4, y5, .ow 1 (.lst (R.map natsD)), y7, y8, y9, y10]) [.sh (psD P), .sh (.lst (ps.map oD)), .sh (mdD made), .no, .no, .no, .no, .no, .no, .no, .no] rfl ?_
    exact go _ (scons_nx (Z := tz) l3 rfl)
  · have e : lawCar P ps made = false := by
      unfold lawCar
      rw [hn]; rfl
    rw [e]
    refine runFn_at (Z := tz) (e1 := e') [.sh (psD P), .sh (.lst (ps.map oD)), .sh (mdD made), .no, .no, .no, .no, .no, .no, .no, .no] rfl ?_
    exact go _ (scons_rt (Z := tz) l3)
end K38

namespace K38
open PySem L2 DL

theorem take_ex (n : Nat) (h0 : 0 < n) (h1 : n < 1073741824) (t : Tp) : ∃ (r : Nat) (t' : Tp), f__law_take [.tape, nD n] t = some (nD r, t') ∧ r < n := by
  have e := takeF_eq (n := (n : Int)) (t := t) (by omega)
  obtain ⟨a, b⟩ := tkR_lt (t := t) (n := (n : Int)) (by omega)
  refine ⟨(tkR t n).toNat, tkT t n, ?_, by omega⟩
  have z : ((tkR t n).toNat : Int) = tkR t n := by omega
  rw [show f__law_take = takeF from rfl, e, nD, z]
theorem pick_ex (ds : List D) (h0 : 0 < ds.length) (h1 : ds.length < 1073741824) (t : Tp) : ∃ (d : D) (t' : Tp), f__law_pick [.tape, .lst ds] t = some (d, t') ∧ d ∈ ds := by
  obtain ⟨r, t', e, hr⟩ := take_ex ds.length h0 h1 t
  refine ⟨ds[r], t', ?_, List.getElem_mem hr⟩
  have i : idxD (.lst ds) (nD r) = some ds[r] := by rw [idx_lst, List.getElem?_eq_getElem hr]
  generalize ds[r] = y at i ⊢
  have l : len1 [.lst ds] = some (nD ds.length) := rfl
  refine runFn_at (Z := tz) (e1 := [.sh .tape, .sh (.lst ds)]) [.sh .tape, .sh (.lst ds)] rfl ?_
  unfold m__law_pick
  generalize ds.length = len at e l
  obtain ⟨F, hF⟩ : ∃ z, z = f__law_take := ⟨_, rfl⟩
  rw [← hF] at e ⊢
  clear hF
  simp [mop, ev2, ev1, evA, getA, look, slotOk, mcst, mvar, asB, mlst, mtup, mcons, mnil, mfn, mfnL, evN, evAs, getAs, mite, band, bor, bnot, mand, mor, mnot, mcall, iseq, irange1, irange2, sset, ssetO, sret, sdrop, snil, sif, gset, mmut, isL1, ssub, spar, evOs, setSls, slOf, sasg, gtup, gcons, gnil, mslice, osome, onone, mopL, mlensetA, misinst, mmt, kindD, saug, byes, e, i, l]
structure Eld (E : Pl) : Prop where
  h0 : E[0]? = some none
  hs : ∀ j, 0 < j → j < E.length → ∃ i, i < j ∧ E[j]? = some (some i)
theorem Eld.pr {E : Pl} (h : Eld E) (le : E.length ≤ 7) : Prop1 E := by
  refine ⟨fun j i e => ?_, h.h0, fun j h1 h2 => ?_, le⟩
  · by_cases z : j = 0
    · subst z; rw [h.h0] at e; cases e
    · have hl := (List.getElem?_eq_some_iff.mp e).1
      obtain ⟨m, hm, e2⟩ := h.hs j (by omega) hl
      rw [e2] at e
      cases e
      exact hm
  · obtain ⟨m, _, e⟩ := h.hs j h1 h2
    exact ⟨m, e⟩
theorem Eld.add {E : Pl} (h : Eld E) {m : Nat} (hm : m < E.length) : Eld (E ++ [some m]) := by
  have p : 0 < E.length := (List.getElem?_eq_some_iff.mp h.h0).1
  refine ⟨by rw [List.getElem?_append_left p]; exact h.h0, fun j h1 h2 => ?_⟩
  by_cases q : j < E.length
  · obtain ⟨i, hi, e⟩ := h.hs j h1 q
    exact ⟨i, hi, by rw [List.getElem?_append_left q]; exact e⟩
  · rw [List.length_append, List.length_singleton] at h2
    have : j = E.length := by omega
    subst this
    exact ⟨m, hm, by rw [List.getElem?_append_right (Nat.le_refl _)]; simp⟩
theorem elders_run (X : List D) (k : Sl) (many : Nat) (h1 : 1 ≤ many) (h7 : many ≤ 7) (x5 : Sl) (t0 : Tp) : ∃ E y5 t', Eld E ∧ E.length = many ∧ (y5 = x5 ∨ ∃ d, y5 = .sh d) ∧ l__law_places_1 [.sh .tape, .ow 1 (.lst X), k, .sh (nD many), .ow 1 (.lst [.non]), x5] t0 = some (.nx, [.sh .tape, .ow 1 (.lst X), k, .sh (nD many), .ow 1 (.lst (E.map oD)), y5], t') := by
  have b1 : ((many : Nat) : Int) < 4611686018427387904 := by omega
  obtain ⟨e', t', l1, E, y5, hE, hl, hy, rfl⟩ := forL_nx (Z := tz) (g := gset 5) (b := lb__law_places_1) (ds := (List.range' 1 (many - 1)).map nD) (e := [.sh .tape, .ow 1 (.lst X), k, .sh (nD many), .ow 1 (.lst [.non]), x5]) (t := t0)
    (fun i e t => ∃ E y5, Eld E ∧ E.length = i + 1 ∧ (y5 = x5 ∨ ∃ d, y5 = .sh d) ∧ e = [.sh .tape, .ow 1 (.lst X), k, .sh (nD many), .ow 1 (.lst (E.map oD)), y5]) ⟨[none], x5, ⟨rfl, fun j a b => by simp at b; omega⟩, rfl, .inl rfl, rfl⟩ fun i d e t hd hi => by
      obtain ⟨E, y5, hE, hl, _, rfl⟩ := hi
      have hk : i < many - 1 := by
        have := (List.getElem?_eq_some_iff.mp hd).1
        simpa using this
      have ed : d = nD (1 + i) := by
        rw [List.getElem?_map, List.getElem?_range' hk] at hd
        simpa using hd.symm
      subst ed
      refine ⟨_, rfl, ?_⟩
      obtain ⟨r, t1, e1, hr⟩ := take_ex (1 + i) (by omega) (by omega) t
      obtain ⟨d, t2, e2, hd2⟩ := pick_ex [nD 0, nD i, nD r] (by simp) (by simp) t1
      have : ∃ m, m < 1 + i ∧ d = nD m := by
        simp only [List.mem_cons, List.not_mem_nil, or_false] at hd2
        rcases hd2 with rfl | rfl | rfl
        · exact ⟨0, by omega, rfl⟩
        · exact ⟨i, by omega, rfl⟩
        · exact ⟨r, hr, rfl⟩
      obtain ⟨m, hm, rfl⟩ := this
      refine ⟨.nx, [.sh .tape, .ow 1 (.lst X), k, .sh (nD many), .ow 1 (.lst ((E ++ [some m]).map oD)), .sh (nD (1 + i))], t2, ?_, .inl rfl, E ++ [some m], _, hE.add (by omega), by simp [hl], .inr ⟨_, rfl⟩, rfl⟩
      have z : (((1 + i : Nat) : Int) - 1) = (i : Int) := by omega
      have sl : (E.map oD).length < sizeLine := by
        rw [List.length_map, hl]
        exact Nat.lt_of_lt_of_le (by omega : i + 1 < 8) (by decide)
      have ap : uAppend [nD m] (E.map oD) = some (.non, (E ++ [some m]).map oD) := by
        simp only [uAppend, sl, if_true]
        rw [List.map_append]; rfl
      generalize E.map oD = ED at ap ⊢
      generalize (E ++ [some m]).map oD = EE at ap ⊢
      have e2' : f__law_pick [.tape, .lst [.int 0, nD i, nD r]] t1 = some (nD m, t2) := e2
      generalize hn : 1 + i = n at z e1 ⊢
      unfold lb__law_places_1
      obtain ⟨F, hF⟩ : ∃ z, z = f__law_take := ⟨_, rfl⟩
      rw [← hF] at e1 ⊢
      clear hF
      obtain ⟨G, hG⟩ : ∃ z, z = f__law_pick := ⟨_, rfl⟩
      rw [← hG] at e2' ⊢
      clear hG
      simp [mop, ev2, ev1, evA, getA, look, slotOk, mcst, mvar, asB, mlst, mtup, mcons, mnil, mfn, mfnL, evN, evAs, getAs, mite, band, bor, bnot, mand, mor, mnot, mcall, iseq, irange1, irange2, sset, ssetO, sret, sdrop, snil, sif, gset, mmut, isL1, ssub, spar, evOs, setSls, slOf, sasg, gtup, gcons, gnil, mslice, osome, onone, mopL, mlensetA, misinst, mmt, kindD, saug, byes, e1, e2', subD, z, ap]
  rw [List.length_map, List.length_range'] at hl
  refine ⟨E, y5, t', hE, by omega, hy, ?_⟩
  unfold l__law_places_1
  refine sfor_nx (Z := tz) (e1 := [.sh .tape, .ow 1 (.lst X), k, .sh (nD many), .ow 1 (.lst [.non]), x5]) (t1 := t0) (ds := (List.range' 1 (many - 1)).map nD) ?_ l1
  simp [mop, ev2, ev1, evA, getA, look, slotOk, mcst, mvar, asB, mlst, mtup, mcons, mnil, mfn, mfnL, evN, evAs, getAs, mite, band, bor, bnot, mand, mor, mnot, mcall, iseq, irange1, irange2, sset, ssetO, sret, sdrop, snil, sif, gset, mmut, isL1, ssub, spar, evOs, setSls, slOf, sasg, gtup, gcons, gnil, mslice, osome, onone, mopL, mlensetA, misinst, mmt, kindD, saug, byes, b1, sub1, range1]
theorem mul_w (j : Nat) (h : j ≤ 1000) : mulD (.tup [.str "w"]) (nD j) = some (wD j) := by
  have b1 : ((j : Nat) : Int) ≤ 1000 := by omega
  have b2 : (-(2 ^ 63) : Int) ≤ ((j : Nat) : Int) := by omega
  have e : repD j [D.str "w"] = List.replicate j (.str "w") := by
    unfold repD
    induction j with
    | zero => rfl
    | succ j ih =>
      rw [List.replicate_succ, List.flatten_cons, ih (by omega) (by omega) (by omega), List.replicate_succ]
      rfl
  show (if _ then some (D.tup (repD (Int.toNat (j : Int)) _)) else none) = _
  rw [if_pos ⟨b1, b2, by simp⟩, Int.toNat_natCast, e]
  rfl
theorem places_run (t0 : Tp) : ∃ P t', PP P ∧ 0 < P.length ∧ f__law_places [.tape] t0 = some (psD P, t') := by
  obtain ⟨n5, t1, e5, h5⟩ := take_ex 5 (by omega) (by omega) t0
  obtain ⟨e', t', l1, P, x2, x3, x4, x5, hP, hl, hx, rfl⟩ := forL_nx (Z := tz) (g := gset 2) (b := lb__law_places_2) (ds := (List.range (1 + n5)).map nD) (e := [.sh .tape, .ow 1 (.lst []), .no, .no, .no, .no]) (t := t1)
    (fun i e t => ∃ P x2 x3 x4 x5, (∀ (k : Nat) (E : Pl), P[k]? = some E → Prop1 E) ∧ P.length = i ∧ (x5 = .no ∨ ∃ d, x5 = .sh d) ∧ e = [.sh .tape, .ow 1 (.lst (P.map plD)), x2, x3, x4, x5]) ⟨[], .no, .no, .no, .no, (fun k E e => by simp at e), rfl, .inl rfl, rfl⟩ fun i d e t hd hi => by
      obtain ⟨P, x2, x3, x4, x5, hP, hl, hx, rfl⟩ := hi
      have hk : i < 1 + n5 := by
        have := (List.getElem?_eq_some_iff.mp hd).1
        simpa using this
      have ed : d = nD i := by
        rw [List.getElem?_map, List.getElem?_range hk] at hd
        simpa using hd.symm
      subst ed
      refine ⟨_, rfl, ?_⟩
      obtain ⟨n7, t2, e7, h7⟩ := take_ex 7 (by omega) (by omega) t
      obtain ⟨E, y5, t3, hE, hEl, hy, le⟩ := elders_run (P.map plD) (.sh (nD i)) (1 + n7) (by omega) (by omega) x5 t2
      have pr := hE.pr (by omega)
      have hy' : y5 = .no ∨ ∃ d, y5 = .sh d := by
        rcases hy with rfl | hy
        · exact hx
        · exact .inr hy
      have b1 : (((1 + n7 : Nat) : Int)) < 4611686018427387904 := by omega
      have q : c__law_places_1 [.sh .tape, .ow 1 (.lst (P.map plD)), .sh (nD i), .sh (nD (1 + n7)), .ow 1 (.lst (E.map oD)), y5] t3 = some (.lst ((List.range (1 + n7)).map wD), [.sh .tape, .ow 1 (.lst (P.map plD)), .sh (nD i), .sh (nD (1 + n7)), .ow 1 (.lst (E.map oD)), y5], t3) := by
        generalize hn : 1 + n7 = n at b1 ⊢
        unfold c__law_places_1
        rw [mlc_all (Z := tz) (e1 := [.sh .tape, .ow 1 (.lst (P.map plD)), .sh (nD i), .sh (nD n), .ow 1 (.lst (E.map oD)), y5]) (t1 := t3) nD wD (List.range n)]
        · simp [mop, ev2, ev1, evA, getA, look, slotOk, mcst, mvar, asB, mlst, mtup, mcons, mnil, mfn, mfnL, evN, evAs, getAs, mite, band, bor, bnot, mand, mor, mnot, mcall, iseq, irange1, irange2, sset, ssetO, sret, sdrop, snil, sif, gset, mmut, isL1, ssub, spar, evOs, setSls, slOf, sasg, gtup, gcons, gnil, mslice, osome, onone, mopL, mlensetA, misinst, mmt, kindD, saug, byes, b1, range0]
        · rcases hy' with rfl | ⟨d, rfl⟩ <;> rfl
        · simp; omega
        · intro j hj
          have hj := List.mem_range.mp hj
          have mw := mul_w j (by omega)
          refine ⟨[.sh .tape, .ow 1 (.lst (P.map plD)), .sh (nD i), .sh (nD n), .ow 1 (.lst (E.map oD)), .sh (nD j)], rfl, rfl, [.sh .tape, .ow 1 (.lst (P.map plD)), .sh (nD i), .sh (nD n), .ow 1 (.lst (E.map oD)), .sh (nD j)], ?_, rfl⟩
          unfold ce__law_places_1
          generalize wD j = y at mw ⊢
          simp [mop, ev2, ev1, evA, getA, look, slotOk, mcst, mvar, asB, mlst, mtup, mcons, mnil, mfn, mfnL, evN, evAs, getAs, mite, band, bor, bnot, mand, mor, mnot, mcall, iseq, irange1, irange2, sset, ssetO, sret, sdrop, snil, sif, gset, mmut, isL1, ssub, spar, evOs, setSls, slOf, sasg, gtup, gcons, gnil, mslice, osome, onone, mopL, mlensetA, misinst, mmt, kindD, saug, byes, mw]
      have pe : D.tup [.tup ((List.range (1 + n7)).map wD), .tup (E.map oD)] = plD E := by unfold plD; rw [hEl]
      have sl : (P.map plD).length < sizeLine := by
        rw [List.length_map, hl]
        exact Nat.lt_of_lt_of_le (by omega : i < 1000) (by decide)
      have ap : uAppend [plD E] (P.map plD) = some (.non, (P ++ [E]).map plD) := by
        simp only [uAppend, sl, if_true]
        rw [List.map_append]; rfl
      refine ⟨.nx, [.sh .tape, .ow 1 (.lst ((P ++ [E]).map plD)), .sh (nD i), .sh (nD (1 + n7)), .ow 1 (.lst (E.map oD)), y5], t3, ?_, .inl rfl, P ++ [E], _, _, _, _, ?_, by simp [hl], hy', rfl⟩
      · unfold lb__law_places_2
        refine scons_nx (Z := tz) (e1 := [.sh .tape, .ow 1 (.lst (P.map plD)), .sh (nD i), .sh (nD (1 + n7)), x4, x5]) (t1 := t2) ?_ (scons_nx (Z := tz) (e1 := [.sh .tape, .ow 1 (.lst (P.map plD)), .sh (nD i), .sh (nD (1 + n7)), .ow 1 (.lst [.non]), x5]) (t1 := t2) rfl (scons_nx (Z := tz) le ?_))
        · have z : (1 : Int) + (n7 : Int) = ((1 + n7 : Nat) : Int) := by omega
          generalize 1 + n7 = n at z
          obtain ⟨F, hF⟩ : ∃ z, z = f__law_take := ⟨_, rfl⟩
          rw [← hF] at e7 ⊢
          clear hF
          have e7' : F [.tape, .int 7] t = some (nD n7, t2) := e7
          simp [mop, ev2, ev1, evA, getA, look, slotOk, mcst, mvar, asB, mlst, mtup, mcons, mnil, mfn, mfnL, evN, evAs, getAs, mite, band, bor, bnot, mand, mor, mnot, mcall, iseq, irange1, irange2, sset, ssetO, sret, sdrop, snil, sif, gset, mmut, isL1, ssub, spar, evOs, setSls, slOf, sasg, gtup, gcons, gnil, mslice, osome, onone, mopL, mlensetA, misinst, mmt, kindD, saug, byes, e7', addD, z]
        · rw [← pe] at ap
          generalize (List.range (1 + n7)).map wD = W at q ap
          generalize E.map oD = ED at q ap ⊢
          generalize (P ++ [E]).map plD = PE at ap ⊢
          generalize P.map plD = PD at q ap ⊢
          generalize 1 + n7 = n at q ⊢
          obtain ⟨C, hC⟩ : ∃ z, z = c__law_places_1 := ⟨_, rfl⟩
          rw [← hC] at q ⊢
          clear hC
          simp [mop, ev2, ev1, evA, getA, look, slotOk, mcst, mvar, asB, mlst, mtup, mcons, mnil, mfn, mfnL, evN, evAs, getAs, mite, band, bor, bnot, mand, mor, mnot, mcall, iseq, irange1, irange2, sset, ssetO, sret, sdrop, snil, sif, gset, mmut, isL1, ssub, spar, evOs, setSls, slOf, sasg, gtup, gcons, gnil, mslice, osome, onone, mopL, mlensetA, misinst, mmt, kindD, saug, byes, q, tuple1, ap]
      · intro k F e
        by_cases z : k < P.length
        · rw [List.getElem?_append_left z] at e
          exact hP k F e
        · rw [List.getElem?_append_right (by omega)] at e
          have : k - P.length = 0 := by
            have := (List.getElem?_eq_some_iff.mp e).1
            simp at this
            omega
          rw [this] at e
          simp at e
          rw [← e]; exact pr
  rw [List.length_map, List.length_range] at hl
  refine ⟨P, t', ⟨hP, by omega⟩, by omega, ?_⟩
  have src : l__law_places_2 [.sh .tape, .ow 1 (.lst []), .no, .no, .no, .no] t0 = some (.nx, [.sh .tape, .ow 1 (.lst (P.map plD)), x2, x3, x4, x5], t') := by
    unfold l__law_places_2
    refine sfor_nx (Z := tz) (e1 := [.sh .tape, .ow 1 (.lst []), .no, .no, .no, .no]) (t1 := t1) (ds := (List.range (1 + n5)).map nD) ?_ l1
    have z : (1 : Int) + (n5 : Int) = ((1 + n5 : Nat) : Int) := by omega
    have b1 : (((1 + n5 : Nat) : Int)) < 4611686018427387904 := by omega
    generalize 1 + n5 = n at z b1 ⊢
    obtain ⟨F, hF⟩ : ∃ z, z = f__law_take := ⟨_, rfl⟩
    rw [← hF] at e5 ⊢
    clear hF
    have e5' : F [.tape, .int 5] t0 = some (nD n5, t1) := e5
    simp [mop, ev2, ev1, evA, getA, look, slotOk, mcst, mvar, asB, mlst, mtup, mcons, mnil, mfn, mfnL, evN, evAs, getAs, mite, band, bor, bnot, mand, mor, mnot, mcall, iseq, irange1, irange2, sset, ssetO, sret, sdrop, snil, sif, gset, mmut, isL1, ssub, spar, evOs, setSls, slOf, sasg, gtup, gcons, gnil, mslice, osome, onone, mopL, mlensetA, misinst, mmt, kindD, saug, byes, e5', addD, z, b1, range0]
  unfold psD
  generalize P.map plD = X at src ⊢
  refine runFn_at (Z := tz) (e1 := [.sh .tape, .ow 1 (.lst X), x2, x3, x4, x5]) [.sh .tape, .no, .no, .no, .no, .no] rfl ?_
  refine scons_nx (Z := tz) (e1 := [.sh .tape, .ow 1 (.lst []), .no, .no, .no, .no]) (t1 := t0) rfl (scons_nx (Z := tz) src ?_)
  simp [mop, ev2, ev1, evA, getA, look, slotOk, mcst, mvar, asB, mlst, mtup, mcons, mnil, mfn, mfnL, evN, evAs, getAs, mite, band, bor, bnot, mand, mor, mnot, mcall, iseq, irange1, irange2, sset, ssetO, sret, sdrop, snil, sif, gset, mmut, isL1, ssub, spar, evOs, setSls, slOf, sasg, gtup, gcons, gnil, mslice, osome, onone, mopL, mlensetA, misinst, mmt, kindD, saug, byes, tuple1]
end K38

namespace K38
open PySem L2 DL

theorem rowC_app {P : List Pl} {e : Nat} : ∀ {es : List Nat} {s s' : List Nat × List Nat}, rowC P es s = some s' → rowC P (es ++ [e]) s = stepC P s' e
  | [], s, s', h => by
    simp only [rowC, Option.some.injEq] at h
    subst h
    simp only [List.nil_append, rowC]
    cases stepC P s e <;> rfl
  | x :: es, s, s', h => by
    simp only [rowC, List.cons_append] at h ⊢
    split at h
    · rename_i s1 q
      exact rowC_app h
    · cases h
theorem col_num {P : List Pl} {k j : Nat} (hk : k < P.length) (h1 : 1 ≤ j) (h2 : j < (pl P k).length) : col P (num P k j) = (k, j) := by
  have := cols_num P hk h1 h2
  unfold col
  rw [List.getD_eq_getElem?_getD, this]; rfl
theorem num_offs (P : List Pl) (k j : Nat) : num P k j = offs P k + j - 1 := rfl
structure In1 (P : List Pl) (now0 : List Nat) (i : Nat) (mine errs : List Nat) : Prop where
  row : ∃ T, rowC P errs ([], now0) = some (T, mine) ∧ ∀ k ∈ T, k < i
  rd : Rd P mine
  lt : ∀ e ∈ errs, e < offs P i
  asc : errs.Pairwise (· < ·)
  le : errs.length ≤ i
theorem In1.keep {P : List Pl} {now0 mine errs : List Nat} {i : Nat} (h : In1 P now0 i mine errs) (hi : i < P.length) : In1 P now0 (i + 1) mine errs := by
  obtain ⟨T, r, t⟩ := h.row
  exact ⟨⟨T, r, fun k hk => Nat.lt_succ_of_lt (t k hk)⟩, h.rd, fun e he => by rw [offs_succ hi]; have := h.lt e he; omega, h.asc, Nat.le_succ_of_le h.le⟩
theorem In1.grow {P : List Pl} {now0 mine errs : List Nat} {i j : Nat} (h : In1 P now0 i mine errs) (hi : i < P.length) (h1 : 1 ≤ j) (h2 : j < (pl P i).length) (ho : (pl P i).getD j none = some (mine.getD i 0)) : In1 P now0 (i + 1) (mine.set i j) (errs ++ [num P i j]) := by
  obtain ⟨T, r, t⟩ := h.row
  have hlen := h.rd.len
  refine ⟨⟨T ++ [i], ?_, fun k hk => ?_⟩, ⟨by rw [List.length_set]; exact hlen, fun k hk => ?_⟩, fun e he => ?_, ?_, ?_⟩
  · rw [rowC_app r]
    unfold stepC
    rw [col_num hi h1 h2]
    rw [if_neg]
    simp only [not_or, ne_eq, Decidable.not_not]
    exact ⟨fun z => by have := t i z; omega, ho⟩
  · rcases List.mem_append.mp hk with z | z
    · have := t k z; omega
    · have : k = i := by simpa using z
      omega
  · rw [List.getD_eq_getElem?_getD, List.getElem?_set]
    by_cases q : i = k
    · subst q
      rw [if_pos rfl, if_pos (by rw [hlen]; exact hi)]
      exact h2
    · rw [if_neg q]
      have := h.rd.lt k hk
      rwa [List.getD_eq_getElem?_getD] at this
  · rw [offs_succ hi]
    rcases List.mem_append.mp he with z | z
    · have := h.lt e z; omega
    · have : e = num P i j := by simpa using z
      rw [this, num_offs]
      omega
  · rw [List.pairwise_append]
    refine ⟨h.asc, by simp, fun a ha b hb => ?_⟩
    have : b = num P i j := by simpa using hb
    rw [this, num_offs]
    have := h.lt a ha
    omega
  · have := h.le
    simp; omega
theorem notin_ex (x : Nat × Nat) (us : List (Nat × Nat)) : notinD (.tup [nD x.1, nD x.2]) (.lst (us.map pD)) = some (.bl (!memD (pD x) (us.map pD))) := by
  have o2 : ((us.map pD).all (okD 30)) = true := by
    rw [List.all_eq_true]
    intro y hy
    obtain ⟨i, _, rfl⟩ := List.mem_map.mp hy
    simp [okD, pD]
  have o1 : okD 30 (pD x) = true := by simp [okD, pD]
  show notinD (pD x) _ = _
  simp [notinD, seqD, o1, o2]
def frP (P : List Pl) (mine : List Nat) (us : List (Nat × Nat)) (i j : Nat) : Bool := decide ((pl P i).getD j none = some (mine.getD i 0)) && !memD (pD (i, j)) (us.map pD)
theorem fresh_run {P : List Pl} (h : PP P) {mine : List Nat} (hr : Rd P mine) (us : List (Nat × Nat)) {i : Nat} (hi : i < P.length) (pa ma re x6 x7 x9 : Sl) (t : Tp) (x11 : Sl) :
    c__law_history_1 [.sh .tape, .sh (psD P), pa, ma, re, .ow 1 (.lst (us.map pD)), x6, x7, .ow 1 (.lst (mine.map nD)), x9, .sh (nD i), x11, .no] t = some (.lst (((in1 P i).filter (frP P mine us i)).map nD), [.sh .tape, .sh (psD P), pa, ma, re, .ow 1 (.lst (us.map pD)), x6, x7, .ow 1 (.lst (mine.map nD)), x9, .sh (nD i), x11, .no], t) := by
  have b2 := pl_le h i
  have b3 : (((pl P i).length : Nat) : Int) < 4611686018427387904 := by omega
  have i1 : idxD (.lst (mine.map nD)) (nD i) = some (nD (mine.getD i 0)) := by rw [ixl, List.getD_eq_getElem?_getD, List.getElem?_eq_getElem (by rw [hr.len]; exact hi)]; rfl
  unfold c__law_history_1
  rw [mlc_map (Z := tz) (e1 := [.sh .tape, .sh (psD P), pa, ma, re, .ow 1 (.lst (us.map pD)), x6, x7, .ow 1 (.lst (mine.map nD)), x9, .sh (nD i), x11, .no]) (t1 := t) nD (frP P mine us i) nD (in1 P i)]
  · generalize us.map pD = U
    generalize mine.map nD = M
    simp [mop, ev2, ev1, evA, getA, look, slotOk, mcst, mvar, asB, mlst, mtup, mcons, mnil, mfn, mfnL, evN, evAs, getAs, mite, band, bor, bnot, mand, mor, mnot, mcall, iseq, irange1, irange2, sset, ssetO, sret, sdrop, snil, sif, gset, mmut, isL1, ssub, spar, evOs, setSls, slOf, sasg, gtup, gcons, gnil, mslice, osome, onone, mopL, mlensetA, misinst, mmt, kindD, saug, byes, ixP hi, pl_0, len1, b3, sub1, range1, in1]
  · rfl
  · simp [in1]; omega
  · intro j hj
    unfold in1 at hj
    rw [List.mem_range'_1] at hj
    have hj2 : j < (pl P i).length := by omega
    have ej : (pl P i).getD j none = (pl P i)[j] := by rw [List.getD_eq_getElem?_getD, List.getElem?_eq_getElem hj2]; rfl
    have i2 := ixE hj2
    have i3 := eq_o (pl P i)[j] (mine.getD i 0)
    have i4 := notin_ex (i, j) us
    refine ⟨[.sh .tape, .sh (psD P), pa, ma, re, .ow 1 (.lst (us.map pD)), x6, x7, .ow 1 (.lst (mine.map nD)), x9, .sh (nD i), x11, .sh (nD j)], rfl, rfl, ?_, fun _ => ⟨[.sh .tape, .sh (psD P), pa, ma, re, .ow 1 (.lst (us.map pD)), x6, x7, .ow 1 (.lst (mine.map nD)), x9, .sh (nD i), x11, .sh (nD j)], rfl, rfl⟩⟩
    unfold frP
    rw [ej]
    generalize decide ((pl P i)[j] = some (mine.getD i 0)) = c1 at i3 ⊢
    generalize oD (pl P i)[j] = y at i2 i3
    generalize nD (mine.getD i 0) = z at i1 i3
    generalize memD (pD (i, j)) (us.map pD) = c2 at i4 ⊢
    generalize us.map pD = U at i4 ⊢
    generalize mine.map nD = M at i1 ⊢
    dsimp only at i4
    unfold ct__law_history_1
    cases c1
    · simp [mop, ev2, ev1, evA, getA, look, slotOk, mcst, mvar, asB, mlst, mtup, mcons, mnil, mfn, mfnL, evN, evAs, getAs, mite, band, bor, bnot, mand, mor, mnot, mcall, iseq, irange1, irange2, sset, ssetO, sret, sdrop, snil, sif, gset, mmut, isL1, ssub, spar, evOs, setSls, slOf, sasg, gtup, gcons, gnil, mslice, osome, onone, mopL, mlensetA, misinst, mmt, kindD, saug, byes, ixP hi, pl_1, i1, i2, i3]
    · simp [mop, ev2, ev1, evA, getA, look, slotOk, mcst, mvar, asB, mlst, mtup, mcons, mnil, mfn, mfnL, evN, evAs, getAs, mite, band, bor, bnot, mand, mor, mnot, mcall, iseq, irange1, irange2, sset, ssetO, sret, sdrop, snil, sif, gset, mmut, isL1, ssub, spar, evOs, setSls, slOf, sasg, gtup, gcons, gnil, mslice, osome, onone, mopL, mlensetA, misinst, mmt, kindD, saug, byes, ixP hi, pl_1, i1, i2, i3, i4]
theorem turn_run {P : List Pl} (h : PP P) {now0 mine errs : List Nat} (us : List (Nat × Nat)) {i : Nat} (hi : i < P.length) (In : In1 P now0 i mine errs) (hus : us.length < 1000) (pa ma re x6 x7 x11 : Sl) (t : Tp) :
    ∃ (mine' errs' : List Nat) (us' : List (Nat × Nat)) (t' : Tp) (y11 : Sl), In1 P now0 (i + 1) mine' errs' ∧ us'.length ≤ us.length + 1 ∧
      lb__law_history_1 [.sh .tape, .sh (psD P), pa, ma, re, .ow 1 (.lst (us.map pD)), x6, x7, .ow 1 (.lst (mine.map nD)), .ow 1 (.lst (errs.map nD)), .sh (nD i), x11, .no] t = some (.nx, [.sh .tape, .sh (psD P), pa, ma, re, .ow 1 (.lst (us'.map pD)), x6, x7, .ow 1 (.lst (mine'.map nD)), .ow 1 (.lst (errs'.map nD)), .sh (nD i), y11, .no], t') := by
  have fr := fresh_run h In.rd us hi pa ma re x6 x7 (.ow 1 (.lst (errs.map nD))) t x11
  generalize hF : (in1 P i).filter (frP P mine us i) = Fr at fr
  have ll : len1 [.lst (Fr.map nD)] = some (nD Fr.length) := by simp [len1]
  have g1 : gtD (nD Fr.length) (.int 0) = some (.bl (decide (0 < Fr.length))) := by
    simp [gtD, cmpD]
  by_cases z : 0 < Fr.length
  · rw [decide_eq_true z] at g1
    obtain ⟨r, t1, e1, hr⟩ := take_ex 3 (by omega) (by omega) t
    have e1' : f__law_take [.tape, .int 3] t = some (nD r, t1) := e1
    have q1 : eqD (nD r) (.int 0) = some (.bl (decide (r = 0))) := by
      by_cases w : r = 0
      · subst w; simp [eqD, scalD, eqvD]
      · rw [decide_eq_false w]
        have : ((r : Int) == 0) = false := beq_eq_false_iff_ne.mpr (by omega)
        simp [eqD, scalD, eqvD, this]
    by_cases w : r = 0
    · rw [decide_eq_true w] at q1
      obtain ⟨d, t2, e2, hd⟩ := pick_ex (Fr.map nD) (by simpa using z) (by
        have a : Fr.length ≤ (in1 P i).length := by rw [← hF]; exact List.length_filter_le _ _
        have b := pl_le h i
        simp [in1] at a
        simp
        omega) t1
      obtain ⟨j, hj, rfl⟩ := List.mem_map.mp hd
      rw [← hF, List.mem_filter] at hj
      obtain ⟨hj1, hj2⟩ := hj
      unfold in1 at hj1
      rw [List.mem_range'_1] at hj1
      have ho : (pl P i).getD j none = some (mine.getD i 0) := by
        unfold frP at hj2
        rw [Bool.and_eq_true] at hj2
        exact of_decide_eq_true hj2.1
      have I2 := In.grow hi hj1.1 (by omega) ho
      have ln := lnum_run h hi hj1.1 t2
      have ml : mine.length = P.length := In.rd.len
      refine ⟨mine.set i j, errs ++ [num P i j], us ++ [(i, j)], t2, .sh (.lst (Fr.map nD)), I2, by simp, ?_⟩
      have ix : ixN (mine.map nD).length (i : Int) = some i := ixN_nat (by rw [List.length_map]; omega)
      have e3 : (mine.set i j).map nD = (mine.map nD).set i (nD j) := by rw [List.map_set]
      have i5 : idxD (.lst ((mine.map nD).set i (nD j))) (nD i) = some (nD j) := by
        rw [idx_lst, List.getElem?_set, if_pos rfl, if_pos (by rw [List.length_map]; omega)]
      have sl1 : (us.map pD).length < sizeLine := by rw [List.length_map]; exact Nat.lt_trans hus (by decide)
      have ap1 : uAppend [.tup [nD i, nD j]] (us.map pD) = some (.non, (us ++ [(i, j)]).map pD) := by
        simp only [uAppend, sl1, if_true]
        rw [List.map_append]; rfl
      have sl2 : (errs.map nD).length < sizeLine := by
        rw [List.length_map]
        have := In.le
        have := h.le
        exact Nat.lt_of_le_of_lt (by omega : errs.length ≤ 5) (by decide)
      have ap2 : uAppend [nD (num P i j)] (errs.map nD) = some (.non, (errs ++ [num P i j]).map nD) := by
        simp only [uAppend, sl2, if_true]
        rw [List.map_append]; rfl
      rw [e3]
      generalize (us ++ [(i, j)]).map pD = U2 at ap1 ⊢
      generalize us.map pD = U at fr ap1 ⊢
      generalize (errs ++ [num P i j]).map nD = E2 at ap2 ⊢
      generalize errs.map nD = E at fr ap2 ⊢
      generalize nD (num P i j) = nm at ap2 ln
      generalize hM2 : (mine.map nD).set i (nD j) = M2 at i5 ⊢
      generalize mine.map nD = M at fr ix hM2 ⊢
      generalize Fr.map nD = L at fr ll e2 ⊢
      unfold lb__law_history_1
      refine scons_nx (Z := tz) (e1 := [.sh .tape, .sh (psD P), pa, ma, re, .ow 1 (.lst U), x6, x7, .ow 1 (.lst M), .ow 1 (.lst E), .sh (nD i), .sh (.lst L), .no]) (t1 := t) ?_ ?_
      · obtain ⟨C, hC⟩ : ∃ z, z = c__law_history_1 := ⟨_, rfl⟩
        rw [← hC] at fr ⊢
        clear hC
        simp [mop, ev2, ev1, evA, getA, look, slotOk, mcst, mvar, asB, mlst, mtup, mcons, mnil, mfn, mfnL, evN, evAs, getAs, mite, band, bor, bnot, mand, mor, mnot, mcall, iseq, irange1, irange2, sset, ssetO, sret, sdrop, snil, sif, gset, mmut, isL1, ssub, spar, evOs, setSls, slOf, sasg, gtup, gcons, gnil, mslice, osome, onone, mopL, mlensetA, misinst, mmt, kindD, saug, byes, fr]
      · obtain ⟨F1, hF1⟩ : ∃ z, z = f__law_take := ⟨_, rfl⟩
        rw [← hF1] at e1' ⊢
        clear hF1
        obtain ⟨F2, hF2⟩ : ∃ z, z = f__law_pick := ⟨_, rfl⟩
        rw [← hF2] at e2 ⊢
        clear hF2
        obtain ⟨F3, hF3⟩ : ∃ z, z = f__law_number := ⟨_, rfl⟩
        rw [← hF3] at ln ⊢
        clear hF3
        simp [mop, ev2, ev1, evA, getA, look, slotOk, mcst, mvar, asB, mlst, mtup, mcons, mnil, mfn, mfnL, evN, evAs, getAs, mite, band, bor, bnot, mand, mor, mnot, mcall, iseq, irange1, irange2, sset, ssetO, sret, sdrop, snil, sif, gset, mmut, isL1, ssub, spar, evOs, setSls, slOf, sasg, gtup, gcons, gnil, mslice, osome, onone, mopL, mlensetA, misinst, mmt, kindD, saug, byes, ll, g1, e1', q1, scons, e2, ix, hM2, i5, ap1, ln, ap2]
    · rw [decide_eq_false w] at q1
      refine ⟨mine, errs, us, t1, .sh (.lst (Fr.map nD)), In.keep hi, by omega, ?_⟩
      generalize us.map pD = U at fr ⊢
      generalize errs.map nD = E at fr ⊢
      generalize mine.map nD = M at fr ⊢
      generalize Fr.map nD = L at fr ll ⊢
      unfold lb__law_history_1
      refine scons_nx (Z := tz) (e1 := [.sh .tape, .sh (psD P), pa, ma, re, .ow 1 (.lst U), x6, x7, .ow 1 (.lst M), .ow 1 (.lst E), .sh (nD i), .sh (.lst L), .no]) (t1 := t) ?_ ?_
      · obtain ⟨C, hC⟩ : ∃ z, z = c__law_history_1 := ⟨_, rfl⟩
        rw [← hC] at fr ⊢
        clear hC
        simp [mop, ev2, ev1, evA, getA, look, slotOk, mcst, mvar, asB, mlst, mtup, mcons, mnil, mfn, mfnL, evN, evAs, getAs, mite, band, bor, bnot, mand, mor, mnot, mcall, iseq, irange1, irange2, sset, ssetO, sret, sdrop, snil, sif, gset, mmut, isL1, ssub, spar, evOs, setSls, slOf, sasg, gtup, gcons, gnil, mslice, osome, onone, mopL, mlensetA, misinst, mmt, kindD, saug, byes, fr]
      · obtain ⟨F1, hF1⟩ : ∃ z, z = f__law_take := ⟨_, rfl⟩
        rw [← hF1] at e1' ⊢
        clear hF1
        simp [mop, ev2, ev1, evA, getA, look, slotOk, mcst, mvar, asB, mlst, mtup, mcons, mnil, mfn, mfnL, evN, evAs, getAs, mite, band, bor, bnot, mand, mor, mnot, mcall, iseq, irange1, irange2, sset, ssetO, sret, sdrop, snil, sif, gset, mmut, isL1, ssub, spar, evOs, setSls, slOf, sasg, gtup, gcons, gnil, mslice, osome, onone, mopL, mlensetA, misinst, mmt, kindD, saug, byes, ll, g1, e1', q1]
  · rw [decide_eq_false z] at g1
    refine ⟨mine, errs, us, t, .sh (.lst (Fr.map nD)), In.keep hi, by omega, ?_⟩
    generalize us.map pD = U at fr ⊢
    generalize errs.map nD = E at fr ⊢
    generalize mine.map nD = M at fr ⊢
    generalize Fr.map nD = L at fr ll ⊢
    unfold lb__law_history_1
    refine scons_nx (Z := tz) (e1 := [.sh .tape, .sh (psD P), pa, ma, re, .ow 1 (.lst U), x6, x7, .ow 1 (.lst M), .ow 1 (.lst E), .sh (nD i), .sh (.lst L), .no]) (t1 := t) ?_ ?_
    · obtain ⟨C, hC⟩ : ∃ z, z = c__law_history_1 := ⟨_, rfl⟩
      rw [← hC] at fr ⊢
      clear hC
      simp [mop, ev2, ev1, evA, getA, look, slotOk, mcst, mvar, asB, mlst, mtup, mcons, mnil, mfn, mfnL, evN, evAs, getAs, mite, band, bor, bnot, mand, mor, mnot, mcall, iseq, irange1, irange2, sset, ssetO, sret, sdrop, snil, sif, gset, mmut, isL1, ssub, spar, evOs, setSls, slOf, sasg, gtup, gcons, gnil, mslice, osome, onone, mopL, mlensetA, misinst, mmt, kindD, saug, byes, fr]
    · simp [mop, ev2, ev1, evA, getA, look, slotOk, mcst, mvar, asB, mlst, mtup, mcons, mnil, mfn, mfnL, evN, evAs, getAs, mite, band, bor, bnot, mand, mor, mnot, mcall, iseq, irange1, irange2, sset, ssetO, sret, sdrop, snil, sif, gset, mmut, isL1, ssub, spar, evOs, setSls, slOf, sasg, gtup, gcons, gnil, mslice, osome, onone, mopL, mlensetA, misinst, mmt, kindD, saug, byes, ll, g1]
theorem inner_hist {P : List Pl} (h : PP P) {now0 : List Nat} (hr : Rd P now0) (us : List (Nat × Nat)) (hus : us.length ≤ 900) (pa ma re x6 x7 x10 x11 : Sl) (t0 : Tp) :
    ∃ (mine errs : List Nat) (us' : List (Nat × Nat)) (t' : Tp) (y10 y11 : Sl), In1 P now0 P.length mine errs ∧ us'.length ≤ us.length + 5 ∧
      l__law_history_1 [.sh .tape, .sh (psD P), pa, ma, re, .ow 1 (.lst (us.map pD)), x6, x7, .ow 1 (.lst (now0.map nD)), .ow 1 (.lst []), x10, x11, .no] t0 = some (.nx, [.sh .tape, .sh (psD P), pa, ma, re, .ow 1 (.lst (us'.map pD)), x6, x7, .ow 1 (.lst (mine.map nD)), .ow 1 (.lst (errs.map nD)), y10, y11, .no], t') := by
  have le := h.le
  have b1 : ((P.length : Nat) : Int) < 4611686018427387904 := by omega
  obtain ⟨e', t', l1, mine, errs, us', y10, y11, I, hl, rfl⟩ := forL_nx (Z := tz) (g := gset 10) (b := lb__law_history_1) (ds := (List.range P.length).map nD) (e := [.sh .tape, .sh (psD P), pa, ma, re, .ow 1 (.lst (us.map pD)), x6, x7, .ow 1 (.lst (now0.map nD)), .ow 1 (.lst []), x10, x11, .no]) (t := t0)
    (fun i e t => ∃ (mine errs : List Nat) (us' : List (Nat × Nat)) (y10 y11 : Sl), In1 P now0 i mine errs ∧ us'.length ≤ us.length + i ∧ e = [.sh .tape, .sh (psD P), pa, ma, re, .ow 1 (.lst (us'.map pD)), x6, x7, .ow 1 (.lst (mine.map nD)), .ow 1 (.lst (errs.map nD)), y10, y11, .no])
    ⟨now0, [], us, x10, x11, ⟨⟨[], rfl, fun k hk => by cases hk⟩, hr, (fun e he => by cases he), List.Pairwise.nil, Nat.le_refl _⟩, Nat.le_refl _, rfl⟩ fun i d e t hd hi => by
      obtain ⟨mine, errs, us', y10, y11, I, hl, rfl⟩ := hi
      have hk : i < P.length := by
        have := (List.getElem?_eq_some_iff.mp hd).1
        simpa using this
      have ed : d = nD i := by
        rw [List.getElem?_map, List.getElem?_range hk] at hd
        simpa using hd.symm
      subst ed
      obtain ⟨m2, e2, u2, t2, z11, I2, hl2, r⟩ := turn_run h us' hk I (by omega) pa ma re x6 x7 y11 t
      exact ⟨_, rfl, .nx, _, t2, r, .inl rfl, m2, e2, u2, .sh (nD i), z11, I2, by omega, rfl⟩
  rw [List.length_map, List.length_range] at I hl
  refine ⟨mine, errs, us', t', y10, y11, I, by omega, ?_⟩
  unfold l__law_history_1
  refine sfor_nx (Z := tz) (e1 := [.sh .tape, .sh (psD P), pa, ma, re, .ow 1 (.lst (us.map pD)), x6, x7, .ow 1 (.lst (now0.map nD)), .ow 1 (.lst []), x10, x11, .no]) (t1 := t0) (ds := (List.range P.length).map nD) ?_ l1
  simp [mop, ev2, ev1, evA, getA, look, slotOk, mcst, mvar, asB, mlst, mtup, mcons, mnil, mfn, mfnL, evN, evAs, getAs, mite, band, bor, bnot, mand, mor, mnot, mcall, iseq, irange1, irange2, sset, ssetO, sret, sdrop, snil, sif, gset, mmut, isL1, ssub, spar, evOs, setSls, slOf, sasg, gtup, gcons, gnil, mslice, osome, onone, mopL, mlensetA, misinst, mmt, kindD, saug, byes, lenP, b1, range0]
end K38

namespace K38
open PySem L2 DL

structure Hist (P : List Pl) (ps : Pl) (made reads : List (List Nat)) (n : Nat) : Prop where
  pl : ps.length = n
  ml : made.length = n
  rl : reads.length = n
  eld : Eld ps
  car : carN P ps made n = some reads
  rd : ∀ r ∈ reads, Rd P r
  er : Errs P made
  sz : ∀ r ∈ made, r.length ≤ 5
theorem rowOf_app {made : List (List Nat)} {x : List Nat} {i : Nat} (h : i < made.length) : rowOf (made ++ [x]) i = rowOf made i := by
  unfold rowOf
  rw [List.getD_eq_getElem?_getD, List.getD_eq_getElem?_getD, List.getElem?_append_left h]
theorem rowOf_last {made : List (List Nat)} {x : List Nat} : rowOf (made ++ [x]) made.length = x := by
  unfold rowOf
  rw [List.getD_eq_getElem?_getD, List.getElem?_append_right (Nat.le_refl _)]
  simp
theorem carN_pre {P : List Pl} {ps ps' : Pl} {made made' : List (List Nat)} : ∀ n : Nat, (∀ i, i < n → ps'.getD i none = ps.getD i none ∧ rowOf made' i = rowOf made i) → carN P ps' made' n = carN P ps made n
  | 0, _ => rfl
  | n + 1, h => by
    unfold carN
    rw [carN_pre n fun i hi => h i (by omega)]
    cases carN P ps made n with
    | none => rfl
    | some R =>
      simp only [stepN, base]
      obtain ⟨a, b⟩ := h n (by omega)
      rw [a, b]
theorem offs_cols (P : List Pl) : offs P P.length = (cols P).length := by
  unfold offs
  rw [List.take_length, cols_len]
theorem Hist.start {P : List Pl} (h : PP P) : Hist P [none] [[]] [List.replicate P.length 0] 1 := by
  refine ⟨rfl, rfl, rfl, ⟨rfl, fun j a b => by simp at b; omega⟩, ?_, fun r hr => ?_, fun s hs e he => ?_, fun r hr => ?_⟩
  · rfl
  · have : r = List.replicate P.length 0 := by simpa using hr
    subst this
    refine ⟨by simp, fun k hk => ?_⟩
    rw [List.getD_eq_getElem?_getD, List.getElem?_replicate, if_pos hk]
    exact (h.at hk).pos
  · have : s = 0 := by simp at hs; omega
    subst this
    cases he
  · have : r = [] := by simpa using hr
    subst this
    simp
theorem Hist.add {P : List Pl} (hP : PP P) {ps : Pl} {made reads : List (List Nat)} {n m : Nat} (h : Hist P ps made reads n) (hm : m < n) {mine errs : List Nat} (I : In1 P (reads.getD m []) P.length mine errs) : Hist P (ps ++ [some m]) (made ++ [errs]) (reads ++ [mine]) (n + 1) := by
  have ele := I.le
  have ple := hP.le
  refine ⟨by simp [h.pl], by simp [h.ml], by simp [h.rl], h.eld.add (by rw [h.pl]; exact hm), ?_, fun r hr => ?_, fun s hs e he => ?_, fun r hr => ?_⟩
  · obtain ⟨T, r, _⟩ := I.row
    unfold carN
    rw [carN_pre (ps := ps) (made := made) n fun i hi => ⟨?_, rowOf_app (by rw [h.ml]; exact hi)⟩, h.car]
    · have hb : base P (ps ++ [some m]) reads n = reads.getD m [] := by
        unfold base
        have : (ps ++ [some m]).getD n none = some m := by
          rw [List.getD_eq_getElem?_getD, List.getElem?_append_right (by rw [h.pl]; exact Nat.le_refl _), h.pl]
          simp
        rw [this]
      have hr : rowOf (made ++ [errs]) n = errs := by
        have := rowOf_last (made := made) (x := errs)
        rwa [h.ml] at this
      simp only [stepN, hb, hr, r]
    · rw [List.getD_eq_getElem?_getD, List.getD_eq_getElem?_getD, List.getElem?_append_left (by rw [h.pl]; exact hi)]
  · rcases List.mem_append.mp hr with z | z
    · exact h.rd r z
    · have : r = mine := by simpa using z
      rw [this]; exact I.rd
  · by_cases z : s < made.length
    · rw [rowOf_app z] at he
      exact h.er s z e he
    · rw [List.length_append, List.length_singleton] at hs
      have : s = made.length := by omega
      subst this
      rw [rowOf_last] at he
      have := I.lt e he
      rwa [offs_cols] at this
  · rcases List.mem_append.mp hr with z | z
    · exact h.sz r z
    · have : r = errs := by simpa using z
      rw [this]; omega
theorem sorted_asc {es : List Nat} (h : es.Pairwise (· < ·)) : sortedI1 [.lst (es.map nD)] = some (es.map nD) := by
  rw [nats_ints]
  simp only [sortedI1, intsD_map]
  have : sortI (es.map fun n : Nat => (n : Int)) = es.map fun n : Nat => (n : Int) := by
    refine pair_perm_eq (sortI_perm _) (sortI_pair _) ?_
    rw [List.pairwise_map]
    exact h.imp fun h => by omega
  rw [this]
theorem node_run {P : List Pl} (hP : PP P) {ps : Pl} {made reads : List (List Nat)} {n : Nat} (h : Hist P ps made reads n) (h1 : 1 ≤ n) (h2 : n ≤ 100) (us : List (Nat × Nat)) (hus : us.length ≤ 900) (x7 x8 x9 x10 x11 : Sl) (t : Tp) :
    ∃ (ps' : Pl) (made' reads' : List (List Nat)) (us' : List (Nat × Nat)) (t' : Tp) (y7 y8 y9 y10 y11 : Sl), Hist P ps' made' reads' (n + 1) ∧ us'.length ≤ us.length + 5 ∧
      lb__law_history_2 [.sh .tape, .sh (psD P), .ow 1 (.lst (ps.map oD)), .ow 1 (.lst (made.map natsD)), .ow 1 (.lst (reads.map natsD)), .ow 1 (.lst (us.map pD)), .sh (nD n), x7, x8, x9, x10, x11, .no] t =
        some (.nx, [.sh .tape, .sh (psD P), .ow 1 (.lst (ps'.map oD)), .ow 1 (.lst (made'.map natsD)), .ow 1 (.lst (reads'.map natsD)), .ow 1 (.lst (us'.map pD)), .sh (nD n), y7, y8, y9, y10, y11, .no], t') := by
  obtain ⟨r, t1, e1, hr⟩ := take_ex n (by omega) (by omega) t
  obtain ⟨d, t2, e2, hd⟩ := pick_ex [nD (n - 1), nD r] (by simp) (by simp) t1
  have : ∃ m, m < n ∧ d = nD m := by
    simp only [List.mem_cons, List.not_mem_nil, or_false] at hd
    rcases hd with rfl | rfl
    · exact ⟨n - 1, by omega, rfl⟩
    · exact ⟨r, hr, rfl⟩
  obtain ⟨m, hm, rfl⟩ := this
  have hmr : m < reads.length := by rw [h.rl]; exact hm
  have hrd : Rd P (reads.getD m []) := by
    rw [List.getD_eq_getElem?_getD, List.getElem?_eq_getElem hmr]
    exact h.rd _ (List.getElem_mem hmr)
  obtain ⟨mine, errs, us', t', y10, y11, I, hl, q⟩ := inner_hist hP hrd us hus (.ow 1 (.lst (ps.map oD))) (.ow 1 (.lst (made.map natsD))) (.ow 1 (.lst (reads.map natsD))) (.sh (nD n)) (.sh (nD m)) x10 x11 t2
  have H2 := h.add hP hm I
  refine ⟨_, _, _, us', t', .sh (nD m), .sh (natsD mine), .ow 1 (.lst (errs.map nD)), y10, y11, H2, hl, ?_⟩
  have i1 : idxD (.lst (reads.map natsD)) (nD m) = some (natsD (reads.getD m [])) := by rw [ixl, List.getD_eq_getElem?_getD, List.getElem?_eq_getElem hmr]; rfl
  have z : ((n : Nat) : Int) - 1 = ((n - 1 : Nat) : Int) := by omega
  have so := sorted_asc I.asc
  have big : ∀ k : Nat, k ≤ 100 → k < sizeLine := fun k hk => Nat.lt_of_le_of_lt hk (by decide)
  have ap1 : uAppend [nD m] (ps.map oD) = some (.non, (ps ++ [some m]).map oD) := by
    have sl : (ps.map oD).length < sizeLine := by rw [List.length_map, h.pl]; exact big _ h2
    simp only [uAppend, sl, if_true]
    rw [List.map_append]; rfl
  have ap2 : uAppend [natsD errs] (made.map natsD) = some (.non, (made ++ [errs]).map natsD) := by
    have sl : (made.map natsD).length < sizeLine := by rw [List.length_map, h.ml]; exact big _ h2
    simp only [uAppend, sl, if_true]
    rw [List.map_append]; rfl
  have ap3 : uAppend [natsD mine] (reads.map natsD) = some (.non, (reads ++ [mine]).map natsD) := by
    have sl : (reads.map natsD).length < sizeLine := by rw [List.length_map, h.rl]; exact big _ h2
    simp only [uAppend, sl, if_true]
    rw [List.map_append]; rfl
  have i1' : idxD (.lst (reads.map natsD)) (nD m) = some (.lst ((reads.getD m []).map nD)) := i1
  have ap2' : uAppend [.lst (errs.map nD)] (made.map natsD) = some (.non, (made ++ [errs]).map natsD) := ap2
  have ap3' : uAppend [.lst (mine.map nD)] (reads.map natsD) = some (.non, (reads ++ [mine]).map natsD) := ap3
  unfold natsD at ap2' ap3' i1' q ⊢
  generalize (ps ++ [some m]).map oD = PS2 at ap1 ⊢
  generalize ps.map oD = PS at ap1 q ⊢
  generalize (made ++ [errs]).map (fun r => D.lst (r.map nD)) = MA2 at ap2' ⊢
  generalize made.map (fun r => D.lst (r.map nD)) = MA at ap2' q ⊢
  generalize (reads ++ [mine]).map (fun r => D.lst (r.map nD)) = RE2 at ap3' ⊢
  generalize reads.map (fun r => D.lst (r.map nD)) = RE at ap3' i1' q ⊢
  generalize us'.map pD = U2 at q ⊢
  generalize us.map pD = U at q ⊢
  generalize errs.map nD = ER at so ap2' q ⊢
  generalize mine.map nD = MI at ap3' q ⊢
  generalize (reads.getD m []).map nD = N0 at i1' q
  unfold lb__law_history_2
  refine scons_nx (Z := tz) (e1 := [.sh .tape, .sh (psD P), .ow 1 (.lst PS), .ow 1 (.lst MA), .ow 1 (.lst RE), .ow 1 (.lst U), .sh (nD n), .sh (nD m), x8, x9, x10, x11, .no]) (t1 := t2) ?_ (scons_nx (Z := tz) (e1 := [.sh .tape, .sh (psD P), .ow 1 (.lst PS), .ow 1 (.lst MA), .ow 1 (.lst RE), .ow 1 (.lst U), .sh (nD n), .sh (nD m), .ow 1 (.lst N0), .ow 1 (.lst []), x10, x11, .no]) (t1 := t2) ?_ (scons_nx (Z := tz) q ?_))
  · obtain ⟨F1, hF1⟩ : ∃ z, z = f__law_take := ⟨_, rfl⟩
    rw [← hF1] at e1 ⊢
    clear hF1
    obtain ⟨F2, hF2⟩ : ∃ z, z = f__law_pick := ⟨_, rfl⟩
    rw [← hF2] at e2 ⊢
    clear hF2
    simp [mop, ev2, ev1, evA, getA, look, slotOk, mcst, mvar, asB, mlst, mtup, mcons, mnil, mfn, mfnL, evN, evAs, getAs, mite, band, bor, bnot, mand, mor, mnot, mcall, iseq, irange1, irange2, sset, ssetO, sret, sdrop, snil, sif, gset, mmut, isL1, ssub, spar, evOs, setSls, slOf, sasg, gtup, gcons, gnil, mslice, osome, onone, mopL, mlensetA, misinst, mmt, kindD, saug, byes, e1, e2, subD, z]
  · simp [mop, ev2, ev1, evA, getA, look, slotOk, mcst, mvar, asB, mlst, mtup, mcons, mnil, mfn, mfnL, evN, evAs, getAs, mite, band, bor, bnot, mand, mor, mnot, mcall, iseq, irange1, irange2, sset, ssetO, sret, sdrop, snil, sif, gset, mmut, isL1, ssub, spar, evOs, setSls, slOf, sasg, gtup, gcons, gnil, mslice, osome, onone, mopL, mlensetA, misinst, mmt, kindD, saug, byes, i1', list1]
  · refine scons_nx (Z := tz) (e1 := [.sh .tape, .sh (psD P), .ow 1 (.lst PS2), .ow 1 (.lst MA), .ow 1 (.lst RE), .ow 1 (.lst U2), .sh (nD n), .sh (nD m), .ow 1 (.lst MI), .ow 1 (.lst ER), y10, y11, .no]) (t1 := t') ?_ (scons_nx (Z := tz) (e1 := [.sh .tape, .sh (psD P), .ow 1 (.lst PS2), .ow 1 (.lst MA2), .ow 1 (.lst RE), .ow 1 (.lst U2), .sh (nD n), .sh (nD m), .ow 1 (.lst MI), .ow 1 (.lst ER), y10, y11, .no]) (t1 := t') ?_ ?_)
    · simp [mop, ev2, ev1, evA, getA, look, slotOk, mcst, mvar, asB, mlst, mtup, mcons, mnil, mfn, mfnL, evN, evAs, getAs, mite, band, bor, bnot, mand, mor, mnot, mcall, iseq, irange1, irange2, sset, ssetO, sret, sdrop, snil, sif, gset, mmut, isL1, ssub, spar, evOs, setSls, slOf, sasg, gtup, gcons, gnil, mslice, osome, onone, mopL, mlensetA, misinst, mmt, kindD, saug, byes, ap1]
    · simp [mop, ev2, ev1, evA, getA, look, slotOk, mcst, mvar, asB, mlst, mtup, mcons, mnil, mfn, mfnL, evN, evAs, getAs, mite, band, bor, bnot, mand, mor, mnot, mcall, iseq, irange1, irange2, sset, ssetO, sret, sdrop, snil, sif, gset, mmut, isL1, ssub, spar, evOs, setSls, slOf, sasg, gtup, gcons, gnil, mslice, osome, onone, mopL, mlensetA, misinst, mmt, kindD, saug, byes, so, ap2']
    · simp [mop, ev2, ev1, evA, getA, look, slotOk, mcst, mvar, asB, mlst, mtup, mcons, mnil, mfn, mfnL, evN, evAs, getAs, mite, band, bor, bnot, mand, mor, mnot, mcall, iseq, irange1, irange2, sset, ssetO, sret, sdrop, snil, sif, gset, mmut, isL1, ssub, spar, evOs, setSls, slOf, sasg, gtup, gcons, gnil, mslice, osome, onone, mopL, mlensetA, misinst, mmt, kindD, saug, byes, ap3']
theorem hist_run {P : List Pl} (hP : PP P) (t0 : Tp) : ∃ (ps : Pl) (made reads : List (List Nat)) (n : Nat) (t' : Tp), Hist P ps made reads n ∧ 1 ≤ n ∧ n ≤ 30 ∧
    f__law_history [.tape, psD P] t0 = some (.tup [.lst (ps.map oD), .lst (made.map natsD), .lst (reads.map natsD)], t') := by
  have ple := hP.le
  obtain ⟨r, t1, e1, hr⟩ := take_ex 30 (by omega) (by omega) t0
  obtain ⟨e', t', l1, ps, made, reads, us, x6, x7, x8, x9, x10, x11, H, hu, rfl⟩ := forL_nx (Z := tz) (g := gset 6) (b := lb__law_history_2) (ds := (List.range' 1 r).map nD) (e := [.sh .tape, .sh (psD P), .ow 1 (.lst [.non]), .ow 1 (.lst [.lst []]), .ow 1 (.lst [natsD (List.replicate P.length 0)]), .ow 1 (.lst []), .no, .no, .no, .no, .no, .no, .no]) (t := t1)
    (fun i e t => ∃ (ps : Pl) (made reads : List (List Nat)) (us : List (Nat × Nat)) (x6 x7 x8 x9 x10 x11 : Sl), Hist P ps made reads (i + 1) ∧ us.length ≤ 5 * i ∧ e = [.sh .tape, .sh (psD P), .ow 1 (.lst (ps.map oD)), .ow 1 (.lst (made.map natsD)), .ow 1 (.lst (reads.map natsD)), .ow 1 (.lst (us.map pD)), x6, x7, x8, x9, x10, x11, .no])
    ⟨[none], [[]], [List.replicate P.length 0], [], .no, .no, .no, .no, .no, .no, Hist.start hP, by simp, rfl⟩ fun i d e t hd hi => by
      obtain ⟨ps, made, reads, us, x6, x7, x8, x9, x10, x11, H, hu, rfl⟩ := hi
      have hk : i < r := by
        have := (List.getElem?_eq_some_iff.mp hd).1
        simpa using this
      have ed : d = nD (i + 1) := by
        rw [List.getElem?_map, List.getElem?_range' hk] at hd
        simp at hd
        rw [← hd]
        congr 1
        omega
      subst ed
      obtain ⟨ps', made', reads', us', t', y7, y8, y9, y10, y11, H2, hu2, q⟩ := node_run hP H (by omega) (by omega) us (by omega) x7 x8 x9 x10 x11 t
      exact ⟨_, rfl, .nx, _, t', q, .inl rfl, ps', made', reads', us', .sh (nD (i + 1)), y7, y8, y9, y10, y11, H2, by omega, rfl⟩
  rw [List.length_map, List.length_range'] at H
  refine ⟨ps, made, reads, r + 1, t', H, by omega, by omega, ?_⟩
  have z : (1 : Int) + (r : Int) = ((1 + r : Nat) : Int) := by omega
  have b1 : (((1 + r : Nat) : Int)) < 4611686018427387904 := by omega
  have z2 : (((1 + r : Nat) : Int) - 1).toNat = r := by omega
  have e1' : f__law_take [.tape, .int 30] t0 = some (nD r, t1) := e1
  have zz := zerosN P.length
  have b2 : ((P.length : Nat) : Int) ≤ 1000 := by omega
  have b3 : (-9223372036854775808 : Int) ≤ ((P.length : Nat) : Int) := by omega
  unfold natsD at l1 ⊢
  rw [← zz] at l1
  generalize ps.map oD = PS at l1 ⊢
  generalize made.map (fun r => D.lst (r.map nD)) = MA at l1 ⊢
  generalize reads.map (fun r => D.lst (r.map nD)) = RE at l1 ⊢
  generalize us.map pD = U at l1
  refine runFn_at (Z := tz) (e1 := [.sh .tape, .sh (psD P), .sh (.lst PS), .sh (.lst MA), .sh (.lst RE), .ow 1 (.lst U), x6, x7, x8, x9, x10, x11, .no]) [.sh .tape, .sh (psD P), .no, .no, .no, .no, .no, .no, .no, .no, .no, .no, .no] rfl ?_
  refine scons_nx (Z := tz) (e1 := [.sh .tape, .sh (psD P), .ow 1 (.lst [.non]), .ow 1 (.lst [.lst []]), .ow 1 (.lst [.lst (repD P.length [.int 0])]), .no, .no, .no, .no, .no, .no, .no, .no]) (t1 := t0) ?_ (scons_nx (Z := tz) (e1 := [.sh .tape, .sh (psD P), .ow 1 (.lst [.non]), .ow 1 (.lst [.lst []]), .ow 1 (.lst [.lst (repD P.length [.int 0])]), .ow 1 (.lst []), .no, .no, .no, .no, .no, .no, .no]) (t1 := t0) rfl (scons_nx (Z := tz) (e1 := [.sh .tape, .sh (psD P), .ow 1 (.lst PS), .ow 1 (.lst MA), .ow 1 (.lst RE), .ow 1 (.lst U), x6, x7, x8, x9, x10, x11, .no]) (t1 := t') ?_ ?_))
  · simp [mop, ev2, ev1, evA, getA, look, slotOk, mcst, mvar, asB, mlst, mtup, mcons, mnil, mfn, mfnL, evN, evAs, getAs, mite, band, bor, bnot, mand, mor, mnot, mcall, iseq, irange1, irange2, sset, ssetO, sret, sdrop, snil, sif, gset, mmut, isL1, ssub, spar, evOs, setSls, slOf, sasg, gtup, gcons, gnil, mslice, osome, onone, mopL, mlensetA, misinst, mmt, kindD, saug, byes, lenP, mulD, b2, b3]
  · unfold l__law_history_2
    refine sfor_nx (Z := tz) (e1 := [.sh .tape, .sh (psD P), .ow 1 (.lst [.non]), .ow 1 (.lst [.lst []]), .ow 1 (.lst [.lst (repD P.length [.int 0])]), .ow 1 (.lst []), .no, .no, .no, .no, .no, .no, .no]) (t1 := t1) (ds := (List.range' 1 r).map nD) ?_ l1
    generalize repD P.length [.int 0] = Z0
    generalize 1 + r = n at z b1 z2
    obtain ⟨F, hF⟩ : ∃ z, z = f__law_take := ⟨_, rfl⟩
    rw [← hF] at e1' ⊢
    clear hF
    simp [mop, ev2, ev1, evA, getA, look, slotOk, mcst, mvar, asB, mlst, mtup, mcons, mnil, mfn, mfnL, evN, evAs, getAs, mite, band, bor, bnot, mand, mor, mnot, mcall, iseq, irange1, irange2, sset, ssetO, sret, sdrop, snil, sif, gset, mmut, isL1, ssub, spar, evOs, setSls, slOf, sasg, gtup, gcons, gnil, mslice, osome, onone, mopL, mlensetA, misinst, mmt, kindD, saug, byes, e1', addD, z, b1, z2, range1]
  · simp [mop, ev2, ev1, evA, getA, look, slotOk, mcst, mvar, asB, mlst, mtup, mcons, mnil, mfn, mfnL, evN, evAs, getAs, mite, band, bor, bnot, mand, mor, mnot, mcall, iseq, irange1, irange2, sset, ssetO, sret, sdrop, snil, sif, gset, mmut, isL1, ssub, spar, evOs, setSls, slOf, sasg, gtup, gcons, gnil, mslice, osome, onone, mopL, mlensetA, misinst, mmt, kindD, saug, byes]
end K38

namespace K38
open PySem L2 DL

/-! ### the law's reading and the program's -/
theorem stepC_some {P : List Pl} {T now T' now' : List Nat} {e : Nat} (h : stepC P (T, now) e = some (T', now')) : (col P e).1 ∉ T ∧ (pl P (col P e).1).getD (col P e).2 none = some (now.getD (col P e).1 0) ∧ T' = T ++ [(col P e).1] ∧ now' = now.set (col P e).1 (col P e).2 := by
  unfold stepC at h
  split at h
  · cases h
  · rename_i q
    simp only [not_or, ne_eq, Decidable.not_not] at q
    simp only [Option.some.injEq, Prod.mk.injEq] at h
    exact ⟨q.1, q.2, h.1.symm, h.2.symm⟩
theorem getD_map_some {now : List Nat} {k : Nat} (h : k < now.length) : (now.map some).getD k none = some (now.getD k 0) := by
  rw [List.getD_eq_getElem?_getD, List.getD_eq_getElem?_getD, List.getElem?_map, List.getElem?_eq_getElem h]; rfl
theorem fold_some {P : List Pl} : ∀ {es T now T' now' : List Nat}, rowC P es (T, now) = some (T', now') → now.length = P.length → (∀ e ∈ es, e < (cols P).length) →
    es.foldl (stepR P) (now.map some) = now'.map some ∧ T' = T ++ es.map (fun e => (col P e).1) ∧ (T.Nodup → T'.Nodup)
  | [], T, now, T', now', h, _, _ => by
    simp only [rowC, Option.some.injEq, Prod.mk.injEq] at h
    obtain ⟨rfl, rfl⟩ := h
    exact ⟨rfl, by simp, fun h => h⟩
  | e :: es, T, now, T', now', h, hn, he => by
    unfold rowC at h
    split at h
    · rename_i s1 q
      obtain ⟨T1, n1⟩ := s1
      obtain ⟨a, b, rfl, rfl⟩ := stepC_some q
      obtain ⟨c1, c2, c3⟩ := col_mem (he e List.mem_cons_self)
      obtain ⟨r1, r2, r3⟩ := fold_some h (by rw [List.length_set]; exact hn) fun x hx => he x (List.mem_cons_of_mem _ hx)
      refine ⟨?_, by rw [r2]; simp, fun nd => r3 ?_⟩
      · rw [List.foldl_cons]
        have : stepR P (now.map some) e = (now.set (col P e).1 (col P e).2).map some := by
          unfold stepR
          rw [getD_map_some (by omega)]
          simp only [b, if_true]
          rw [List.map_set]
        rw [this, r1]
      · rw [List.nodup_append]
        refine ⟨nd, by simp, fun x hx y hy z => ?_⟩
        have : y = (col P e).1 := by simpa using hy
        rw [z, this] at hx
        exact a hx
    · cases h
theorem none_stays {P : List Pl} {k : Nat} : ∀ (es : List Nat) {now : List (Option Nat)}, now[k]? = some none → (es.foldl (stepR P) now)[k]? = some none
  | [], _, h => h
  | e :: es, now, h => by
    rw [List.foldl_cons]
    apply none_stays es
    unfold stepR
    split
    · rename_i v q
      by_cases z : (col P e).1 = k
      · rw [z, List.getD_eq_getElem?_getD, h] at q
        cases q
      · rw [List.getElem?_set_ne z]; exact h
    · exact h
theorem fold_none {P : List Pl} : ∀ {es T now : List Nat}, rowC P es (T, now) = none → now.length = P.length → (∀ e ∈ es, e < (cols P).length) →
    ¬ (T ++ es.map (fun e => (col P e).1)).Nodup ∨ none ∈ es.foldl (stepR P) (now.map some)
  | [], T, now, h, _, _ => by simp [rowC] at h
  | e :: es, T, now, h, hn, he => by
    obtain ⟨c1, c2, c3⟩ := col_mem (he e List.mem_cons_self)
    unfold rowC at h
    split at h
    · rename_i s1 q
      obtain ⟨T1, n1⟩ := s1
      obtain ⟨a, b, rfl, rfl⟩ := stepC_some q
      have r := fold_none h (by rw [List.length_set]; exact hn) fun x hx => he x (List.mem_cons_of_mem _ hx)
      have : stepR P (now.map some) e = (now.set (col P e).1 (col P e).2).map some := by
        unfold stepR
        rw [getD_map_some (by omega)]
        simp only [b, if_true]
        rw [List.map_set]
      rcases r with r | r
      · refine .inl fun z => r ?_
        simpa using z
      · refine .inr ?_
        rw [List.foldl_cons, this]
        exact r
    · rename_i q
      unfold stepC at q
      split at q
      · rename_i w
        rcases w with w | w
        · refine .inl fun z => ?_
          rw [List.nodup_append] at z
          exact z.2.2 _ w _ (by simp) rfl
        · refine .inr ?_
          rw [List.foldl_cons]
          have s : (stepR P (now.map some) e)[(col P e).1]? = some none := by
            unfold stepR
            rw [getD_map_some (by omega)]
            dsimp only
            rw [if_neg w, List.getElem?_set, if_pos rfl, if_pos (by rw [List.length_map]; omega)]
          exact List.mem_of_getElem? (none_stays es s)
      · cases q
theorem car_reads {P : List Pl} {ps : Pl} (hA : Asc ps) {made : List (List Nat)} : ∀ (n : Nat) {R : List (List Nat)}, n ≤ ps.length → carN P ps made n = some R → R.length = n ∧ ∀ s, s < n → ∃ T, rowC P (rowOf made s) ([], base P ps R s) = some (T, R.getD s [])
  | 0, R, _, h => by
    simp only [carN, Option.some.injEq] at h
    subst h
    exact ⟨rfl, fun s hs => by omega⟩
  | n + 1, R, hn, h => by
    unfold carN at h
    split at h
    · rename_i R1 q
      obtain ⟨hl, hr⟩ := car_reads hA n (by omega) q
      unfold stepN at h
      split at h
      · rename_i s1 q1
        simp only [Option.some.injEq] at h
        subst h
        have pre : ∀ s, s ≤ n → base P ps (R1 ++ [s1.2]) s = base P ps R1 s := fun s hs => by
          unfold base
          cases w : ps.getD s none with
          | none => rfl
          | some m =>
            have : ps[s]? = some (some m) := by
              rw [List.getD_eq_getElem?_getD, List.getElem?_eq_getElem (by omega)] at w
              rw [List.getElem?_eq_getElem (by omega)]
              simpa using w
            have hm := hA s m this
            simp only [List.getD_eq_getElem?_getD]
            rw [List.getElem?_append_left (by omega)]
        refine ⟨by simp [hl], fun s hs => ?_⟩
        rw [pre s (by omega)]
        by_cases z : s = n
        · subst z
          refine ⟨s1.1, ?_⟩
          rw [q1]
          have : (R1 ++ [s1.2]).getD s [] = s1.2 := by
            rw [List.getD_eq_getElem?_getD, List.getElem?_append_right (by omega), hl]
            simp
          rw [this]
        · obtain ⟨T, e⟩ := hr s (by omega)
          refine ⟨T, ?_⟩
          rw [e]
          have : (R1 ++ [s1.2]).getD s [] = R1.getD s [] := by
            rw [List.getD_eq_getElem?_getD, List.getD_eq_getElem?_getD, List.getElem?_append_left (by omega)]
          rw [this]
      · cases h
    · cases h
theorem readAt_none {P : List Pl} {ps : Pl} {made : List (List Nat)} {n : Nat} (e : ps[n]? = some none) : readAt P ps made n = (rowOf made n).foldl (stepR P) (List.replicate P.length (some 0)) := by
  unfold readAt
  rw [way_none e]
  rfl
theorem readAt_some {P : List Pl} {ps : Pl} (hA : Asc ps) {made : List (List Nat)} {n m : Nat} (e : ps[n]? = some (some m)) : readAt P ps made n = (rowOf made n).foldl (stepR P) (readAt P ps made m) := by
  unfold readAt
  rw [way_some hA e, List.foldl_append]
  rfl
theorem rep_some (n : Nat) : List.replicate n (some 0) = (List.replicate n 0).map some := by rw [List.map_replicate]
/-- where the law's reading has come to n, the program's has, too -/
theorem car_at {P : List Pl} {ps : Pl} (hA : Asc ps) {made : List (List Nat)} (hm : made.length = ps.length) (he : Errs P made) {n : Nat} {R : List (List Nat)} (hn : n ≤ ps.length) (h : carN P ps made n = some R) : ∀ s, s < n → readAt P ps made s = (R.getD s []).map some ∧ (ksOf P made s).Nodup ∧ (R.getD s []).length = P.length := by
  obtain ⟨hl, hr⟩ := car_reads hA n hn h
  intro s
  induction s using Nat.strongRecOn with
  | ind s ih =>
    intro hs
    obtain ⟨T, e⟩ := hr s hs
    have hx : ps[s]? = some ps[s] := List.getElem?_eq_getElem (by omega)
    have bl : (base P ps R s).length = P.length := by
      unfold base
      cases w : ps.getD s none with
      | none => simp
      | some m =>
        have : ps[s]? = some (some m) := by
          rw [List.getD_eq_getElem?_getD, List.getElem?_eq_getElem (by omega)] at w
          rw [List.getElem?_eq_getElem (by omega)]
          simpa using w
        have hms := hA s m this
        exact (ih m hms (by omega)).2.2
    obtain ⟨f1, f2, f3⟩ := fold_some e bl (he s (by omega))
    have len := rowC_len e
    dsimp only at len
    have kn : (ksOf P made s).Nodup := by
      have := f3 List.nodup_nil
      rw [f2] at this
      simpa [ksOf] using this
    refine ⟨?_, kn, by rw [len, bl]⟩
    rw [← f1]
    cases w : ps[s] with
    | none =>
      rw [w] at hx
      rw [readAt_none hx]
      have : base P ps R s = List.replicate P.length 0 := by
        unfold base
        rw [List.getD_eq_getElem?_getD, hx]; rfl
      rw [this, rep_some]
    | some m =>
      rw [w] at hx
      have hms := hA s m hx
      rw [readAt_some hA hx, (ih m hms (by omega)).1]
      have : base P ps R s = R.getD m [] := by
        unfold base
        rw [List.getD_eq_getElem?_getD, hx]; rfl
      rw [this]
theorem car_eq {P : List Pl} {ps : Pl} (hA : Asc ps) {made : List (List Nat)} (hm : made.length = ps.length) (he : Errs P made) : isCar P ps made = lawCar P ps made := by
  unfold lawCar
  cases q : carN P ps made ps.length with
  | some R =>
    have := car_at hA hm he (Nat.le_refl _) q
    show isCar P ps made = true
    unfold isCar
    rw [List.all_eq_true]
    intro s hs
    obtain ⟨a, b, c⟩ := this s (List.mem_range.mp hs)
    unfold okN
    rw [a, decide_eq_true b, decide_eq_false (by simp)]
    rfl
  | none =>
    show isCar P ps made = false
    have first : ∀ N, carN P ps made N = none → ∃ n R, n < N ∧ carN P ps made n = some R ∧ stepN P ps made R n = none := by
      intro N
      induction N with
      | zero => intro h; cases h
      | succ N ih =>
        intro h
        cases w : carN P ps made N with
        | none =>
          obtain ⟨n, R, a, b⟩ := ih w
          exact ⟨n, R, by omega, b⟩
        | some R =>
          unfold carN at h
          rw [w] at h
          exact ⟨N, R, by omega, w, h⟩
    obtain ⟨n, R, hn, hR, hst⟩ := first _ q
    have at_ := car_at hA hm he (by omega) hR
    have hx : ps[n]? = some ps[n] := List.getElem?_eq_getElem hn
    have rn : rowC P (rowOf made n) ([], base P ps R n) = none := by
      unfold stepN at hst
      split at hst
      · cases hst
      · assumption
    have bs : ∃ b0, (base P ps R n).map some = b0 ∧ readAt P ps made n = (rowOf made n).foldl (stepR P) b0 ∧ (base P ps R n).length = P.length := by
      refine ⟨_, rfl, ?_⟩
      cases w : ps[n] with
      | none =>
        rw [w] at hx
        have e : base P ps R n = List.replicate P.length 0 := by
          unfold base
          rw [List.getD_eq_getElem?_getD, hx]; rfl
        rw [readAt_none hx, e, rep_some]
        exact ⟨rfl, by simp⟩
      | some m =>
        rw [w] at hx
        have hms := hA n m hx
        have e : base P ps R n = R.getD m [] := by
          unfold base
          rw [List.getD_eq_getElem?_getD, hx]; rfl
        obtain ⟨a, _, c⟩ := at_ m hms
        rw [readAt_some hA hx, a, e]
        exact ⟨rfl, c⟩
    obtain ⟨b0, rfl, r1, r2⟩ := bs
    have f := fold_none rn r2 (he n (by omega))
    unfold isCar
    rw [List.all_eq_false]
    refine ⟨n, List.mem_range.mpr hn, ?_⟩
    unfold okN
    rw [r1]
    rcases f with f | f
    · have : ¬ (ksOf P made n).Nodup := by simpa [ksOf] using f
      rw [decide_eq_false this]
      simp
    · rw [decide_eq_true f]
      simp
/-! ### the rows that are shown -/
theorem cols_nodup : ∀ P : List Pl, (cols P).Nodup
  | [] => List.nodup_nil
  | E :: P => by
    rw [show E :: P = [E] ++ P from rfl, cols_app, cols_one, List.nodup_append]
    refine ⟨?_, ?_, ?_⟩
    · refine List.pairwise_map.mpr ((List.nodup_range' (step := 1)).imp fun h z => h ?_)
      simpa using z
    · refine List.pairwise_map.mpr ((cols_nodup P).imp fun {a b} h z => h ?_)
      simp only [Prod.mk.injEq] at z
      exact Prod.ext (by omega) z.2
    · intro a ha b hb z
      rw [List.mem_map] at ha hb
      obtain ⟨j, _, rfl⟩ := ha
      obtain ⟨x, _, rfl⟩ := hb
      simp at z
theorem col_inj {P : List Pl} {e e' : Nat} (h : e < (cols P).length) (h' : e' < (cols P).length) (q : col P e = col P e') : e = e' := by
  rw [← col_get h, ← col_get h'] at q
  have nd := List.pairwise_iff_getElem.mp (cols_nodup P)
  rcases Nat.lt_trichotomy e e' with z | z | z
  · exact absurd q (nd e e' h h' z)
  · exact z
  · exact absurd q.symm (nd e' e h' h z)
def onR (P : List Pl) (now : List Nat) (e : Nat) : Prop := (col P e).2 ∈ wayP (pl P (col P e).1) (now.getD (col P e).1 0)
theorem rowC_on {P : List Pl} (hP : PP P) : ∀ {es T now T' now' : List Nat}, rowC P es (T, now) = some (T', now') → now.length = P.length → (∀ e ∈ es, e < (cols P).length) → ∀ x, x < (cols P).length → (onR P now' x ↔ (x ∈ es ∨ onR P now x))
  | [], T, now, T', now', h, _, _, x, _ => by
    simp only [rowC, Option.some.injEq, Prod.mk.injEq] at h
    obtain ⟨rfl, rfl⟩ := h
    simp
  | e :: es, T, now, T', now', h, hn, he, x, hx => by
    unfold rowC at h
    split at h
    · rename_i s1 q
      obtain ⟨T1, n1⟩ := s1
      obtain ⟨a, b, rfl, rfl⟩ := stepC_some q
      have hle := he e List.mem_cons_self
      obtain ⟨c1, c2, c3⟩ := col_mem hle
      rw [rowC_on hP h (by rw [List.length_set]; exact hn) (fun y hy => he y (List.mem_cons_of_mem _ hy)) x hx, List.mem_cons]
      have key : onR P (now.set (col P e).1 (col P e).2) x ↔ (x = e ∨ onR P now x) := by
        unfold onR
        by_cases z : (col P x).1 = (col P e).1
        · rw [z]
          have g : (now.set (col P e).1 (col P e).2).getD (col P e).1 0 = (col P e).2 := by
            rw [List.getD_eq_getElem?_getD, List.getElem?_set, if_pos rfl, if_pos (by omega)]; rfl
          rw [g]
          have w : (pl P (col P e).1)[(col P e).2]? = some (some (now.getD (col P e).1 0)) := by
            rw [List.getD_eq_getElem?_getD, List.getElem?_eq_getElem c3] at b
            rw [List.getElem?_eq_getElem c3]
            simpa using b
          rw [way_some (hP.at c1).asc w, List.mem_append, List.mem_singleton]
          constructor
          · rintro (y | y)
            · exact .inr y
            · exact .inl (col_inj hx hle (Prod.ext z y))
          · rintro (y | y)
            · exact .inr (by rw [y])
            · exact .inl y
        · have g : (now.set (col P e).1 (col P e).2).getD (col P x).1 0 = now.getD (col P x).1 0 := by
            rw [List.getD_eq_getElem?_getD, List.getElem?_set_ne (fun y => z y.symm), List.getD_eq_getElem?_getD]
          rw [g]
          constructor
          · exact .inr
          · rintro (y | y)
            · exact absurd (by rw [y]) z
            · exact y
      rw [key]
      constructor
      · rintro (y | y | y)
        · exact .inl (.inr y)
        · exact .inl (.inl y)
        · exact .inr y
      · rintro ((y | y) | y)
        · exact .inr (.inl y)
        · exact .inl y
        · exact .inr (.inr y)
    · cases h
theorem errs_none {ps : Pl} {made : List (List Nat)} {n : Nat} (e : ps[n]? = some none) : errs ps made n = rowOf made n := by
  unfold errs
  rw [way_none e]
  simp
theorem errs_some {ps : Pl} (hA : Asc ps) {made : List (List Nat)} {n m : Nat} (e : ps[n]? = some (some m)) : errs ps made n = errs ps made m ++ rowOf made n := by
  unfold errs
  rw [way_some hA e, List.flatMap_append]
  simp
theorem zero_off {P : List Pl} (hP : PP P) {x : Nat} (hx : x < (cols P).length) : ¬ onR P (List.replicate P.length 0) x := by
  obtain ⟨c1, c2, c3⟩ := col_mem hx
  unfold onR
  have g : (List.replicate P.length 0).getD (col P x).1 0 = 0 := by
    rw [List.getD_eq_getElem?_getD, List.getElem?_replicate, if_pos c1]; rfl
  rw [g, way_none (hP.at c1).h0]
  simp
  omega
theorem car_on {P : List Pl} (hP : PP P) {ps : Pl} (hA : Asc ps) {made : List (List Nat)} (hm : made.length = ps.length) (he : Errs P made) {n : Nat} {R : List (List Nat)} (hn : n ≤ ps.length) (h : carN P ps made n = some R) : ∀ s, s < n → ∀ x, x < (cols P).length → (x ∈ errs ps made s ↔ onR P (R.getD s []) x) := by
  obtain ⟨hl, hr⟩ := car_reads hA n hn h
  have at_ := car_at hA hm he hn h
  intro s
  induction s using Nat.strongRecOn with
  | ind s ih =>
    intro hs x hx
    obtain ⟨T, e⟩ := hr s hs
    have hxs : ps[s]? = some ps[s] := List.getElem?_eq_getElem (by omega)
    cases w : ps[s] with
    | none =>
      rw [w] at hxs
      have eb : base P ps R s = List.replicate P.length 0 := by
        unfold base
        rw [List.getD_eq_getElem?_getD, hxs]; rfl
      rw [eb] at e
      rw [errs_none hxs, rowC_on hP e (by simp) (he s (by omega)) x hx]
      constructor
      · exact .inl
      · rintro (y | y)
        · exact y
        · exact absurd y (zero_off hP hx)
    | some m =>
      rw [w] at hxs
      have hms := hA s m hxs
      have eb : base P ps R s = R.getD m [] := by
        unfold base
        rw [List.getD_eq_getElem?_getD, hxs]; rfl
      rw [eb] at e
      rw [errs_some hA hxs, rowC_on hP e (at_ m (by omega)).2.2 (he s (by omega)) x hx, List.mem_append, ih m hms (by omega) x hx]
      exact Or.comm
theorem rowL_flat (P : List Pl) (js : List Nat) : (rowL P js).flatten = (cols P).map fun x => decide (x.2 ∈ wayP (pl P x.1) (js.getD x.1 0)) := by
  unfold cols rowL
  rw [List.map_flatMap, ← List.flatMap_def]
  congr 1
  funext k
  unfold signs in1
  rw [List.map_map]
  rfl
theorem bits_eq {P : List Pl} (hP : PP P) {ps : Pl} (hA : Asc ps) {made : List (List Nat)} (hm : made.length = ps.length) (he : Errs P made) {R : List (List Nat)} (h : carN P ps made ps.length = some R) {s : Nat} (hs : s < ps.length) : bitsOf ps made (cols P).length s = (rowL P (R.getD s [])).flatten := by
  rw [rowL_flat]
  unfold bitsOf
  apply List.ext_getElem?
  intro i
  rw [List.getElem?_map, List.getElem?_map]
  by_cases z : i < (cols P).length
  · rw [List.getElem?_range z, List.getElem?_eq_getElem z, col_get z]
    simp only [Option.map_some]
    congr 1
    have := car_on hP hA hm he (Nat.le_refl _) h s hs i z
    exact decide_eq_decide.mpr this
  · rw [List.getElem?_eq_none (by simpa using z), List.getElem?_eq_none (by omega)]
    rfl
end K38

namespace K38
open PySem L2 DL

theorem eqvL_self : ∀ xs : List D, (∀ x ∈ xs, eqvD x x = true) → eqvL xs xs = true
  | [], _ => by simp [eqvL]
  | x :: xs, h => by
    simp only [eqvL, Bool.and_eq_true]
    exact ⟨h x List.mem_cons_self, eqvL_self xs fun y hy => h y (List.mem_cons_of_mem _ hy)⟩
theorem eqv_ww (j : Nat) : eqvD (wD j) (wD j) = true := by rw [eqv_w]; simp
theorem ne_rd (js : List Nat) : neD (rdD js) (rdD js) = some (.bl false) := by
  have o : okD 30 (rdD js) = true := by
    unfold rdD
    simp only [okD, List.all_map, List.all_eq_true]
    intro j _
    exact ok_w j
  have e : eqvD (rdD js) (rdD js) = true := by
    unfold rdD
    simp only [eqvD]
    exact eqvL_self _ fun x hx => by
      obtain ⟨j, _, rfl⟩ := List.mem_map.mp hx
      exact eqv_ww j
  simp [neD, o, e]
theorem ne_rr (js : List Nat) : neD (.lst (js.map fun j => .lst [wD j])) (.lst (js.map fun j => .lst [wD j])) = some (.bl false) := by
  have o : okD 30 (.lst (js.map fun j => .lst [wD j])) = true := by
    simp only [okD, List.all_map, List.all_eq_true]
    intro j _
    have hs : PyData.strOk ("w" : Str) = true := by decide +kernel
    unfold wD
    simp [okD, hs]
  have e : eqvD (.lst (js.map fun j => .lst [wD j])) (.lst (js.map fun j => .lst [wD j])) = true := by
    simp only [eqvD]
    exact eqvL_self _ fun x hx => by
      obtain ⟨j, _, rfl⟩ := List.mem_map.mp hx
      simp [eqvD, eqvL, eqv_ww]
  simp [neD, o, e]
theorem ne_str (z : Str) : neD (.str z) (.str z) = some (.bl false) := by simp [neD, scalD, eqvD]
theorem ne_bl (b : Bool) : neD (.bl b) (.bl b) = some (.bl false) := by simp [neD, scalD, eqvD]
theorem rd_range {P : List Pl} {js : List Nat} (h : Rd P js) (f : Nat → D) : (List.range P.length).map (fun k => f (js.getD k 0)) = js.map f := by
  apply List.ext_getElem?
  intro i
  rw [List.getElem?_map, List.getElem?_map]
  by_cases hi : i < P.length
  · rw [List.getElem?_range hi, List.getElem?_eq_getElem (by rw [h.len]; exact hi)]
    simp only [Option.map_some, List.getD_eq_getElem?_getD]
    rw [List.getElem?_eq_getElem (by rw [h.len]; exact hi)]
    rfl
  · rw [List.getElem?_eq_none (by simpa using hi), List.getElem?_eq_none (by rw [h.len]; omega)]
    rfl
theorem name_ex (k : Nat) (hk : k < 6) : ∃ s : Str, addD (.str "N") (.str (toString (k : Int))) = some (.str s) := by
  have : ∀ z : Str, z.length ≤ 100 → ∃ s : Str, addD (.str "N") (.str z) = some (.str s) := fun z hz => by
    have l : ("N" : Str).length = 1 := by decide +kernel
    refine ⟨("N" : Str) ++ z, ?_⟩
    show (if _ then some (D.str (("N" : Str) ++ z)) else none) = _
    rw [if_pos]
    rw [l]
    exact Nat.le_trans (by omega : 1 + z.length ≤ 101) (by decide)
  apply this
  match k, hk with
  | 0, _ => decide +kernel
  | 1, _ => decide +kernel
  | 2, _ => decide +kernel
  | 3, _ => decide +kernel
  | 4, _ => decide +kernel
  | 5, _ => decide +kernel
theorem sort_nats (xs : List Nat) : ∃ ys : List Nat, ys.Perm xs ∧ sortedI1 [.lst (xs.map nD)] = some (ys.map nD) := by
  refine ⟨(sortI (xs.map fun n : Nat => (n : Int))).map Int.toNat, ?_, ?_⟩
  · have := (sortI_perm (xs.map fun n : Nat => (n : Int))).map Int.toNat
    refine this.trans ?_
    rw [List.map_map]
    have e : xs.map (Int.toNat ∘ fun n : Nat => (n : Int)) = xs := by
      have : (Int.toNat ∘ fun n : Nat => (n : Int)) = id := by funext n; simp
      rw [this, List.map_id]
    rw [e]
  · rw [nats_ints]
    simp only [sortedI1, intsD_map]
    congr 1
    rw [List.map_map]
    apply List.map_congr_left
    intro i hi
    rw [(sortI_perm _).mem_iff, List.mem_map] at hi
    obtain ⟨n, _, rfl⟩ := hi
    simp
/-- the state behind the first six statements -/
structure Law (P : List Pl) (ps : Pl) (made reads : List (List Nat)) (seats : List Nat) (n : Nat) : Prop where
  pp : PP P
  hist : Hist P ps made reads n
  h1 : 1 ≤ n
  h30 : n ≤ 30
  st : ∀ s ∈ seats, s < n
  sl : seats.length ≤ 6
section
variable {P : List Pl} {ps : Pl} {made reads : List (List Nat)} {seats : List Nat} {n : Nat}
theorem Law.asc (L : Law P ps made reads seats n) : Asc ps := fun j i e => by
  by_cases z : j = 0
  · subst z
    rw [L.hist.eld.h0] at e
    cases e
  · have hl := (List.getElem?_eq_some_iff.mp e).1
    obtain ⟨m, hm, e2⟩ := L.hist.eld.hs j (by omega) hl
    rw [e2] at e
    cases e
    exact hm
theorem Law.sof (L : Law P ps made reads seats n) {made' : List (List Nat)} (hl : made'.length = n) (hz : ∀ r ∈ made', r.length ≤ 1000) : St ps made' seats :=
  ⟨L.asc, by rw [L.hist.pl]; have := L.h30; omega, by rw [hl, L.hist.pl], hz, fun s hs => by rw [L.hist.pl]; exact L.st s hs, by have := L.sl; omega⟩
theorem Law.s0 (L : Law P ps made reads seats n) : St ps made seats := L.sof L.hist.ml fun r hr => by have := L.hist.sz r hr; omega
theorem Law.rd (L : Law P ps made reads seats n) {s : Nat} (hs : s < n) : Rd P (reads.getD s []) := by
  rw [List.getD_eq_getElem?_getD, List.getElem?_eq_getElem (by rw [L.hist.rl]; exact hs)]
  exact L.hist.rd _ (List.getElem_mem _)
theorem Law.car (L : Law P ps made reads seats n) : carN P ps made ps.length = some reads := by rw [L.hist.pl]; exact L.hist.car
theorem Law.made_len (L : Law P ps made reads seats n) : made.length = ps.length := by rw [L.hist.pl, L.hist.ml]
theorem Law.is (L : Law P ps made reads seats n) : isCar P ps made = true := by
  rw [car_eq L.asc L.made_len L.hist.er]
  unfold lawCar
  rw [L.car]; rfl
theorem Law.read (L : Law P ps made reads seats n) {s : Nat} (hs : s < n) : readAt P ps made s = (reads.getD s []).map some :=
  (car_at L.asc L.made_len L.hist.er (Nat.le_refl _) L.car s (by rw [L.hist.pl]; exact hs)).1
theorem Law.bits (L : Law P ps made reads seats n) {s : Nat} (hs : s < n) : bitsOf ps made (cols P).length s = (rowL P (reads.getD s [])).flatten :=
  bits_eq L.pp L.asc L.made_len L.hist.er L.car (by rw [L.hist.pl]; exact hs)
theorem cols_small (h : PP P) : (cols P).length ≤ 30 := by
  have := rowL_le h ([] : List Nat)
  rw [rowL_flat, List.length_map] at this
  exact this
/-- each node's texts -/
theorem law3_run (L : Law P ps made reads seats n) (x0 x3 x7 x8 x9 x12 x13 x14 x15 x16 x17 x18 x20 : Sl) (x11 : Sl) (t0 : Tp) : ∃ y11, l_law_3 [x0, .sh .tape, .sh (psD P), x3, .sh (.lst (ps.map oD)), .sh (.lst (made.map natsD)), .sh (.lst (reads.map natsD)), x7, x8, x9, .sh (stD ps made seats), x11, x12, x13, x14, x15, x16, x17, x18, .no, x20] t0 =
    some (.nx, [x0, .sh .tape, .sh (psD P), x3, .sh (.lst (ps.map oD)), .sh (.lst (made.map natsD)), .sh (.lst (reads.map natsD)), x7, x8, x9, .sh (stD ps made seats), y11, x12, x13, x14, x15, x16, x17, x18, .no, x20], t0) := by
  have le := L.pp.le
  have b1 : ((P.length : Nat) : Int) < 4611686018427387904 := by omega
  have h30 := L.h30
  have b2 : ((n : Nat) : Int) < 4611686018427387904 := by omega
  obtain ⟨e', t', l1, rfl, y11, rfl⟩ := forL_nx (Z := tz) (g := gset 11) (b := lb_law_3) (ds := (List.range n).map nD) (e := [x0, .sh .tape, .sh (psD P), x3, .sh (.lst (ps.map oD)), .sh (.lst (made.map natsD)), .sh (.lst (reads.map natsD)), x7, x8, x9, .sh (stD ps made seats), x11, x12, x13, x14, x15, x16, x17, x18, .no, x20]) (t := t0)
    (fun i e t => t = t0 ∧ ∃ y11, e = [x0, .sh .tape, .sh (psD P), x3, .sh (.lst (ps.map oD)), .sh (.lst (made.map natsD)), .sh (.lst (reads.map natsD)), x7, x8, x9, .sh (stD ps made seats), y11, x12, x13, x14, x15, x16, x17, x18, .no, x20]) ⟨rfl, x11, rfl⟩ fun i d e t hd hi => by
      obtain ⟨rfl, y11, rfl⟩ := hi
      have hk : i < n := by
        have := (List.getElem?_eq_some_iff.mp hd).1
        simpa using this
      have ed : d = nD i := by
        rw [List.getElem?_map, List.getElem?_range hk] at hd
        simpa using hd.symm
      subst ed
      refine ⟨_, rfl, .nx, [x0, .sh .tape, .sh (psD P), x3, .sh (.lst (ps.map oD)), .sh (.lst (made.map natsD)), .sh (.lst (reads.map natsD)), x7, x8, x9, .sh (stD ps made seats), .sh (nD i), x12, x13, x14, x15, x16, x17, x18, .no, x20], t, ?_, .inl rfl, rfl, _, rfl⟩
      have hr := L.rd hk
      have tr := texts_run L.pp L.s0 L.hist.er (by rw [L.hist.pl]; exact hk) (L.read hk) hr t
      have ne := ne_rd (reads.getD i [])
      have i1 : idxD (.lst (reads.map natsD)) (nD i) = some (natsD (reads.getD i [])) := by rw [ixl, List.getD_eq_getElem?_getD, List.getElem?_eq_getElem (by rw [L.hist.rl]; exact hk)]; rfl
      generalize reads.getD i [] = js at hr tr ne i1
      generalize hRE : reads.map natsD = RE at i1 ⊢
      generalize ps.map oD = PS
      generalize made.map natsD = MA
      have q : c_law_5 [x0, .sh .tape, .sh (psD P), x3, .sh (.lst PS), .sh (.lst MA), .sh (.lst RE), x7, x8, x9, .sh (stD ps made seats), .sh (nD i), x12, x13, x14, x15, x16, x17, x18, .no, x20] t = some (rdD js, [x0, .sh .tape, .sh (psD P), x3, .sh (.lst PS), .sh (.lst MA), .sh (.lst RE), x7, x8, x9, .sh (stD ps made seats), .sh (nD i), x12, x13, x14, x15, x16, x17, x18, .no, x20], t) := by
        unfold c_law_5
        rw [mlc_all (Z := tz) (e1 := [x0, .sh .tape, .sh (psD P), x3, .sh (.lst PS), .sh (.lst MA), .sh (.lst RE), x7, x8, x9, .sh (stD ps made seats), .sh (nD i), x12, x13, x14, x15, x16, x17, x18, .no, x20]) (t1 := t) nD (fun k => wD (js.getD k 0)) (List.range P.length)]
        · rw [rd_range hr wD]; rfl
        · simp [mop, ev2, ev1, evA, getA, look, slotOk, mcst, mvar, asB, mlst, mtup, mcons, mnil, mfn, mfnL, evN, evAs, getAs, mite, band, bor, bnot, mand, mor, mnot, mcall, iseq, irange1, irange2, sset, ssetO, sret, sdrop, snil, sif, gset, mmut, isL1, ssub, spar, evOs, setSls, slOf, sasg, gtup, gcons, gnil, mslice, osome, onone, mopL, mlensetA, misinst, mmt, kindD, saug, byes, lenP, b1, range0]
        · rfl
        · simp; omega
        · intro k hk
          have hk := List.mem_range.mp hk
          have hlt := hr.lt k hk
          have i2 : idxD (natsD js) (nD k) = some (nD (js.getD k 0)) := by
            unfold natsD
            rw [ixl, List.getD_eq_getElem?_getD, List.getElem?_eq_getElem (by rw [hr.len]; exact hk)]; rfl
          refine ⟨[x0, .sh .tape, .sh (psD P), x3, .sh (.lst PS), .sh (.lst MA), .sh (.lst RE), x7, x8, x9, .sh (stD ps made seats), .sh (nD i), x12, x13, x14, x15, x16, x17, x18, .sh (nD k), x20], rfl, rfl, [x0, .sh .tape, .sh (psD P), x3, .sh (.lst PS), .sh (.lst MA), .sh (.lst RE), x7, x8, x9, .sh (stD ps made seats), .sh (nD i), x12, x13, x14, x15, x16, x17, x18, .sh (nD k), x20], ?_, rfl⟩
          show ce_law_5 _ t = some (wD (js.getD k 0), _, t)
          generalize js.getD k 0 = j' at i2 hlt ⊢
          have i3 := ixW hlt
          generalize natsD js = y at i1 i2
          generalize stD ps made seats = SD
          unfold ce_law_5
          simp [mop, ev2, ev1, evA, getA, look, slotOk, mcst, mvar, asB, mlst, mtup, mcons, mnil, mfn, mfnL, evN, evAs, getAs, mite, band, bor, bnot, mand, mor, mnot, mcall, iseq, irange1, irange2, sset, ssetO, sret, sdrop, snil, sif, gset, mmut, isL1, ssub, spar, evOs, setSls, slOf, sasg, gtup, gcons, gnil, mslice, osome, onone, mopL, mlensetA, misinst, mmt, kindD, saug, byes, ixP hk, pl_0, i1, i2, i3]
      unfold lb_law_3
      obtain ⟨C, hC⟩ : ∃ z, z = c_law_5 := ⟨_, rfl⟩
      rw [← hC] at q ⊢
      clear hC
      obtain ⟨F, hF⟩ : ∃ z, z = f_texts_read := ⟨_, rfl⟩
      rw [← hF] at tr ⊢
      clear hF
      generalize rdD js = y at q tr ne
      generalize stD ps made seats = SD at q tr ⊢
      simp [mop, ev2, ev1, evA, getA, look, slotOk, mcst, mvar, asB, mlst, mtup, mcons, mnil, mfn, mfnL, evN, evAs, getAs, mite, band, bor, bnot, mand, mor, mnot, mcall, iseq, irange1, irange2, sset, ssetO, sret, sdrop, snil, sif, gset, mmut, isL1, ssub, spar, evOs, setSls, slOf, sasg, gtup, gcons, gnil, mslice, osome, onone, mopL, mlensetA, misinst, mmt, kindD, saug, byes, q, tr, ne]
  refine ⟨y11, ?_⟩
  unfold l_law_3
  refine sfor_nx (Z := tz) (e1 := [x0, .sh .tape, .sh (psD P), x3, .sh (.lst (ps.map oD)), .sh (.lst (made.map natsD)), .sh (.lst (reads.map natsD)), x7, x8, x9, .sh (stD ps made seats), x11, x12, x13, x14, x15, x16, x17, x18, .no, x20]) (t1 := t') (ds := (List.range n).map nD) ?_ l1
  have ll : len1 [.lst (ps.map oD)] = some (nD n) := by simp [len1, L.hist.pl]
  generalize ps.map oD = PS at ll ⊢
  generalize stD ps made seats = SD
  simp [mop, ev2, ev1, evA, getA, look, slotOk, mcst, mvar, asB, mlst, mtup, mcons, mnil, mfn, mfnL, evN, evAs, getAs, mite, band, bor, bnot, mand, mor, mnot, mcall, iseq, irange1, irange2, sset, ssetO, sret, sdrop, snil, sif, gset, mmut, isL1, ssub, spar, evOs, setSls, slOf, sasg, gtup, gcons, gnil, mslice, osome, onone, mopL, mlensetA, misinst, mmt, kindD, saug, byes, ll, b2, range0]
end
end K38

namespace K38
open PySem L2 DL

section
variable {P : List Pl} {ps : Pl} {made reads : List (List Nat)} {seats : List Nat} {n : Nat}
def tabD (names : List D) (ps : Pl) (made : List (List Nat)) (many : Nat) (seats : List Nat) : D := .tup [.str "table", .tup names, .tup (seats.map fun s => .str (sgS (bitsOf ps made many s)))]
/-- each witness's row -/
theorem law2_run (L : Law P ps made reads seats n) (names : List D) (x0 x3 x4 x5 x8 x10 x11 x13 x14 x15 x16 x17 x18 : Sl) (x9 : Sl) (t0 : Tp) : ∃ y9 y13, (y9 = x9 ∨ ∃ d, y9 = .sh d) ∧ l_law_2 [x0, .sh .tape, .sh (psD P), x3, x4, x5, .sh (.lst (reads.map natsD)), .sh (.tup (seats.map nD)), x8, x9, x10, x11, .sh (tabD names ps made (cols P).length seats), x13, x14, x15, x16, x17, x18, .no, .no] t0 =
    some (.nx, [x0, .sh .tape, .sh (psD P), x3, x4, x5, .sh (.lst (reads.map natsD)), .sh (.tup (seats.map nD)), x8, y9, x10, x11, .sh (tabD names ps made (cols P).length seats), y13, x14, x15, x16, x17, x18, .no, .no], t0) := by
  have le := L.pp.le
  have b1 : ((P.length : Nat) : Int) < 4611686018427387904 := by omega
  have hsl := L.sl
  have b2 : ((seats.length : Nat) : Int) < 4611686018427387904 := by omega
  obtain ⟨e', t', l1, rfl, y9, y13, hy, rfl⟩ := forL_nx (Z := tz) (g := gset 13) (b := lb_law_2) (ds := (List.range seats.length).map nD) (e := [x0, .sh .tape, .sh (psD P), x3, x4, x5, .sh (.lst (reads.map natsD)), .sh (.tup (seats.map nD)), x8, x9, x10, x11, .sh (tabD names ps made (cols P).length seats), x13, x14, x15, x16, x17, x18, .no, .no]) (t := t0)
    (fun i e t => t = t0 ∧ ∃ y9 y13, (y9 = x9 ∨ ∃ d, y9 = .sh d) ∧ e = [x0, .sh .tape, .sh (psD P), x3, x4, x5, .sh (.lst (reads.map natsD)), .sh (.tup (seats.map nD)), x8, y9, x10, x11, .sh (tabD names ps made (cols P).length seats), y13, x14, x15, x16, x17, x18, .no, .no]) ⟨rfl, x9, x13, .inl rfl, rfl⟩ fun i d e t hd hi => by
      obtain ⟨rfl, y9, y13, _, rfl⟩ := hi
      have hk : i < seats.length := by
        have := (List.getElem?_eq_some_iff.mp hd).1
        simpa using this
      have ed : d = nD i := by
        rw [List.getElem?_map, List.getElem?_range hk] at hd
        simpa using hd.symm
      subst ed
      have hsn := L.st _ (List.getElem_mem hk)
      have is1 : idxD (.tup (seats.map nD)) (nD i) = some (nD seats[i]) := by rw [ixt, List.getElem?_eq_getElem hk]; rfl
      have it1 : idxD (tabD names ps made (cols P).length seats) (.int 2) = some (.tup (seats.map fun s => .str (sgS (bitsOf ps made (cols P).length s)))) := ix2 _ _ _ _
      have it2 : idxD (.tup (seats.map fun s => .str (sgS (bitsOf ps made (cols P).length s)))) (nD i) = some (.str (sgS (rowL P (reads.getD seats[i] [])).flatten)) := by
        rw [ixt, List.getElem?_eq_getElem hk, Option.map_some, L.bits hsn]
      generalize hsi : seats[i] = s at *
      refine ⟨_, rfl, .nx, [x0, .sh .tape, .sh (psD P), x3, x4, x5, .sh (.lst (reads.map natsD)), .sh (.tup (seats.map nD)), x8, .sh (rdD (reads.getD s [])), x10, x11, .sh (tabD names ps made (cols P).length seats), .sh (nD i), x14, x15, x16, x17, x18, .no, .no], t, ?_, .inl rfl, rfl, _, _, .inr ⟨_, rfl⟩, rfl⟩
      have hr := L.rd hsn
      have i1 : idxD (.lst (reads.map natsD)) (nD s) = some (natsD (reads.getD s [])) := by rw [ixl, List.getD_eq_getElem?_getD, List.getElem?_eq_getElem (by rw [L.hist.rl]; exact hsn)]; rfl
      generalize reads.getD s [] = js at hr i1 it2 ⊢
      have rr := row_run L.pp hr t
      have ro := rdof_run L.pp hr t
      rw [rd_range hr fun j => .lst [wD j]] at ro
      have n1 := ne_str (sgS (rowL P js).flatten)
      have n2 := ne_rr js
      generalize (seats.map fun s => D.str (sgS (bitsOf ps made (cols P).length s))) = TB at it1 it2
      generalize tabD names ps made (cols P).length seats = TD at it1 ⊢
      generalize sgS (rowL P js).flatten = R at it2 rr ro n1
      generalize reads.map natsD = RE at i1 ⊢
      generalize seats.map nD = SE at is1 ⊢
      have q : c_law_4 [x0, .sh .tape, .sh (psD P), x3, x4, x5, .sh (.lst RE), .sh (.tup SE), x8, y9, x10, x11, .sh TD, .sh (nD i), x14, x15, x16, x17, x18, .no, .no] t = some (rdD js, [x0, .sh .tape, .sh (psD P), x3, x4, x5, .sh (.lst RE), .sh (.tup SE), x8, y9, x10, x11, .sh TD, .sh (nD i), x14, x15, x16, x17, x18, .no, .no], t) := by
        unfold c_law_4
        rw [mlc_all (Z := tz) (e1 := [x0, .sh .tape, .sh (psD P), x3, x4, x5, .sh (.lst RE), .sh (.tup SE), x8, y9, x10, x11, .sh TD, .sh (nD i), x14, x15, x16, x17, x18, .no, .no]) (t1 := t) nD (fun k => wD (js.getD k 0)) (List.range P.length)]
        · rw [rd_range hr wD]; rfl
        · simp [mop, ev2, ev1, evA, getA, look, slotOk, mcst, mvar, asB, mlst, mtup, mcons, mnil, mfn, mfnL, evN, evAs, getAs, mite, band, bor, bnot, mand, mor, mnot, mcall, iseq, irange1, irange2, sset, ssetO, sret, sdrop, snil, sif, gset, mmut, isL1, ssub, spar, evOs, setSls, slOf, sasg, gtup, gcons, gnil, mslice, osome, onone, mopL, mlensetA, misinst, mmt, kindD, saug, byes, lenP, b1, range0]
        · rfl
        · simp; omega
        · intro k hk
          have hk := List.mem_range.mp hk
          have hlt := hr.lt k hk
          have i2 : idxD (natsD js) (nD k) = some (nD (js.getD k 0)) := by
            unfold natsD
            rw [ixl, List.getD_eq_getElem?_getD, List.getElem?_eq_getElem (by rw [hr.len]; exact hk)]; rfl
          refine ⟨[x0, .sh .tape, .sh (psD P), x3, x4, x5, .sh (.lst RE), .sh (.tup SE), x8, y9, x10, x11, .sh TD, .sh (nD i), x14, x15, x16, x17, x18, .sh (nD k), .no], rfl, rfl, [x0, .sh .tape, .sh (psD P), x3, x4, x5, .sh (.lst RE), .sh (.tup SE), x8, y9, x10, x11, .sh TD, .sh (nD i), x14, x15, x16, x17, x18, .sh (nD k), .no], ?_, rfl⟩
          show ce_law_4 _ t = some (wD (js.getD k 0), _, t)
          generalize js.getD k 0 = j' at i2 hlt ⊢
          have i3 := ixW hlt
          generalize natsD js = y at i1 i2
          unfold ce_law_4
          simp [mop, ev2, ev1, evA, getA, look, slotOk, mcst, mvar, asB, mlst, mtup, mcons, mnil, mfn, mfnL, evN, evAs, getAs, mite, band, bor, bnot, mand, mor, mnot, mcall, iseq, irange1, irange2, sset, ssetO, sret, sdrop, snil, sif, gset, mmut, isL1, ssub, spar, evOs, setSls, slOf, sasg, gtup, gcons, gnil, mslice, osome, onone, mopL, mlensetA, misinst, mmt, kindD, saug, byes, ixP hk, pl_0, is1, i1, i2, i3]
      have q3 : c_law_3 [x0, .sh .tape, .sh (psD P), x3, x4, x5, .sh (.lst RE), .sh (.tup SE), x8, .sh (rdD js), x10, x11, .sh TD, .sh (nD i), x14, x15, x16, x17, x18, .no, .no] t = some (.lst (js.map fun j => .lst [wD j]), [x0, .sh .tape, .sh (psD P), x3, x4, x5, .sh (.lst RE), .sh (.tup SE), x8, .sh (rdD js), x10, x11, .sh TD, .sh (nD i), x14, x15, x16, x17, x18, .no, .no], t) := by
        unfold c_law_3
        rw [mlc_all (Z := tz) (e1 := [x0, .sh .tape, .sh (psD P), x3, x4, x5, .sh (.lst RE), .sh (.tup SE), x8, .sh (rdD js), x10, x11, .sh TD, .sh (nD i), x14, x15, x16, x17, x18, .no, .no]) (t1 := t) wD (fun j => .lst [wD j]) js]
        · rfl
        · rfl
        · have := hr.len
          omega
        · intro j _
          exact ⟨[x0, .sh .tape, .sh (psD P), x3, x4, x5, .sh (.lst RE), .sh (.tup SE), x8, .sh (rdD js), x10, x11, .sh TD, .sh (nD i), x14, x15, x16, x17, x18, .no, .sh (wD j)], rfl, rfl, [x0, .sh .tape, .sh (psD P), x3, x4, x5, .sh (.lst RE), .sh (.tup SE), x8, .sh (rdD js), x10, x11, .sh TD, .sh (nD i), x14, x15, x16, x17, x18, .no, .sh (wD j)], by unfold ce_law_3; simp [mop, ev2, ev1, evA, getA, look, slotOk, mcst, mvar, asB, mlst, mtup, mcons, mnil, mfn, mfnL, evN, evAs, getAs, mite, band, bor, bnot, mand, mor, mnot, mcall, iseq, irange1, irange2, sset, ssetO, sret, sdrop, snil, sif, gset, mmut, isL1, ssub, spar, evOs, setSls, slOf, sasg, gtup, gcons, gnil, mslice, osome, onone, mopL, mlensetA, misinst, mmt, kindD, saug, byes], rfl⟩
      unfold lb_law_2
      generalize (js.map fun j => D.lst [wD j]) = LL at ro n2 q3
      refine scons_nx (Z := tz) (sset_ev (Z := tz) q) ?_
      show (sif _ _ _ : SM tz) [x0, .sh .tape, .sh (psD P), x3, x4, x5, .sh (.lst RE), .sh (.tup SE), x8, .sh (rdD js), x10, x11, .sh TD, .sh (nD i), x14, x15, x16, x17, x18, .no, .no] t = _
      generalize rdD js = y at rr q3 ⊢
      obtain ⟨C, hC⟩ : ∃ z, z = c_law_3 := ⟨_, rfl⟩
      rw [← hC] at q3 ⊢
      clear hC
      obtain ⟨F1, hF1⟩ : ∃ z, z = f_row_of_readings := ⟨_, rfl⟩
      rw [← hF1] at rr ⊢
      clear hF1
      obtain ⟨F2, hF2⟩ : ∃ z, z = f_readings_of := ⟨_, rfl⟩
      rw [← hF2] at ro ⊢
      clear hF2
      simp [mop, ev2, ev1, evA, getA, look, slotOk, mcst, mvar, asB, mlst, mtup, mcons, mnil, mfn, mfnL, evN, evAs, getAs, mite, band, bor, bnot, mand, mor, mnot, mcall, iseq, irange1, irange2, sset, ssetO, sret, sdrop, snil, sif, gset, mmut, isL1, ssub, spar, evOs, setSls, slOf, sasg, gtup, gcons, gnil, mslice, osome, onone, mopL, mlensetA, misinst, mmt, kindD, saug, byes, it1, it2, rr, n1, ro, q3, n2]
  refine ⟨y9, y13, hy, ?_⟩
  unfold l_law_2
  refine sfor_nx (Z := tz) (e1 := [x0, .sh .tape, .sh (psD P), x3, x4, x5, .sh (.lst (reads.map natsD)), .sh (.tup (seats.map nD)), x8, x9, x10, x11, .sh (tabD names ps made (cols P).length seats), x13, x14, x15, x16, x17, x18, .no, .no]) (t1 := t') (ds := (List.range seats.length).map nD) ?_ l1
  have ll : len1 [.tup (seats.map nD)] = some (nD seats.length) := by simp [len1]
  generalize seats.map nD = SE at ll ⊢
  generalize tabD names ps made (cols P).length seats = TD
  simp [mop, ev2, ev1, evA, getA, look, slotOk, mcst, mvar, asB, mlst, mtup, mcons, mnil, mfn, mfnL, evN, evAs, getAs, mite, band, bor, bnot, mand, mor, mnot, mcall, iseq, irange1, irange2, sset, ssetO, sret, sdrop, snil, sif, gset, mmut, isL1, ssub, spar, evOs, setSls, slOf, sasg, gtup, gcons, gnil, mslice, osome, onone, mopL, mlensetA, misinst, mmt, kindD, saug, byes, ll, b2, range0]
/-! ### the bent ones -/
structure Bent (P : List Pl) (m : List (List Nat)) (n : Nat) : Prop where
  len : m.length = n
  sz : ∀ r ∈ m, r.length ≤ 200
  er : Errs P m
theorem row_map {m : List (List Nat)} {i : Nat} (h : i < m.length) : (m.map natsD)[i]? = some (natsD (rowOf m i)) := by
  rw [List.getElem?_map, row_get h]; rfl
theorem rowOf_set {m : List (List Nat)} {i j : Nat} {r : List Nat} (h : i < m.length) : rowOf (m.set i r) j = if i = j then r else rowOf m j := by
  unfold rowOf
  rw [List.getD_eq_getElem?_getD, List.getElem?_set]
  by_cases q : i = j
  · subst q
    rw [if_pos rfl, if_pos h, if_pos rfl]; rfl
  · rw [if_neg q, if_neg q, List.getD_eq_getElem?_getD]
end
end K38

namespace K38
open PySem L2 DL

theorem nest_at {m : List (List Nat)} {env : List Sl} (h : env[15]? = some (.ow 2 (.lst (m.map natsD)))) {a : Nat} (ha : a < m.length) : nestAt env 15 (nD a) = some (m.map natsD, a, (rowOf m a).map nD) := by
  have ix : ixN (m.map natsD).length (a : Int) = some a := ixN_nat (by rw [List.length_map]; exact ha)
  have g := row_map ha
  unfold nestAt
  rw [h]
  simp only [ix, g, natsD]
theorem erase_map {A B : Type} (f : A → B) : ∀ (xs : List A) (i : Nat), (xs.map f).eraseIdx i = (xs.eraseIdx i).map f
  | [], _ => rfl
  | x :: xs, 0 => rfl
  | x :: xs, i + 1 => by simp only [List.map_cons, List.eraseIdx_cons_succ, erase_map f xs i]
theorem popAt {es : List Nat} {r : Nat} (h : r < es.length) (hz : es.length ≤ 1000) : uPopAt [nD r] (es.map nD) = some (nD es[r], (es.eraseIdx r).map nD) := by
  have ix : ixN (es.map nD).length (r : Int) = some r := ixN_nat (by rw [List.length_map]; exact h)
  have g : (es.map nD)[r]? = some (nD es[r]) := by rw [List.getElem?_map, List.getElem?_eq_getElem h]; rfl
  have b : -(2 ^ 63) ≤ (r : Int) ∧ (r : Int) < 2 ^ 63 := by omega
  simp only [uPopAt, ix, b, and_self, if_true, g]
  rw [erase_map]
def env15 (x0 x2 x3 x4 x5 x6 x7 x8 x9 x10 : Sl) (a : Nat) (x12 x13 x14 : Sl) (m : List (List Nat)) (b : Nat) (x17 x18 x19 x20 : Sl) : List Sl := [x0, .sh .tape, x2, x3, x4, x5, x6, x7, x8, x9, x10, .sh (nD a), x12, x13, x14, .ow 2 (.lst (m.map natsD)), .sh (nD b), x17, x18, x19, x20]
theorem bend_run {P : List Pl} {m : List (List Nat)} {n : Nat} (hl : m.length = n) (hz : ∀ r ∈ m, r.length ≤ 5) (he : Errs P m) {a b : Nat} (ha : a < n) (hb : b < n) (x0 x2 x3 x4 x5 x6 x7 x8 x9 x10 x12 x13 x14 x17 x18 x19 x20 : Sl) (t : Tp) :
    ∃ m' t', Bent P m' n ∧ (sif (band (asB (mop gtD (.e (mq (qlenx 15 (qvar 11)))) (.e (mcst (.int 0))))) (asB (mop gtD (.v 16) (.e (mcst (.int 0)))))) (ssub2 15 (qvar 16) (mfnL sortedI1 [(.e (mcatpop 15 (qvar 16) (qvar 11) (qcall 2 f__law_take (qcons (qvar 1) (qcons (qlenx 15 (qvar 11)) qnil)))))])) snil : SM tz)
      (env15 x0 x2 x3 x4 x5 x6 x7 x8 x9 x10 a x12 x13 x14 m b x17 x18 x19 x20) t = some (.nx, env15 x0 x2 x3 x4 x5 x6 x7 x8 x9 x10 a x12 x13 x14 m' b x17 x18 x19 x20, t') := by
  have e15 : (env15 x0 x2 x3 x4 x5 x6 x7 x8 x9 x10 a x12 x13 x14 m b x17 x18 x19 x20)[15]? = some (.ow 2 (.lst (m.map natsD))) := rfl
  have e11 : (env15 x0 x2 x3 x4 x5 x6 x7 x8 x9 x10 a x12 x13 x14 m b x17 x18 x19 x20)[11]? = some (.sh (nD a)) := rfl
  have e16 : (env15 x0 x2 x3 x4 x5 x6 x7 x8 x9 x10 a x12 x13 x14 m b x17 x18 x19 x20)[16]? = some (.sh (nD b)) := rfl
  have e1 : (env15 x0 x2 x3 x4 x5 x6 x7 x8 x9 x10 a x12 x13 x14 m b x17 x18 x19 x20)[1]? = some (.sh .tape) := rfl
  have upd : ∀ m' : List (List Nat), (env15 x0 x2 x3 x4 x5 x6 x7 x8 x9 x10 a x12 x13 x14 m b x17 x18 x19 x20).set 15 (.ow 2 (.lst (m'.map natsD))) = env15 x0 x2 x3 x4 x5 x6 x7 x8 x9 x10 a x12 x13 x14 m' b x17 x18 x19 x20 := fun m' => rfl
  have e15' : ∀ m' : List (List Nat), (env15 x0 x2 x3 x4 x5 x6 x7 x8 x9 x10 a x12 x13 x14 m' b x17 x18 x19 x20)[15]? = some (.ow 2 (.lst (m'.map natsD))) := fun _ => rfl
  have e16' : ∀ m' : List (List Nat), (env15 x0 x2 x3 x4 x5 x6 x7 x8 x9 x10 a x12 x13 x14 m' b x17 x18 x19 x20)[16]? = some (.sh (nD b)) := fun _ => rfl
  have na := nest_at e15 (a := a) (by omega)
  have nb := nest_at e15 (a := b) (by omega)
  have raz : (rowOf m a).length ≤ 5 := hz _ (List.mem_of_getElem? (row_get (by omega)))
  have rbz : (rowOf m b).length ≤ 5 := hz _ (List.mem_of_getElem? (row_get (by omega)))
  have ql : (qlenx 15 (qvar 11) : MQ tz) (env15 x0 x2 x3 x4 x5 x6 x7 x8 x9 x10 a x12 x13 x14 m b x17 x18 x19 x20) t = some (nD (rowOf m a).length, t) := by
    simp only [qlenx, qvar, e11, na, List.length_map]
  have bt : Bent P m n := ⟨hl, fun r hr => by have := hz r hr; omega, he⟩
  have g1 : gtD (nD (rowOf m a).length) (.int 0) = some (.bl (decide (0 < (rowOf m a).length))) := by simp [gtD, cmpD]
  have g2 : gtD (nD b) (.int 0) = some (.bl (decide (0 < b))) := by simp [gtD, cmpD]
  have lk : look (env15 x0 x2 x3 x4 x5 x6 x7 x8 x9 x10 a x12 x13 x14 m b x17 x18 x19 x20) 16 = some (nD b) := rfl
  have so : slotOk (.v 16 : Arg tz) (env15 x0 x2 x3 x4 x5 x6 x7 x8 x9 x10 a x12 x13 x14 m b x17 x18 x19 x20) = true := rfl
  have cnd : (band (asB (mop gtD (.e (mq (qlenx 15 (qvar 11)))) (.e (mcst (.int 0))))) (asB (mop gtD (.v 16) (.e (mcst (.int 0))))) : MB tz) (env15 x0 x2 x3 x4 x5 x6 x7 x8 x9 x10 a x12 x13 x14 m b x17 x18 x19 x20) t = some (decide (0 < (rowOf m a).length) && decide (0 < b), env15 x0 x2 x3 x4 x5 x6 x7 x8 x9 x10 a x12 x13 x14 m b x17 x18 x19 x20, t) := by
    generalize env15 x0 x2 x3 x4 x5 x6 x7 x8 x9 x10 a x12 x13 x14 m b x17 x18 x19 x20 = E at *
    generalize decide (0 < (rowOf m a).length) = c1 at g1 ⊢
    generalize decide (0 < b) = c2 at g2 ⊢
    have k1 : (asB (mop gtD (.e (mq (qlenx 15 (qvar 11)))) (.e (mcst (.int 0)))) : MB tz) E t = some (c1, E, t) := by
      simp only [asB, mop, ev2, slotOk, evA, mq, ql, mcst, getA, g1, if_true]
    have k2 : (asB (mop gtD (.v 16) (.e (mcst (.int 0)))) : MB tz) E t = some (c2, E, t) := by
      have so' : slotOk (.e (mcst (.int 0)) : Arg tz) E = true := rfl
      simp only [asB, mop, ev2, so, so', evA, mcst, getA, lk, g2, if_true]
    cases c1 with
    | false => simp only [band, k1, Bool.false_and]
    | true => simp only [band, k1, k2, Bool.true_and]
  by_cases z : 0 < (rowOf m a).length ∧ 0 < b
  · have c : (decide (0 < (rowOf m a).length) && decide (0 < b)) = true := by rw [decide_eq_true z.1, decide_eq_true z.2]; rfl
    rw [c] at cnd
    obtain ⟨r, t1, tk, hr⟩ := take_ex (rowOf m a).length z.1 (by omega) t
    have pa := popAt hr (by omega)
    have rb1 : rowOf (m.set a ((rowOf m a).eraseIdx r)) b = if a = b then (rowOf m a).eraseIdx r else rowOf m b := rowOf_set (by omega)
    have rb1z : (rowOf (m.set a ((rowOf m a).eraseIdx r)) b).length ≤ 5 := by
      rw [rb1]
      split
      · exact Nat.le_trans (List.length_eraseIdx_le _ _) raz
      · exact rbz
    have rb1e : ∀ e ∈ rowOf (m.set a ((rowOf m a).eraseIdx r)) b, e < (cols P).length := fun e hh => by
      rw [rb1] at hh
      split at hh
      · exact he a (by omega) e (List.mem_of_mem_eraseIdx hh)
      · exact he b (by omega) e hh
    obtain ⟨ys, yp, ysort⟩ := sort_nats (rowOf (m.set a ((rowOf m a).eraseIdx r)) b ++ [(rowOf m a)[r]])
    refine ⟨(m.set a ((rowOf m a).eraseIdx r)).set b ys, t1, ⟨by simp [hl], fun q hq => ?_, fun s hs e hh => ?_⟩, ?_⟩
    · rcases List.mem_or_eq_of_mem_set hq with w | w
      · rcases List.mem_or_eq_of_mem_set w with w | w
        · have := hz q w; omega
        · rw [w]
          exact Nat.le_trans (List.length_eraseIdx_le _ _) (by omega)
      · rw [w, yp.length_eq]
        simp; omega
    · rw [List.length_set, List.length_set] at hs
      rw [rowOf_set (by rw [List.length_set]; omega)] at hh
      split at hh
      · rw [yp.mem_iff, List.mem_append] at hh
        rcases hh with hh | hh
        · exact rb1e e hh
        · have : e = (rowOf m a)[r] := by simpa using hh
          rw [this]
          exact he a (by omega) _ (List.getElem_mem hr)
      · rw [rowOf_set (by omega)] at hh
        split at hh
        · exact he a (by omega) e (List.mem_of_mem_eraseIdx hh)
        · exact he s (by omega) e hh
    · have em : (m.map natsD).set a (.lst (((rowOf m a).eraseIdx r).map nD)) = (m.set a ((rowOf m a).eraseIdx r)).map natsD := by rw [List.map_set]; rfl
      have hm1 : b < (m.set a ((rowOf m a).eraseIdx r)).length := by rw [List.length_set]; omega
      have gb := row_map hm1
      have ixb : ixN ((m.set a ((rowOf m a).eraseIdx r)).map natsD).length (b : Int) = some b := ixN_nat (by rw [List.length_map]; exact hm1)
      have em2 : ((m.set a ((rowOf m a).eraseIdx r)).map natsD).set b (.lst (ys.map nD)) = ((m.set a ((rowOf m a).eraseIdx r)).set b ys).map natsD := by
        conv => rhs; rw [List.map_set]
        rfl
      have tkq : (qcall 2 f__law_take (qcons (qvar 1) (qcons (qlenx 15 (qvar 11)) qnil)) : MQ tz) (env15 x0 x2 x3 x4 x5 x6 x7 x8 x9 x10 a x12 x13 x14 m b x17 x18 x19 x20) t = some (nD r, t1) := by
        obtain ⟨F, hF⟩ : ∃ z, z = f__law_take := ⟨_, rfl⟩
        rw [← hF] at tk ⊢
        clear hF
        have q1 : (qvar 1 : MQ tz) (env15 x0 x2 x3 x4 x5 x6 x7 x8 x9 x10 a x12 x13 x14 m b x17 x18 x19 x20) t = some (.tape, t) := by simp only [qvar, e1]
        simp only [qcall, qcons, qnil, q1, ql, List.length_cons, List.length_nil, if_true, tk]
      have mm : (mmut2 15 uPopAt (qvar 11) (qcons (qcall 2 f__law_take (qcons (qvar 1) (qcons (qlenx 15 (qvar 11)) qnil))) qnil) : M tz) (env15 x0 x2 x3 x4 x5 x6 x7 x8 x9 x10 a x12 x13 x14 m b x17 x18 x19 x20) t = some (nD (rowOf m a)[r], env15 x0 x2 x3 x4 x5 x6 x7 x8 x9 x10 a x12 x13 x14 (m.set a ((rowOf m a).eraseIdx r)) b x17 x18 x19 x20, t1) := by
        generalize (qcall 2 f__law_take (qcons (qvar 1) (qcons (qlenx 15 (qvar 11)) qnil)) : MQ tz) = QC at tkq
        simp only [mmut2, qvar, e11, na, qcons, qnil, tkq, pa, em, upd]
      have cp : (mcatpop 15 (qvar 16) (qvar 11) (qcall 2 f__law_take (qcons (qvar 1) (qcons (qlenx 15 (qvar 11)) qnil))) : M tz) (env15 x0 x2 x3 x4 x5 x6 x7 x8 x9 x10 a x12 x13 x14 m b x17 x18 x19 x20) t = some (.lst ((rowOf (m.set a ((rowOf m a).eraseIdx r)) b ++ [(rowOf m a)[r]]).map nD), env15 x0 x2 x3 x4 x5 x6 x7 x8 x9 x10 a x12 x13 x14 (m.set a ((rowOf m a).eraseIdx r)) b x17 x18 x19 x20, t1) := by
        have sz : ((rowOf (m.set a ((rowOf m a).eraseIdx r)) b).map nD).length + 1 ≤ sizeLine := by
          rw [List.length_map]
          exact Nat.le_trans (by omega : _ ≤ 6) (by decide)
        have gb' : ((m.set a ((rowOf m a).eraseIdx r)).map natsD)[b]? = some (.lst ((rowOf (m.set a ((rowOf m a).eraseIdx r)) b).map nD)) := gb
        have q16 : (qvar 16 : MQ tz) (env15 x0 x2 x3 x4 x5 x6 x7 x8 x9 x10 a x12 x13 x14 m b x17 x18 x19 x20) t = some (nD b, t) := by simp only [qvar, e16]
        simp only [mcatpop, q16, nb, mm, e15', gb', sz, if_true]
        rw [List.map_append]
        rfl
      have sf : (mfnL sortedI1 [(.e (mcatpop 15 (qvar 16) (qvar 11) (qcall 2 f__law_take (qcons (qvar 1) (qcons (qlenx 15 (qvar 11)) qnil)))))] : M tz) (env15 x0 x2 x3 x4 x5 x6 x7 x8 x9 x10 a x12 x13 x14 m b x17 x18 x19 x20) t = some (.lst (ys.map nD), env15 x0 x2 x3 x4 x5 x6 x7 x8 x9 x10 a x12 x13 x14 (m.set a ((rowOf m a).eraseIdx r)) b x17 x18 x19 x20, t1) := by
        generalize (mcatpop 15 (qvar 16) (qvar 11) (qcall 2 f__law_take (qcons (qvar 1) (qcons (qlenx 15 (qvar 11)) qnil))) : M tz) = MC at cp
        simp only [mfnL, evN, evAs, slotOk, evA, cp, getAs, getA, ysort, if_true]
      generalize (mfnL sortedI1 [(.e (mcatpop 15 (qvar 16) (qvar 11) (qcall 2 f__law_take (qcons (qvar 1) (qcons (qlenx 15 (qvar 11)) qnil)))))] : M tz) = MS at sf
      have q16' : (qvar 16 : MQ tz) (env15 x0 x2 x3 x4 x5 x6 x7 x8 x9 x10 a x12 x13 x14 (m.set a ((rowOf m a).eraseIdx r)) b x17 x18 x19 x20) t1 = some (nD b, t1) := by simp only [qvar, e16']
      have ss : ssub2 15 (qvar 16) MS (env15 x0 x2 x3 x4 x5 x6 x7 x8 x9 x10 a x12 x13 x14 m b x17 x18 x19 x20) t = some (.nx, env15 x0 x2 x3 x4 x5 x6 x7 x8 x9 x10 a x12 x13 x14 ((m.set a ((rowOf m a).eraseIdx r)).set b ys) b x17 x18 x19 x20, t1) := by
        simp only [ssub2, sf, q16', e15', ixb, em2]
        rfl
      simp only [sif, cnd, ss]
  · have c : (decide (0 < (rowOf m a).length) && decide (0 < b)) = false := by
      by_cases w : 0 < (rowOf m a).length
      · rw [decide_eq_true w, decide_eq_false fun y => z ⟨w, y⟩]; rfl
      · rw [decide_eq_false w]; rfl
    rw [c] at cnd
    exact ⟨m, t, bt, by simp only [sif, cnd]; rfl⟩
end K38

namespace K38
open PySem L2 DL

section
variable {P : List Pl} {ps : Pl} {made reads : List (List Nat)} {seats : List Nat} {n : Nat}
theorem tup_rows {m : List (List Nat)} (hm : m.length ≤ 1000) (x0 x1 x2 x3 x4 x5 x6 x7 x8 x10 x11 x12 x13 x14 x16 x17 x18 x19 x20 : Sl) (k : Nat) (x9 : Sl) (h9 : x9 = .no ∨ ∃ d, x9 = .sh d) (t : Tp) :
    c_law_1 [x0, x1, x2, x3, x4, x5, x6, x7, x8, x9, x10, x11, x12, x13, x14, .ow k (.lst (m.map natsD)), x16, x17, x18, x19, x20] t = some (.lst (m.map rowD), [x0, x1, x2, x3, x4, x5, x6, x7, x8, x9, x10, x11, x12, x13, x14, .sh (.lst (m.map natsD)), x16, x17, x18, x19, x20], t) := by
  unfold c_law_1
  rw [mlc_all (Z := tz) (e1 := [x0, x1, x2, x3, x4, x5, x6, x7, x8, x9, x10, x11, x12, x13, x14, .sh (.lst (m.map natsD)), x16, x17, x18, x19, x20]) (t1 := t) natsD rowD m]
  · rfl
  · rcases h9 with rfl | ⟨d, rfl⟩ <;> rfl
  · omega
  · intro r _
    refine ⟨[x0, x1, x2, x3, x4, x5, x6, x7, x8, .sh (natsD r), x10, x11, x12, x13, x14, .sh (.lst (m.map natsD)), x16, x17, x18, x19, x20], rfl, rfl, [x0, x1, x2, x3, x4, x5, x6, x7, x8, .sh (natsD r), x10, x11, x12, x13, x14, .sh (.lst (m.map natsD)), x16, x17, x18, x19, x20], ?_, rfl⟩
    unfold ce_law_1 natsD rowD
    simp [mop, ev2, ev1, evA, getA, look, slotOk, mcst, mvar, asB, mlst, mtup, mcons, mnil, mfn, mfnL, evN, evAs, getAs, mite, band, bor, bnot, mand, mor, mnot, mcall, iseq, irange1, irange2, sset, ssetO, sret, sdrop, snil, sif, gset, mmut, isL1, ssub, spar, evOs, setSls, slOf, sasg, gtup, gcons, gnil, mslice, osome, onone, mopL, mlensetA, misinst, mmt, kindD, saug, byes, tuple1]
theorem list_rows {m : List (List Nat)} (hm : m.length ≤ 1000) (x0 x1 x2 x3 x4 x6 x7 x8 x10 x11 x12 x13 x14 x15 x16 x17 x18 x19 x20 : Sl) (x9 : Sl) (h9 : x9 = .no ∨ ∃ d, x9 = .sh d) (t : Tp) :
    c_law_2 [x0, x1, x2, x3, x4, .sh (.lst (m.map natsD)), x6, x7, x8, x9, x10, x11, x12, x13, x14, x15, x16, x17, x18, x19, x20] t = some (.lst (m.map natsD), [x0, x1, x2, x3, x4, .sh (.lst (m.map natsD)), x6, x7, x8, x9, x10, x11, x12, x13, x14, x15, x16, x17, x18, x19, x20], t) := by
  unfold c_law_2
  rw [mlc_all (Z := tz) (e1 := [x0, x1, x2, x3, x4, .sh (.lst (m.map natsD)), x6, x7, x8, x9, x10, x11, x12, x13, x14, x15, x16, x17, x18, x19, x20]) (t1 := t) natsD natsD m]
  · rfl
  · rcases h9 with rfl | ⟨d, rfl⟩ <;> rfl
  · omega
  · intro r _
    refine ⟨[x0, x1, x2, x3, x4, .sh (.lst (m.map natsD)), x6, x7, x8, .sh (natsD r), x10, x11, x12, x13, x14, x15, x16, x17, x18, x19, x20], rfl, rfl, [x0, x1, x2, x3, x4, .sh (.lst (m.map natsD)), x6, x7, x8, .sh (natsD r), x10, x11, x12, x13, x14, x15, x16, x17, x18, x19, x20], ?_, rfl⟩
    unfold ce_law_2 natsD
    simp [mop, ev2, ev1, evA, getA, look, slotOk, mcst, mvar, asB, mlst, mtup, mcons, mnil, mfn, mfnL, evN, evAs, getAs, mite, band, bor, bnot, mand, mor, mnot, mcall, iseq, irange1, irange2, sset, ssetO, sret, sdrop, snil, sif, gset, mmut, isL1, ssub, spar, evOs, setSls, slOf, sasg, gtup, gcons, gnil, mslice, osome, onone, mopL, mlensetA, misinst, mmt, kindD, saug, byes, list1]
theorem law1_run (L : Law P ps made reads seats n) (x0 x3 x6 x8 x10 x12 x13 : Sl) (x9 x11 x14 x15 x16 x17 : Sl) (h9 : x9 = .no ∨ ∃ d, x9 = .sh d) (t0 : Tp) : ∃ e' t', l_law_1 [x0, .sh .tape, .sh (psD P), x3, .sh (.lst (ps.map oD)), .sh (.lst (made.map natsD)), x6, .sh (.tup (seats.map nD)), x8, x9, x10, x11, x12, x13, x14, x15, x16, x17, .no, .no, .no] t0 = some (.nx, e', t') := by
  have h30 := L.h30
  obtain ⟨e', t', l1, _⟩ := forL_nx (Z := tz) (g := gset 14) (b := lb_law_1) (ds := (List.range 6).map nD) (e := [x0, .sh .tape, .sh (psD P), x3, .sh (.lst (ps.map oD)), .sh (.lst (made.map natsD)), x6, .sh (.tup (seats.map nD)), x8, x9, x10, x11, x12, x13, x14, x15, x16, x17, .no, .no, .no]) (t := t0)
    (fun i e t => ∃ y11 y14 y15 y16 y17, e = [x0, .sh .tape, .sh (psD P), x3, .sh (.lst (ps.map oD)), .sh (.lst (made.map natsD)), x6, .sh (.tup (seats.map nD)), x8, x9, x10, y11, x12, x13, y14, y15, y16, y17, .no, .no, .no]) ⟨x11, x14, x15, x16, x17, rfl⟩ fun i d e t hd hi => by
      obtain ⟨y11, y14, y15, y16, y17, rfl⟩ := hi
      refine ⟨_, rfl, ?_⟩
      obtain ⟨a, t1, ta, ha⟩ := take_ex n (by have := L.h1; omega) (by omega) t
      obtain ⟨b, t2, tb, hb⟩ := take_ex n (by have := L.h1; omega) (by omega) t1
      obtain ⟨m', t3, B, bend⟩ := bend_run L.hist.ml L.hist.sz L.hist.er ha hb x0 (.sh (psD P)) x3 (.sh (.lst (ps.map oD))) (.sh (.lst (made.map natsD))) x6 (.sh (.tup (seats.map nD))) x8 x9 x10 x12 x13 (.sh d) y17 .no .no .no t2
      have S := L.sof B.len fun r hr => by have := B.sz r hr; omega
      have mlen : m'.length = ps.length := by rw [B.len, L.hist.pl]
      have car := car_run L.pp S B.er t3
      have lc := lawcar_run L.pp L.asc (by rw [L.hist.pl]; omega) mlen (fun r hr => by have := B.sz r hr; omega) B.er t3
      rw [← car_eq L.asc mlen B.er] at lc
      have s1 := list_rows (m := made) (by rw [L.hist.ml]; omega) x0 (.sh .tape) (.sh (psD P)) x3 (.sh (.lst (ps.map oD))) x6 (.sh (.tup (seats.map nD))) x8 x10 y11 x12 x13 (.sh d) y15 y16 y17 .no .no .no x9 h9 t
      have s4 := tup_rows (m := m') (by rw [B.len]; omega) x0 (.sh .tape) (.sh (psD P)) x3 (.sh (.lst (ps.map oD))) (.sh (.lst (made.map natsD))) x6 (.sh (.tup (seats.map nD))) x8 x10 (.sh (nD a)) x12 x13 (.sh d) (.sh (nD b)) y17 .no .no .no 2 x9 h9 t3
      have nb := ne_bl (isCar P ps m')
      have ib : isinstD "bool" (.bl (isCar P ps m')) = some true := by simp [isinstD, noTape, kindD]
      have ll : len1 [.lst (ps.map oD)] = some (nD n) := by simp [len1, L.hist.pl]
      refine ⟨.nx, [x0, .sh .tape, .sh (psD P), x3, .sh (.lst (ps.map oD)), .sh (.lst (made.map natsD)), x6, .sh (.tup (seats.map nD)), x8, x9, x10, .sh (nD a), x12, x13, .sh d, .sh (mdD m'), .sh (nD b), .sh (.bl (isCar P ps m')), .no, .no, .no], t3, ?_, .inl rfl, _, _, _, _, _, rfl⟩
      unfold env15 at bend
      unfold lb_law_1
      refine scons_nx (Z := tz) (e1 := [x0, .sh .tape, .sh (psD P), x3, .sh (.lst (ps.map oD)), .sh (.lst (made.map natsD)), x6, .sh (.tup (seats.map nD)), x8, x9, x10, y11, x12, x13, .sh d, .ow 2 (.lst (made.map natsD)), y16, y17, .no, .no, .no]) (t1 := t) ?_ (scons_nx (Z := tz) (e1 := [x0, .sh .tape, .sh (psD P), x3, .sh (.lst (ps.map oD)), .sh (.lst (made.map natsD)), x6, .sh (.tup (seats.map nD)), x8, x9, x10, .sh (nD a), x12, x13, .sh d, .ow 2 (.lst (made.map natsD)), .sh (nD b), y17, .no, .no, .no]) (t1 := t2) ?_ (scons_nx (Z := tz) bend ?_))
      · generalize made.map natsD = MA at s1 ⊢
        generalize ps.map oD = PS at s1 ⊢
        generalize seats.map nD = SE at s1 ⊢
        generalize psD P = PD at s1 ⊢
        obtain ⟨C, hC⟩ : ∃ z, z = c_law_2 := ⟨_, rfl⟩
        rw [← hC] at s1 ⊢
        clear hC
        simp [mop, ev2, ev1, evA, getA, look, slotOk, mcst, mvar, asB, mlst, mtup, mcons, mnil, mfn, mfnL, evN, evAs, getAs, mite, band, bor, bnot, mand, mor, mnot, mcall, iseq, irange1, irange2, sset, ssetO, sret, sdrop, snil, sif, gset, mmut, isL1, ssub, spar, evOs, setSls, slOf, sasg, gtup, gcons, gnil, mslice, osome, onone, mopL, mlensetA, misinst, mmt, kindD, saug, byes, s1]
      · generalize made.map natsD = MA
        generalize ps.map oD = PS at ll ⊢
        generalize seats.map nD = SE
        generalize psD P = PD
        obtain ⟨F, hF⟩ : ∃ z, z = f__law_take := ⟨_, rfl⟩
        rw [← hF] at ta tb ⊢
        clear hF
        simp [mop, ev2, ev1, evA, getA, look, slotOk, mcst, mvar, asB, mlst, mtup, mcons, mnil, mfn, mfnL, evN, evAs, getAs, mite, band, bor, bnot, mand, mor, mnot, mcall, iseq, irange1, irange2, sset, ssetO, sret, sdrop, snil, sif, gset, mmut, isL1, ssub, spar, evOs, setSls, slOf, sasg, gtup, gcons, gnil, mslice, osome, onone, mopL, mlensetA, misinst, mmt, kindD, saug, byes, ll, ta, tb]
      · have cc : D.tup [.str "stemma", .tup (ps.map oD), .tup (m'.map rowD), .tup (seats.map nD)] = stD ps m' seats := rfl
        rw [← cc] at car
        have md : D.lst (m'.map natsD) = mdD m' := rfl
        rw [← md] at lc ⊢
        clear bend s1 cc md S B mlen
        generalize isCar P ps m' = cv at car lc nb ib ⊢
        generalize m'.map rowD = MR at car s4
        generalize m'.map natsD = MN at lc s4 ⊢
        generalize made.map natsD = MA at s4 ⊢
        generalize ps.map oD = PS at car lc s4 ⊢
        generalize seats.map nD = SE at car s4 ⊢
        generalize psD P = PD at car lc s4 ⊢
        refine scons_nx (Z := tz) (e1 := [x0, .sh .tape, .sh PD, x3, .sh (.lst PS), .sh (.lst MA), x6, .sh (.tup SE), x8, x9, x10, .sh (nD a), x12, x13, .sh d, .sh (.lst MN), .sh (nD b), .sh (.bl cv), .no, .no, .no]) (t1 := t3) ?_ ?_
        · obtain ⟨C, hC⟩ : ∃ z, z = c_law_1 := ⟨_, rfl⟩
          rw [← hC] at s4 ⊢
          clear hC
          obtain ⟨F, hF⟩ : ∃ z, z = f_is_carried := ⟨_, rfl⟩
          rw [← hF] at car ⊢
          clear hF
          simp [mop, ev2, ev1, evA, getA, look, slotOk, mcst, mvar, asB, mlst, mtup, mcons, mnil, mfn, mfnL, evN, evAs, getAs, mite, band, bor, bnot, mand, mor, mnot, mcall, iseq, irange1, irange2, sset, ssetO, sret, sdrop, snil, sif, gset, mmut, isL1, ssub, spar, evOs, setSls, slOf, sasg, gtup, gcons, gnil, mslice, osome, onone, mopL, mlensetA, misinst, mmt, kindD, saug, byes, s4, tuple1, car]
        · obtain ⟨F, hF⟩ : ∃ z, z = f__law_carried := ⟨_, rfl⟩
          rw [← hF] at lc ⊢
          clear hF
          simp [mop, ev2, ev1, evA, getA, look, slotOk, mcst, mvar, asB, mlst, mtup, mcons, mnil, mfn, mfnL, evN, evAs, getAs, mite, band, bor, bnot, mand, mor, mnot, mcall, iseq, irange1, irange2, sset, ssetO, sret, sdrop, snil, sif, gset, mmut, isL1, ssub, spar, evOs, setSls, slOf, sasg, gtup, gcons, gnil, mslice, osome, onone, mopL, mlensetA, misinst, mmt, kindD, saug, byes, ib, lc, nb]
  refine ⟨e', t', ?_⟩
  unfold l_law_1
  refine sfor_nx (Z := tz) (e1 := [x0, .sh .tape, .sh (psD P), x3, .sh (.lst (ps.map oD)), .sh (.lst (made.map natsD)), x6, .sh (.tup (seats.map nD)), x8, x9, x10, x11, x12, x13, x14, x15, x16, x17, .no, .no, .no]) (t1 := t0) (ds := (List.range 6).map nD) ?_ l1
  have r6 : rangeD 0 6 = (List.range 6).map nD := range0 6
  generalize made.map natsD = MA
  generalize ps.map oD = PS
  generalize seats.map nD = SE
  generalize psD P = PD
  generalize (List.range 6).map nD = RG at r6 ⊢
  simp [mop, ev2, ev1, evA, getA, look, slotOk, mcst, mvar, asB, mlst, mtup, mcons, mnil, mfn, mfnL, evN, evAs, getAs, mite, band, bor, bnot, mand, mor, mnot, mcall, iseq, irange1, irange2, sset, ssetO, sret, sdrop, snil, sif, gset, mmut, isL1, ssub, spar, evOs, setSls, slOf, sasg, gtup, gcons, gnil, mslice, osome, onone, mopL, mlensetA, misinst, mmt, kindD, saug, byes, r6]
end
end K38

namespace K38
open PySem L2 DL

theorem many_run {P : List Pl} (h : PP P) (t : Tp) : c_law_9 [.no, .sh .tape, .sh (psD P), .no, .no, .no, .no, .no, .no, .no, .no, .no, .no, .no, .no, .no, .no, .no, .no, .no, .no] t = some (.lst ((P.map fun E => ((E.length - 1 : Nat) : Int)).map .int), [.no, .sh .tape, .sh (psD P), .no, .no, .no, .no, .no, .no, .no, .no, .no, .no, .no, .no, .no, .no, .no, .no, .no, .no], t) := by
  have le := h.le
  unfold c_law_9
  rw [mlc_all (Z := tz) (e1 := [.no, .sh .tape, .sh (psD P), .no, .no, .no, .no, .no, .no, .no, .no, .no, .no, .no, .no, .no, .no, .no, .no, .no, .no]) (t1 := t) plD (fun E => .int ((E.length - 1 : Nat) : Int)) P]
  · rw [List.map_map]; rfl
  · rfl
  · rfl
  · omega
  · intro E hE
    obtain ⟨i, hi⟩ := List.getElem?_of_mem hE
    have pos := (h.pr i E hi).pos
    have z : ((E.length : Nat) : Int) - 1 = ((E.length - 1 : Nat) : Int) := by omega
    refine ⟨[.no, .sh .tape, .sh (psD P), .no, .no, .no, .no, .no, .no, .no, .no, .no, .no, .no, .no, .no, .no, .no, .sh (plD E), .no, .no], rfl, rfl, [.no, .sh .tape, .sh (psD P), .no, .no, .no, .no, .no, .no, .no, .no, .no, .no, .no, .no, .no, .no, .no, .sh (plD E), .no, .no], ?_, rfl⟩
    unfold ce_law_9
    simp [mop, ev2, ev1, evA, getA, look, slotOk, mcst, mvar, asB, mlst, mtup, mcons, mnil, mfn, mfnL, evN, evAs, getAs, mite, band, bor, bnot, mand, mor, mnot, mcall, iseq, irange1, irange2, sset, ssetO, sret, sdrop, snil, sif, gset, mmut, isL1, ssub, spar, evOs, setSls, slOf, sasg, gtup, gcons, gnil, mslice, osome, onone, mopL, mlensetA, misinst, mmt, kindD, saug, byes, pl_0, len1, subD, z]
theorem seats_run {n : Nat} (h1 : 1 ≤ n) (h30 : n ≤ 30) (x2 x3 x5 x6 : Sl) {PS : List D} (hl : PS.length = n) (t0 : Tp) : ∃ (seats : List Nat) (t' : Tp), (∀ s ∈ seats, s < n) ∧ seats.length ≤ 6 ∧
    c_law_8 [.no, .sh .tape, x2, x3, .sh (.lst PS), x5, x6, .no, .no, .no, .no, .no, .no, .no, .no, .no, .no, .no, .no, .no, .no] t0 = some (.lst (seats.map nD), [.no, .sh .tape, x2, x3, .sh (.lst PS), x5, x6, .no, .no, .no, .no, .no, .no, .no, .no, .no, .no, .no, .no, .no, .no], t') := by
  obtain ⟨n6, t1, e6, h6⟩ := take_ex 6 (by omega) (by omega) t0
  have e6' : f__law_take [.tape, .int 6] t0 = some (nD n6, t1) := e6
  have z : (1 : Int) + (n6 : Int) = ((1 + n6 : Nat) : Int) := by omega
  have b1 : (((1 + n6 : Nat) : Int)) < 4611686018427387904 := by omega
  have ll : len1 [.lst PS] = some (nD n) := by simp [len1, hl]
  have src : (irange1 (mcons (mop addD (.e (mcst (.int 1))) (.e (mcall 2 f__law_take (mcons (mvar 1) (mcons (mcst (.int 6)) mnil))))) mnil) : ML tz) [.no, .sh .tape, x2, x3, .sh (.lst PS), x5, x6, .no, .no, .no, .no, .no, .no, .no, .no, .no, .no, .no, .no, .no, .no] t0 = some ((List.range (1 + n6)).map nD, [.no, .sh .tape, x2, x3, .sh (.lst PS), x5, x6, .no, .no, .no, .no, .no, .no, .no, .no, .no, .no, .no, .no, .no, .no], t1) := by
    generalize 1 + n6 = k at z b1 ⊢
    obtain ⟨F, hF⟩ : ∃ z, z = f__law_take := ⟨_, rfl⟩
    rw [← hF] at e6' ⊢
    clear hF
    simp [mop, ev2, ev1, evA, getA, look, slotOk, mcst, mvar, asB, mlst, mtup, mcons, mnil, mfn, mfnL, evN, evAs, getAs, mite, band, bor, bnot, mand, mor, mnot, mcall, iseq, irange1, irange2, sset, ssetO, sret, sdrop, snil, sif, gset, mmut, isL1, ssub, spar, evOs, setSls, slOf, sasg, gtup, gcons, gnil, mslice, osome, onone, mopL, mlensetA, misinst, mmt, kindD, saug, byes, e6', addD, z, b1, range0]
  obtain ⟨acc, t', q, seats, rfl, hs, hsl⟩ := mlc_inv (Z := tz) (own := [19]) (g := gset 19) (el := ce_law_8) (e := [.no, .sh .tape, x2, x3, .sh (.lst PS), x5, x6, .no, .no, .no, .no, .no, .no, .no, .no, .no, .no, .no, .no, .no, .no]) (t := t0)
    (fun i acc t => ∃ seats : List Nat, acc = seats.map nD ∧ (∀ s ∈ seats, s < n) ∧ seats.length = i) src rfl (by simp; omega) ⟨[], rfl, (fun s hs => by cases hs), rfl⟩ fun i d acc t hd hi => by
      obtain ⟨seats, rfl, hs, hsl⟩ := hi
      obtain ⟨r, t2, e2, hr⟩ := take_ex n (by omega) (by omega) t
      refine ⟨[.no, .sh .tape, x2, x3, .sh (.lst PS), x5, x6, .no, .no, .no, .no, .no, .no, .no, .no, .no, .no, .no, .no, .sh d, .no], rfl, nD r, [.no, .sh .tape, x2, x3, .sh (.lst PS), x5, x6, .no, .no, .no, .no, .no, .no, .no, .no, .no, .no, .no, .no, .sh d, .no], t2, ?_, rfl, seats ++ [r], by simp, fun s h => ?_, by simp [hsl]⟩
      · unfold ce_law_8
        obtain ⟨F, hF⟩ : ∃ z, z = f__law_take := ⟨_, rfl⟩
        rw [← hF] at e2 ⊢
        clear hF
        simp [mop, ev2, ev1, evA, getA, look, slotOk, mcst, mvar, asB, mlst, mtup, mcons, mnil, mfn, mfnL, evN, evAs, getAs, mite, band, bor, bnot, mand, mor, mnot, mcall, iseq, irange1, irange2, sset, ssetO, sret, sdrop, snil, sif, gset, mmut, isL1, ssub, spar, evOs, setSls, slOf, sasg, gtup, gcons, gnil, mslice, osome, onone, mopL, mlensetA, misinst, mmt, kindD, saug, byes, ll, e2]
      · rcases List.mem_append.mp h with w | w
        · exact hs s w
        · have : s = r := by simpa using w
          omega
  rw [List.length_map, List.length_range] at hsl
  refine ⟨seats, t', hs, by omega, ?_⟩
  unfold c_law_8
  exact q
theorem names_run {m : Nat} (hm : m ≤ 6) (x2 x3 x4 x5 x6 : Sl) {SE : List D} (hl : SE.length = m) (t : Tp) : ∃ names : List D, c_law_7 [.no, .sh .tape, x2, x3, x4, x5, x6, .sh (.tup SE), .no, .no, .no, .no, .no, .no, .no, .no, .no, .no, .no, .no, .no] t = some (.lst names, [.no, .sh .tape, x2, x3, x4, x5, x6, .sh (.tup SE), .no, .no, .no, .no, .no, .no, .no, .no, .no, .no, .no, .no, .no], t) := by
  have b1 : ((m : Nat) : Int) < 4611686018427387904 := by omega
  have ll : len1 [.tup SE] = some (nD m) := by simp [len1, hl]
  have src : (irange1 (mcons (mfn len1 [(.v 7)]) mnil) : ML tz) [.no, .sh .tape, x2, x3, x4, x5, x6, .sh (.tup SE), .no, .no, .no, .no, .no, .no, .no, .no, .no, .no, .no, .no, .no] t = some ((List.range m).map nD, [.no, .sh .tape, x2, x3, x4, x5, x6, .sh (.tup SE), .no, .no, .no, .no, .no, .no, .no, .no, .no, .no, .no, .no, .no], t) := by
    simp [mop, ev2, ev1, evA, getA, look, slotOk, mcst, mvar, asB, mlst, mtup, mcons, mnil, mfn, mfnL, evN, evAs, getAs, mite, band, bor, bnot, mand, mor, mnot, mcall, iseq, irange1, irange2, sset, ssetO, sret, sdrop, snil, sif, gset, mmut, isL1, ssub, spar, evOs, setSls, slOf, sasg, gtup, gcons, gnil, mslice, osome, onone, mopL, mlensetA, misinst, mmt, kindD, saug, byes, ll, b1, range0]
  obtain ⟨acc, t', q, rfl⟩ := mlc_inv (Z := tz) (own := [19]) (g := gset 19) (el := ce_law_7) (e := [.no, .sh .tape, x2, x3, x4, x5, x6, .sh (.tup SE), .no, .no, .no, .no, .no, .no, .no, .no, .no, .no, .no, .no, .no]) (t := t)
    (fun i acc t' => t' = t) src rfl (by simp; omega) rfl fun i d acc t hd hi => by
      subst hi
      have hk : i < m := by
        have := (List.getElem?_eq_some_iff.mp hd).1
        simpa using this
      have ed : d = nD i := by
        rw [List.getElem?_map, List.getElem?_range hk] at hd
        simpa using hd.symm
      subst ed
      obtain ⟨s, hs⟩ := name_ex i (by omega)
      have st : str1 [nD i] = some (.str (toString (i : Int))) := by
        have lg : ((i : Nat) : Int).natAbs.log2 < 1920 := by
          match i, (by omega : i < 6) with
          | 0, _ => decide
          | 1, _ => decide
          | 2, _ => decide
          | 3, _ => decide
          | 4, _ => decide
          | 5, _ => decide
        simp only [str1, lg, if_true]
      generalize (toString (i : Int) : String) = ts at hs st
      refine ⟨[.no, .sh .tape, x2, x3, x4, x5, x6, .sh (.tup SE), .no, .no, .no, .no, .no, .no, .no, .no, .no, .no, .no, .sh (nD i), .no], rfl, .str s, [.no, .sh .tape, x2, x3, x4, x5, x6, .sh (.tup SE), .no, .no, .no, .no, .no, .no, .no, .no, .no, .no, .no, .sh (nD i), .no], t, ?_, rfl, rfl⟩
      unfold ce_law_7
      generalize D.str (Str.ofString "N") = NN at hs ⊢
      simp [mop, ev2, ev1, evA, getA, look, slotOk, mcst, mvar, asB, mlst, mtup, mcons, mnil, mfn, mfnL, evN, evAs, getAs, mite, band, bor, bnot, mand, mor, mnot, mcall, iseq, irange1, irange2, sset, ssetO, sret, sdrop, snil, sif, gset, mmut, isL1, ssub, spar, evOs, setSls, slOf, sasg, gtup, gcons, gnil, mslice, osome, onone, mopL, mlensetA, misinst, mmt, kindD, saug, byes, st, hs]
  exact ⟨acc, by unfold c_law_7; exact q⟩
theorem tup_rows6 {m : List (List Nat)} (hm : m.length ≤ 1000) (x0 x1 x2 x3 x4 x6 x7 x8 : Sl) (t : Tp) :
    c_law_6 [x0, x1, x2, x3, x4, .sh (.lst (m.map natsD)), x6, x7, x8, .no, .no, .no, .no, .no, .no, .no, .no, .no, .no, .no, .no] t = some (.lst (m.map rowD), [x0, x1, x2, x3, x4, .sh (.lst (m.map natsD)), x6, x7, x8, .no, .no, .no, .no, .no, .no, .no, .no, .no, .no, .no, .no], t) := by
  unfold c_law_6
  rw [mlc_all (Z := tz) (e1 := [x0, x1, x2, x3, x4, .sh (.lst (m.map natsD)), x6, x7, x8, .no, .no, .no, .no, .no, .no, .no, .no, .no, .no, .no, .no]) (t1 := t) natsD rowD m]
  · rfl
  · rfl
  · omega
  · intro r _
    refine ⟨[x0, x1, x2, x3, x4, .sh (.lst (m.map natsD)), x6, x7, x8, .sh (natsD r), .no, .no, .no, .no, .no, .no, .no, .no, .no, .no, .no], rfl, rfl, [x0, x1, x2, x3, x4, .sh (.lst (m.map natsD)), x6, x7, x8, .sh (natsD r), .no, .no, .no, .no, .no, .no, .no, .no, .no, .no, .no], ?_, rfl⟩
    unfold ce_law_6 natsD rowD
    simp [mop, ev2, ev1, evA, getA, look, slotOk, mcst, mvar, asB, mlst, mtup, mcons, mnil, mfn, mfnL, evN, evAs, getAs, mite, band, bor, bnot, mand, mor, mnot, mcall, iseq, irange1, irange2, sset, ssetO, sret, sdrop, snil, sif, gset, mmut, isL1, ssub, spar, evOs, setSls, slOf, sasg, gtup, gcons, gnil, mslice, osome, onone, mopL, mlensetA, misinst, mmt, kindD, saug, byes, tuple1]
theorem plain (ns : List Int) (_ : ns.length ≤ 63) : ∃ T' e', m_law (.no :: .sh .tape :: List.replicate 19 .no) (startT ns) = some (.rt (.bl true), e', T') := by
  generalize startT ns = t0
  show ∃ T' e', m_law [.no, .sh .tape, .no, .no, .no, .no, .no, .no, .no, .no, .no, .no, .no, .no, .no, .no, .no, .no, .no, .no, .no] t0 = some (.rt (.bl true), e', T')
  obtain ⟨P, t1, pp, ppos, q1⟩ := places_run t0
  have q2 := many_run pp t1
  have sm : sum1 [.lst ((P.map fun E => ((E.length - 1 : Nat) : Int)).map .int)] = some (nD (cols P).length) := by
    have := sum_nats (P.map fun E => E.length - 1)
    rw [List.map_map] at this
    simp only [sum1, intsD_map, Option.map_some]
    rw [cols_len, nD, ← this]
    rfl
  obtain ⟨ps, made, reads, n, t2, H, h1, h30, q3⟩ := hist_run pp t1
  obtain ⟨seats, t3, hs, hsl, q4⟩ := seats_run h1 h30 (.sh (psD P)) (.sh (nD (cols P).length)) (.sh (.lst (made.map natsD))) (.sh (.lst (reads.map natsD))) (PS := ps.map oD) (by rw [List.length_map, H.pl]) t2
  obtain ⟨names, q5⟩ := names_run (m := seats.length) hsl (.sh (psD P)) (.sh (nD (cols P).length)) (.sh (.lst (ps.map oD))) (.sh (.lst (made.map natsD))) (.sh (.lst (reads.map natsD))) (SE := seats.map nD) (by simp) t3
  have L : Law P ps made reads seats n := ⟨pp, H, h1, h30, hs, hsl⟩
  have q6 := tup_rows6 (m := made) (by rw [H.ml]; omega) .no (.sh .tape) (.sh (psD P)) (.sh (nD (cols P).length)) (.sh (.lst (ps.map oD))) (.sh (.lst (reads.map natsD))) (.sh (.tup (seats.map nD))) (.sh (.tup names)) t3
  have q7 := car_run pp L.s0 H.er t3
  rw [L.is] at q7
  obtain ⟨y11, q8⟩ := law3_run L .no (.sh (nD (cols P).length)) (.sh (.tup (seats.map nD))) (.sh (.tup names)) .no .no .no .no .no .no .no .no .no .no t3
  have q9 := shown_run L.s0 names (many := (cols P).length) (by have := cols_small pp; omega) t3
  obtain ⟨y9, y13, hy9, q10⟩ := law2_run L names .no (.sh (nD (cols P).length)) (.sh (.lst (ps.map oD))) (.sh (.lst (made.map natsD))) (.sh (.tup names)) (.sh (stD ps made seats)) y11 .no .no .no .no .no .no .no t3
  obtain ⟨e', t', q11⟩ := law1_run L .no (.sh (nD (cols P).length)) (.sh (.lst (reads.map natsD))) (.sh (.tup names)) (.sh (stD ps made seats)) (.sh (tabD names ps made (cols P).length seats)) y13 y9 y11 .no .no .no .no hy9 t3
  refine ⟨t', e', ?_⟩
  have q9' : f_shown [stD ps made seats, .tup names, nD (cols P).length] t3 = some (tabD names ps made (cols P).length seats, t3) := q9
  have cc : D.tup [.str "stemma", .tup (ps.map oD), .tup (made.map rowD), .tup (seats.map nD)] = stD ps made seats := rfl
  clear q9 H hs
  unfold m_law
  refine scons_nx (Z := tz) (e1 := [.no, .sh .tape, .sh (psD P), .no, .no, .no, .no, .no, .no, .no, .no, .no, .no, .no, .no, .no, .no, .no, .no, .no, .no]) (t1 := t1) ?_ (scons_nx (Z := tz) (e1 := [.no, .sh .tape, .sh (psD P), .sh (nD (cols P).length), .no, .no, .no, .no, .no, .no, .no, .no, .no, .no, .no, .no, .no, .no, .no, .no, .no]) (t1 := t1) ?_ (scons_nx (Z := tz) (e1 := [.no, .sh .tape, .sh (psD P), .sh (nD (cols P).length), .sh (.lst (ps.map oD)), .sh (.lst (made.map natsD)), .sh (.lst (reads.map natsD)), .no, .no, .no, .no, .no, .no, .no, .no, .no, .no, .no, .no, .no, .no]) (t1 := t2) ?_ (scons_nx (Z := tz) (e1 := [.no, .sh .tape, .sh (psD P), .sh (nD (cols P).length), .sh (.lst (ps.map oD)), .sh (.lst (made.map natsD)), .sh (.lst (reads.map natsD)), .sh (.tup (seats.map nD)), .no, .no, .no, .no, .no, .no, .no, .no, .no, .no, .no, .no, .no]) (t1 := t3) ?_ (scons_nx (Z := tz) (e1 := [.no, .sh .tape, .sh (psD P), .sh (nD (cols P).length), .sh (.lst (ps.map oD)), .sh (.lst (made.map natsD)), .sh (.lst (reads.map natsD)), .sh (.tup (seats.map nD)), .sh (.tup names), .no, .no, .no, .no, .no, .no, .no, .no, .no, .no, .no, .no]) (t1 := t3) ?_ (scons_nx (Z := tz) (e1 := [.no, .sh .tape, .sh (psD P), .sh (nD (cols P).length), .sh (.lst (ps.map oD)), .sh (.lst (made.map natsD)), .sh (.lst (reads.map natsD)), .sh (.tup (seats.map nD)), .sh (.tup names), .no, .sh (stD ps made seats), .no, .no, .no, .no, .no, .no, .no, .no, .no, .no]) (t1 := t3) ?_ (scons_nx (Z := tz) (e1 := [.no, .sh .tape, .sh (psD P), .sh (nD (cols P).length), .sh (.lst (ps.map oD)), .sh (.lst (made.map natsD)), .sh (.lst (reads.map natsD)), .sh (.tup (seats.map nD)), .sh (.tup names), .no, .sh (stD ps made seats), .no, .no, .no, .no, .no, .no, .no, .no, .no, .no]) (t1 := t3) ?_ (scons_nx (Z := tz) q8 (scons_nx (Z := tz) (e1 := [.no, .sh .tape, .sh (psD P), .sh (nD (cols P).length), .sh (.lst (ps.map oD)), .sh (.lst (made.map natsD)), .sh (.lst (reads.map natsD)), .sh (.tup (seats.map nD)), .sh (.tup names), .no, .sh (stD ps made seats), y11, .sh (tabD names ps made (cols P).length seats), .no, .no, .no, .no, .no, .no, .no, .no]) (t1 := t3) ?_ (scons_nx (Z := tz) q10 (scons_nx (Z := tz) q11 rfl))))))))))
  · clear q2 q3 q4 q5 q6 q7 q8 q9' q10 q11 sm cc L
    generalize psD P = PD at q1 ⊢
    obtain ⟨F, hF⟩ : ∃ z, z = f__law_places := ⟨_, rfl⟩
    rw [← hF] at q1 ⊢
    clear hF
    simp [mop, ev2, ev1, evA, getA, look, slotOk, mcst, mvar, asB, mlst, mtup, mcons, mnil, mfn, mfnL, evN, evAs, getAs, mite, band, bor, bnot, mand, mor, mnot, mcall, iseq, irange1, irange2, sset, ssetO, sret, sdrop, snil, sif, gset, mmut, isL1, ssub, spar, evOs, setSls, slOf, sasg, gtup, gcons, gnil, mslice, osome, onone, mopL, mlensetA, misinst, mmt, kindD, saug, byes, q1]
  · clear q1 q3 q4 q5 q6 q7 q8 q9' q10 q11 cc L
    generalize (P.map fun E => ((E.length - 1 : Nat) : Int)).map D.int = X at q2 sm
    generalize psD P = PD at q2 ⊢
    generalize nD (cols P).length = MN at sm ⊢
    obtain ⟨C, hC⟩ : ∃ z, z = c_law_9 := ⟨_, rfl⟩
    rw [← hC] at q2 ⊢
    clear hC
    simp [mop, ev2, ev1, evA, getA, look, slotOk, mcst, mvar, asB, mlst, mtup, mcons, mnil, mfn, mfnL, evN, evAs, getAs, mite, band, bor, bnot, mand, mor, mnot, mcall, iseq, irange1, irange2, sset, ssetO, sret, sdrop, snil, sif, gset, mmut, isL1, ssub, spar, evOs, setSls, slOf, sasg, gtup, gcons, gnil, mslice, osome, onone, mopL, mlensetA, misinst, mmt, kindD, saug, byes, q2, sm]
  · clear q1 q2 q4 q5 q6 q7 q8 q9' q10 q11 cc L sm
    generalize psD P = PD at q3 ⊢
    generalize nD (cols P).length = MN
    generalize ps.map oD = PS at q3 ⊢
    generalize made.map natsD = MA at q3 ⊢
    generalize reads.map natsD = RE at q3 ⊢
    obtain ⟨F, hF⟩ : ∃ z, z = f__law_history := ⟨_, rfl⟩
    rw [← hF] at q3 ⊢
    clear hF
    simp [mop, ev2, ev1, evA, getA, look, slotOk, mcst, mvar, asB, mlst, mtup, mcons, mnil, mfn, mfnL, evN, evAs, getAs, mite, band, bor, bnot, mand, mor, mnot, mcall, iseq, irange1, irange2, sset, ssetO, sret, sdrop, snil, sif, gset, mmut, isL1, ssub, spar, evOs, setSls, slOf, sasg, gtup, gcons, gnil, mslice, osome, onone, mopL, mlensetA, misinst, mmt, kindD, saug, byes, q3]
  · clear q1 q2 q3 q5 q6 q7 q8 q9' q10 q11 cc L sm
    generalize psD P = PD at q4 ⊢
    generalize nD (cols P).length = MN at q4 ⊢
    generalize ps.map oD = PS at q4 ⊢
    generalize made.map natsD = MA at q4 ⊢
    generalize reads.map natsD = RE at q4 ⊢
    generalize seats.map nD = SE at q4 ⊢
    obtain ⟨C, hC⟩ : ∃ z, z = c_law_8 := ⟨_, rfl⟩
    rw [← hC] at q4 ⊢
    clear hC
    simp [mop, ev2, ev1, evA, getA, look, slotOk, mcst, mvar, asB, mlst, mtup, mcons, mnil, mfn, mfnL, evN, evAs, getAs, mite, band, bor, bnot, mand, mor, mnot, mcall, iseq, irange1, irange2, sset, ssetO, sret, sdrop, snil, sif, gset, mmut, isL1, ssub, spar, evOs, setSls, slOf, sasg, gtup, gcons, gnil, mslice, osome, onone, mopL, mlensetA, misinst, mmt, kindD, saug, byes, q4, tuple1]
  · clear q1 q2 q3 q4 q6 q7 q8 q9' q10 q11 cc L sm
    generalize psD P = PD at q5 ⊢
    generalize nD (cols P).length = MN at q5 ⊢
    generalize ps.map oD = PS at q5 ⊢
    generalize made.map natsD = MA at q5 ⊢
    generalize reads.map natsD = RE at q5 ⊢
    generalize seats.map nD = SE at q5 ⊢
    obtain ⟨C, hC⟩ : ∃ z, z = c_law_7 := ⟨_, rfl⟩
    rw [← hC] at q5 ⊢
    clear hC
    simp [mop, ev2, ev1, evA, getA, look, slotOk, mcst, mvar, asB, mlst, mtup, mcons, mnil, mfn, mfnL, evN, evAs, getAs, mite, band, bor, bnot, mand, mor, mnot, mcall, iseq, irange1, irange2, sset, ssetO, sret, sdrop, snil, sif, gset, mmut, isL1, ssub, spar, evOs, setSls, slOf, sasg, gtup, gcons, gnil, mslice, osome, onone, mopL, mlensetA, misinst, mmt, kindD, saug, byes, q5, tuple1]
  · clear q1 q2 q3 q4 q5 q7 q8 q9' q10 q11 L sm
    rw [← cc]
    clear cc
    generalize psD P = PD at q6 ⊢
    generalize nD (cols P).length = MN at q6 ⊢
    generalize made.map rowD = MR at q6 ⊢
    generalize ps.map oD = PS at q6 ⊢
    generalize made.map natsD = MA at q6 ⊢
    generalize reads.map natsD = RE at q6 ⊢
    generalize seats.map nD = SE at q6 ⊢
    obtain ⟨C, hC⟩ : ∃ z, z = c_law_6 := ⟨_, rfl⟩
    rw [← hC] at q6 ⊢
    clear hC
    simp [mop, ev2, ev1, evA, getA, look, slotOk, mcst, mvar, asB, mlst, mtup, mcons, mnil, mfn, mfnL, evN, evAs, getAs, mite, band, bor, bnot, mand, mor, mnot, mcall, iseq, irange1, irange2, sset, ssetO, sret, sdrop, snil, sif, gset, mmut, isL1, ssub, spar, evOs, setSls, slOf, sasg, gtup, gcons, gnil, mslice, osome, onone, mopL, mlensetA, misinst, mmt, kindD, saug, byes, q6, tuple1]
  · clear q1 q2 q3 q4 q5 q6 q8 q9' q10 q11 cc L sm
    generalize stD ps made seats = SD at q7 ⊢
    generalize psD P = PD at q7 ⊢
    generalize nD (cols P).length = MN
    generalize ps.map oD = PS
    generalize made.map natsD = MA
    generalize reads.map natsD = RE
    generalize seats.map nD = SE
    obtain ⟨F, hF⟩ : ∃ z, z = f_is_carried := ⟨_, rfl⟩
    rw [← hF] at q7 ⊢
    clear hF
    simp [mop, ev2, ev1, evA, getA, look, slotOk, mcst, mvar, asB, mlst, mtup, mcons, mnil, mfn, mfnL, evN, evAs, getAs, mite, band, bor, bnot, mand, mor, mnot, mcall, iseq, irange1, irange2, sset, ssetO, sret, sdrop, snil, sif, gset, mmut, isL1, ssub, spar, evOs, setSls, slOf, sasg, gtup, gcons, gnil, mslice, osome, onone, mopL, mlensetA, misinst, mmt, kindD, saug, byes, q7, isntBD]
  · clear q1 q2 q3 q4 q5 q6 q7 q8 q10 q11 cc L sm
    generalize tabD names ps made (cols P).length seats = TD at q9' ⊢
    generalize stD ps made seats = SD at q9' ⊢
    generalize psD P = PD
    generalize nD (cols P).length = MN at q9' ⊢
    generalize ps.map oD = PS
    generalize made.map natsD = MA
    generalize reads.map natsD = RE
    generalize seats.map nD = SE
    obtain ⟨F, hF⟩ : ∃ z, z = f_shown := ⟨_, rfl⟩
    rw [← hF] at q9' ⊢
    clear hF
    simp [mop, ev2, ev1, evA, getA, look, slotOk, mcst, mvar, asB, mlst, mtup, mcons, mnil, mfn, mfnL, evN, evAs, getAs, mite, band, bor, bnot, mand, mor, mnot, mcall, iseq, irange1, irange2, sset, ssetO, sret, sdrop, snil, sif, gset, mmut, isL1, ssub, spar, evOs, setSls, slOf, sasg, gtup, gcons, gnil, mslice, osome, onone, mopL, mlensetA, misinst, mmt, kindD, saug, byes, q9']
end K38

open PySem PySem.W PySem.Calls PyProof.Rows in
theorem PySem.Challenge.cw_elderfolios_k38_whole_scribes_change_rea_holds : PySem.Challenge.rw_elderfolios_k38_whole_scribes_change_rea.Holds := by
  w_on; o_law
  refine HandSHeadRun.head_any (r := OpenLaw.row PySem.Challenge.rw_elderfolios_k38_whole_scribes_change_rea) (q := view (OpenLaw.row PySem.Challenge.rw_elderfolios_k38_whole_scribes_change_rea).prog [25]) (H := K38.hk) (ob := K38.ob) (M := 2000) (loose := K38.names) (d := HandSHeadRun.topDef (OpenLaw.row PySem.Challenge.rw_elderfolios_k38_whole_scribes_change_rea).prog 25) (kwd := []) K38.ob_eq
    (by kernel_rfl) (fun s => by kernel_rfl) K38.run (by kernel_rfl) (by kernel_rfl) (by kernel_rfl) (by rfl) (by first | assumption | decide +kernel) (by decide +kernel) ⟨rfl, rfl, rfl, rfl, rfl, by decide +kernel⟩ ?hw ?hc
  case hw => w_witness2
  case hc =>
    refine L2.walk_ofE (l := PySem.Challenge.rw_elderfolios_k38_whole_scribes_change_rea) (n := 63) (k := 5) (x := "script") (CX := L2.CX0) rfl (by decide) (by kernel_rfl) ⟨rfl, by decide, by decide⟩ ?F (fun _ _ _ _ z => z)
    intro w mg fa h Y G hmg0
    obtain ⟨K, KX, c⟩ := Y
    have hmg : mg ("law" : PySem.Str) = some (.ref fa) := by
      have e : (HandSHeadRun.topDef (OpenLaw.row PySem.Challenge.rw_elderfolios_k38_whole_scribes_change_rea).prog 25).name = ("law" : PySem.Str) := by kernel_rfl
      rw [← e]
      exact hmg0
    obtain ⟨fd, hb, hF⟩ := K38.facts K38.plain (P := (PySem.Challenge.rw_elderfolios_k38_whole_scribes_change_rea).prog) (w := w) KX G hmg c
    exact ⟨K, fd, DL.spLaw K, KX, hb, fun H a ns hl _ hS => ⟨a, ns, rfl, hS, hl, fun _ => rfl⟩, hF⟩
#print axioms PySem.Challenge.cw_elderfolios_k38_whole_scribes_change_rea_holds

