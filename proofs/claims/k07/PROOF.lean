import PyProof.Rows.All
import HandS.ForMost
import HandS.IsInst
import HandS.WideBits
import HandS.SortInts
import HandS.Style
import HandS.Flow
import HandS.TupAny
import HandS.Small
import HandS.Rev
import HandS.Zip
import HandS.Wide
import HandS.SortRule
import HandS.StrMore
import KE.GoesEnum
import PyProof.Draws
import HandS.Defaults
import HandS.HeadEnd
import HandS.Head0
import HandS.Head1
import HandS.Head2
import HandS.HeadHook1
import HandS.HeadHook2
import PyProof.Rows.Walk
import HandS.SetFor
import HandS.SortKw
import KE.SortData
import KE.DataMinMax
import KE.DataFind
import HandS.Conv
import HandS.Deep
import HandS.SetKeys
import HandS.Iter
import KE.DataEq
import HandS.Set
import HandS.More
import KE.KDictPairs
import PyProof.ReprBulk
import PyProof.ReprRoads
import PyProof.FitsInt
import PyProof.Rows.InDataRows
import PySem.Challenge.RW_unlikebits_k07_whole_branches_walked
set_option Elab.async false
set_option linter.all false
set_option maxRecDepth 100000
set_option maxHeartbeats 4000000
set_option synthInstance.maxSize 100000
set_option synthInstance.maxHeartbeats 4000000
/-! U1: data D, how a heap bears them (Rep), the state (Rel), what a reading does to it (SO, SA, ST, SG, SI, SS). -/
namespace U
open PySem L2

/-- a datum: what a value of the program stands for -/
inductive D where
  | non | bl (b : Bool) | int (i : Int) | str (x : Str) | ty (n : String)
  | lst (xs : List D) | tup (xs : List D) | fz (xs : List D) | dct (ks : List Key) (vs : List D) | lk (ks : List Key) (vs : List D)

mutual
/-- nothing in it can be changed -/
def D.pure : D → Bool
  | .lst _ => false
  | .dct _ _ => false
  | .lk _ _ => false
  | .tup xs => D.pureL xs
  | .fz xs => D.pureL xs
  | _ => true
def D.pureL : List D → Bool
  | [] => true
  | d :: ds => d.pure && D.pureL ds
end

/-- a list that is read, never changed -/
def FzL (K : PySem.W.Frag) (H : Hp) (a : Addr) (xs : List V) : Prop :=
  (∃ o, H a = some (.frz o (.lst xs))) ∨
    ∃ (o : Obj) (its : Array Value) (n : Nat), K.lookup a = some o ∧ o.cls = .type "list" ∧ o.dict = none ∧ o.data = .seq its n ∧ its.size ≤ sizeLine ∧ Vals xs its.toList ∧ o.slots = #[]

mutual
/-- the value v stands for d in the heap H; F: the changeable objects of it -/
def Rep (K : PySem.W.Frag) (H : Hp) : D → V → List Addr → Prop
  | .non, v, F => v = .non ∧ F = []
  | .bl b, v, F => v = .bl b ∧ F = []
  | .int i, v, F => v = .int i ∧ F = []
  | .str x, v, F => v = .str x ∧ F = []
  | .ty n, v, F => v = .ty n ∧ F = []
  | .lst ds, v, F => ∃ a xs G, v = .ref a ∧ RepL K H ds xs G ∧ H a = some (.lst xs) ∧ F = a :: G
  | .fz ds, v, F => ∃ a xs, v = .ref a ∧ FzL K H a xs ∧ RepL K H ds xs F
  | .tup ds, v, F => ∃ a xs, v = .ref a ∧ H a = some (.tup xs) ∧ RepL K H ds xs F
  | .dct ks ds, v, F => ∃ a xs G, v = .ref a ∧ H a = some (.dK (ks.zip xs)) ∧ ks.length = xs.length ∧ RepL K H ds xs G ∧ F = a :: G
  | .lk ks ds, v, F => ∃ a o xs, v = .ref a ∧ H a = some (.frz o (.dK (ks.zip xs))) ∧ ks.length = xs.length ∧ RepL K H ds xs F
def RepL (K : PySem.W.Frag) (H : Hp) : List D → List V → List Addr → Prop
  | [], xs, F => xs = [] ∧ F = []
  | d :: ds, xs, F => ∃ v vs F1 F2, xs = v :: vs ∧ F = F1 ++ F2 ∧ Rep K H d v F1 ∧ RepL K H ds vs F2
end

/-- may be changed -/
def mutO : HO → Bool
  | .lst _ => true
  | .dK _ => true
  | .dT _ => true
  | .set _ _ => true
  | .ins _ _ _ => true
  | .own _ => true
  | .xd _ => true
  | .ext _ => true
  | _ => false

/-- the objects of T and what never changes are as they were -/
def Pin (T : Addr → Prop) (H H' : Hp) : Prop := ∀ a o, H a = some o → (T a ∨ mutO o = false) → H' a = some o
theorem Pin.refl (T : Addr → Prop) (H : Hp) : Pin T H H := fun _ _ h _ => h
theorem Pin.trans {T : Addr → Prop} {H H1 H2 : Hp} (a : Pin T H H1) (b : Pin T H1 H2) : Pin T H H2 := fun x o h c => b x o (a x o h c) c
theorem Pin.mono {T T' : Addr → Prop} {H H' : Hp} (p : Pin T H H') (h : ∀ a, T' a → T a) : Pin T' H H' := fun a o e c => p a o e (c.imp (h a) id)
theorem Pin.same {T : Addr → Prop} {H H' : Hp} (h : Same H H') : Pin T H H' := fun a o e _ => h a o e

def addF (T : Addr → Prop) (F : List Addr) : Addr → Prop := fun a => T a ∨ a ∈ F

section
variable {K : PySem.W.Frag} {H H' : Hp}
theorem FzL.pin {T : Addr → Prop} {a : Addr} {xs : List V} (h : FzL K H a xs) (p : Pin T H H') : FzL K H' a xs := by
  rcases h with ⟨o, e⟩ | h
  · exact .inl ⟨o, p a _ e (.inr rfl)⟩
  · exact .inr h
theorem SqT.pin {T : Addr → Prop} {a : Addr} {xs : List V} (h : SqT K H a xs) (p : Pin T H H') : SqT K H' a xs := by
  rcases h with (h | ⟨o, h⟩) | h
  · exact .inl (.inl (p a _ h (.inr rfl)))
  · exact .inl (.inr ⟨o, p a _ h (.inr rfl)⟩)
  · exact .inr h

mutual
theorem Rep.pin {T : Addr → Prop} (p : Pin T H H') : ∀ (d : D) (v : V) (F : List Addr), Rep K H d v F → (∀ a ∈ F, T a) → Rep K H' d v F
  | .non, v, F, h, _ => h
  | .bl b, v, F, h, _ => h
  | .int i, v, F, h, _ => h
  | .str x, v, F, h, _ => h
  | .ty n, v, F, h, _ => h
  | .lst ds, v, F, h, t => by
    simp only [Rep] at h ⊢
    obtain ⟨a, xs, G, rfl, hr, e, rfl⟩ := h
    exact ⟨a, xs, G, rfl, RepL.pin p ds xs G hr fun b hb => t b (List.mem_cons_of_mem _ hb), p a _ e (.inl (t a List.mem_cons_self)), rfl⟩
  | .fz ds, v, F, h, t => by
    simp only [Rep] at h ⊢
    obtain ⟨a, xs, rfl, e, hr⟩ := h
    exact ⟨a, xs, rfl, e.pin p, RepL.pin p ds xs F hr t⟩
  | .tup ds, v, F, h, t => by
    simp only [Rep] at h ⊢
    obtain ⟨a, xs, rfl, e, hr⟩ := h
    exact ⟨a, xs, rfl, p a _ e (.inr rfl), RepL.pin p ds xs F hr t⟩
  | .dct ks ds, v, F, h, t => by
    simp only [Rep] at h ⊢
    obtain ⟨a, xs, G, rfl, e, hl, hr, rfl⟩ := h
    exact ⟨a, xs, G, rfl, p a _ e (.inl (t a List.mem_cons_self)), hl, RepL.pin p ds xs G hr fun b hb => t b (List.mem_cons_of_mem _ hb), rfl⟩
  | .lk ks ds, v, F, h, t => by
    simp only [Rep] at h ⊢
    obtain ⟨a, o, xs, rfl, e, hl, hr⟩ := h
    exact ⟨a, o, xs, rfl, p a _ e (.inr rfl), hl, RepL.pin p ds xs F hr t⟩
theorem RepL.pin {T : Addr → Prop} (p : Pin T H H') : ∀ (ds : List D) (xs : List V) (F : List Addr), RepL K H ds xs F → (∀ a ∈ F, T a) → RepL K H' ds xs F
  | [], xs, F, h, _ => h
  | d :: ds, xs, F, h, t => by
    simp only [RepL] at h ⊢
    obtain ⟨v, vs, F1, F2, rfl, rfl, h1, h2⟩ := h
    exact ⟨v, vs, F1, F2, rfl, rfl, Rep.pin p d v F1 h1 fun b hb => t b (List.mem_append_left _ hb), RepL.pin p ds vs F2 h2 fun b hb => t b (List.mem_append_right _ hb)⟩
end

theorem Rep.same {d : D} {v : V} {F : List Addr} (h : Rep K H d v F) (s : Same H H') : Rep K H' d v F := Rep.pin (T := fun _ => True) (Pin.same s) d v F h fun _ _ => trivial
theorem RepL.same {ds : List D} {xs : List V} {F : List Addr} (h : RepL K H ds xs F) (s : Same H H') : RepL K H' ds xs F := RepL.pin (T := fun _ => True) (Pin.same s) ds xs F h fun _ _ => trivial

mutual
theorem Rep.alloc : ∀ (d : D) (v : V) (F : List Addr), Rep K H d v F → ∀ a ∈ F, ∃ o, H a = some o ∧ mutO o = true
  | .non, v, F, h, a, ha => by simp only [Rep] at h; rw [h.2] at ha; cases ha
  | .bl b, v, F, h, a, ha => by simp only [Rep] at h; rw [h.2] at ha; cases ha
  | .int i, v, F, h, a, ha => by simp only [Rep] at h; rw [h.2] at ha; cases ha
  | .str x, v, F, h, a, ha => by simp only [Rep] at h; rw [h.2] at ha; cases ha
  | .ty n, v, F, h, a, ha => by simp only [Rep] at h; rw [h.2] at ha; cases ha
  | .lst ds, v, F, h, a, ha => by
    simp only [Rep] at h
    obtain ⟨b, xs, G, rfl, hr, e, rfl⟩ := h
    rcases List.mem_cons.mp ha with rfl | ha
    · exact ⟨_, e, rfl⟩
    · exact RepL.alloc ds xs G hr a ha
  | .fz ds, v, F, h, a, ha => by
    simp only [Rep] at h
    obtain ⟨b, xs, rfl, e, hr⟩ := h
    exact RepL.alloc ds xs F hr a ha
  | .tup ds, v, F, h, a, ha => by
    simp only [Rep] at h
    obtain ⟨b, xs, rfl, e, hr⟩ := h
    exact RepL.alloc ds xs F hr a ha
  | .dct ks ds, v, F, h, a, ha => by
    simp only [Rep] at h
    obtain ⟨b, xs, G, rfl, e, hl, hr, rfl⟩ := h
    rcases List.mem_cons.mp ha with rfl | ha
    · exact ⟨_, e, rfl⟩
    · exact RepL.alloc ds xs G hr a ha
  | .lk ks ds, v, F, h, a, ha => by
    simp only [Rep] at h
    obtain ⟨b, o, xs, rfl, e, hl, hr⟩ := h
    exact RepL.alloc ds xs F hr a ha
theorem RepL.alloc : ∀ (ds : List D) (xs : List V) (F : List Addr), RepL K H ds xs F → ∀ a ∈ F, ∃ o, H a = some o ∧ mutO o = true
  | [], xs, F, h, a, ha => by simp only [RepL] at h; rw [h.2] at ha; cases ha
  | d :: ds, xs, F, h, a, ha => by
    simp only [RepL] at h
    obtain ⟨v, vs, F1, F2, rfl, rfl, h1, h2⟩ := h
    rcases List.mem_append.mp ha with ha | ha
    · exact Rep.alloc d v F1 h1 a ha
    · exact RepL.alloc ds vs F2 h2 a ha
end
theorem Rep.fresh {d : D} {v : V} {F : List Addr} (h : Rep K H d v F) {a : Addr} (ha : a ∈ F) : H a ≠ none := by
  obtain ⟨o, e, _⟩ := Rep.alloc d v F h a ha
  rw [e]
  exact fun z => nomatch z

mutual
theorem Rep.pure : ∀ (d : D) (v : V) (F : List Addr), Rep K H d v F → d.pure = true → F = []
  | .non, v, F, h, _ => by simp only [Rep] at h; exact h.2
  | .bl b, v, F, h, _ => by simp only [Rep] at h; exact h.2
  | .int i, v, F, h, _ => by simp only [Rep] at h; exact h.2
  | .str x, v, F, h, _ => by simp only [Rep] at h; exact h.2
  | .ty n, v, F, h, _ => by simp only [Rep] at h; exact h.2
  | .lst ds, v, F, h, p => by simp [D.pure] at p
  | .tup ds, v, F, h, p => by
    simp only [Rep] at h
    obtain ⟨b, xs, rfl, e, hr⟩ := h
    exact RepL.pure ds xs F hr (by simpa [D.pure] using p)
  | .fz ds, v, F, h, p => by
    simp only [Rep] at h
    obtain ⟨b, xs, rfl, e, hr⟩ := h
    exact RepL.pure ds xs F hr (by simpa [D.pure] using p)
  | .dct ks ds, v, F, h, p => by simp [D.pure] at p
  | .lk ks ds, v, F, h, p => by simp [D.pure] at p
theorem RepL.pure : ∀ (ds : List D) (xs : List V) (F : List Addr), RepL K H ds xs F → D.pureL ds = true → F = []
  | [], xs, F, h, _ => by simp only [RepL] at h; exact h.2
  | d :: ds, xs, F, h, p => by
    simp only [RepL] at h
    obtain ⟨v, vs, F1, F2, rfl, rfl, h1, h2⟩ := h
    simp only [D.pureL, Bool.and_eq_true] at p
    rw [Rep.pure d v F1 h1 p.1, RepL.pure ds vs F2 h2 p.2]
    rfl
end

theorem RepL.length : ∀ {ds : List D} {xs : List V} {F : List Addr}, RepL K H ds xs F → ds.length = xs.length
  | [], xs, F, h => by simp only [RepL] at h; simp [h.1]
  | d :: ds, xs, F, h => by
    simp only [RepL] at h
    obtain ⟨v, vs, F1, F2, rfl, rfl, h1, h2⟩ := h
    simp [RepL.length h2]
theorem RepL.get : ∀ {ds : List D} {xs : List V} {F : List Addr} {i : Nat} {d : D}, RepL K H ds xs F → ds[i]? = some d → ∃ v G, xs[i]? = some v ∧ Rep K H d v G ∧ G.Sublist F
  | [], xs, F, i, d, h, e => by simp at e
  | d0 :: ds, xs, F, 0, d, h, e => by
    simp only [RepL] at h
    obtain ⟨v, vs, F1, F2, rfl, rfl, h1, h2⟩ := h
    cases e
    exact ⟨v, F1, rfl, h1, List.sublist_append_left _ _⟩
  | d0 :: ds, xs, F, i + 1, d, h, e => by
    simp only [RepL] at h
    obtain ⟨v, vs, F1, F2, rfl, rfl, h1, h2⟩ := h
    obtain ⟨w, G, e1, r, s⟩ := RepL.get (i := i) h2 (by simpa using e)
    exact ⟨w, G, by simpa using e1, r, s.trans (List.sublist_append_right _ _)⟩
theorem RepL.app : ∀ {ds : List D} {xs : List V} {F : List Addr} {es : List D} {ys : List V} {G : List Addr}, RepL K H ds xs F → RepL K H es ys G → RepL K H (ds ++ es) (xs ++ ys) (F ++ G)
  | [], xs, F, es, ys, G, h, g => by
    simp only [RepL] at h
    rw [h.1, h.2]
    exact g
  | d :: ds, xs, F, es, ys, G, h, g => by
    simp only [RepL] at h
    obtain ⟨v, vs, F1, F2, rfl, rfl, h1, h2⟩ := h
    show RepL K H (d :: (ds ++ es)) _ _
    simp only [RepL]
    exact ⟨v, vs ++ ys, F1, F2 ++ G, rfl, by rw [List.append_assoc], h1, RepL.app h2 g⟩
theorem RepL.one {d : D} {v : V} {F : List Addr} (h : Rep K H d v F) : RepL K H [d] [v] F := by
  simp only [RepL]
  exact ⟨v, [], F, [], rfl, by simp, h, rfl, rfl⟩
/-- the two are alike but for what they hold together -/
theorem RepL.nil_iff {ds : List D} {xs : List V} : RepL K H ds xs [] ↔ ds.length = xs.length ∧ ∀ (i : Nat) (d : D) (v : V), ds[i]? = some d → xs[i]? = some v → Rep K H d v [] := by
  induction ds generalizing xs with
  | nil =>
    simp only [RepL]
    constructor
    · rintro ⟨rfl, _⟩
      exact ⟨rfl, fun i d v e => by simp at e⟩
    · rintro ⟨e, _⟩
      exact ⟨List.length_eq_zero_iff.mp e.symm, trivial⟩
  | cons d ds ih =>
    simp only [RepL]
    constructor
    · rintro ⟨v, vs, F1, F2, rfl, e, h1, h2⟩
      obtain ⟨rfl, rfl⟩ := List.append_eq_nil_iff.mp e.symm
      obtain ⟨hl, hg⟩ := ih.mp h2
      refine ⟨by simp [hl], fun i d' v' e1 e2 => ?_⟩
      cases i with
      | zero => cases e1; cases e2; exact h1
      | succ i => exact hg i d' v' (by simpa using e1) (by simpa using e2)
    · rintro ⟨hl, hg⟩
      cases xs with
      | nil => simp at hl
      | cons v vs =>
        refine ⟨v, vs, [], [], rfl, rfl, hg 0 d v rfl rfl, ih.mpr ⟨by simpa using hl, fun i d' v' e1 e2 => hg (i + 1) d' v' (by simpa using e1) (by simpa using e2)⟩⟩
theorem RepL.sql {ds : List D} {v : V} {F : List Addr} (h : Rep K H (.lst ds) v F) : ∃ a xs G, v = .ref a ∧ SqL K H a xs ∧ RepL K H ds xs G ∧ G.Sublist F := by
  simp only [Rep] at h
  obtain ⟨b, xs, G, rfl, hr, e, rfl⟩ := h
  exact ⟨b, xs, G, rfl, .inl (.inl e), hr, List.sublist_cons_self _ _⟩
theorem FzL.sq {a : Addr} {xs : List V} (h : FzL K H a xs) : SqL K H a xs := by
  rcases h with ⟨o, e⟩ | ⟨o, its, n, h1, h2, h3, h4, h5, h6, _⟩
  · exact .inl (.inr ⟨o, e⟩)
  · exact .inr ⟨o, its, n, h1, h2, h3, h4, h5, h6⟩
theorem Rep.lst_of {a : Addr} {xs : List V} {ds : List D} {G : List Addr} (e : H a = some (.lst xs)) (h : RepL K H ds xs G) : Rep K H (.lst ds) (.ref a) (a :: G) := by
  simp only [Rep]
  exact ⟨a, xs, G, rfl, h, e, rfl⟩
theorem Rep.tup_of {a : Addr} {xs : List V} {ds : List D} {G : List Addr} (e : H a = some (.tup xs)) (h : RepL K H ds xs G) : Rep K H (.tup ds) (.ref a) G := by
  simp only [Rep]
  exact ⟨a, xs, rfl, e, h⟩
theorem RepL.ints : ∀ (ns : List Int), RepL K H (ns.map D.int) (ns.map V.int) []
  | [] => by simp [RepL]
  | n :: ns => by
    simp only [List.map_cons, RepL]
    exact ⟨_, _, [], [], rfl, rfl, by simp [Rep], RepL.ints ns⟩
end
end U

namespace U
open PySem L2

/-- whose: own (o), lent (l), lent or own and not to be changed for a while (b), shared (s), shared for a while (h) -/
inductive Fl where
  | o | l | b | s | h
  deriving DecidableEq
def Fl.uq : Fl → Bool
  | .s => false
  | .h => false
  | _ => true
/-- may be changed -/
def Fl.mu : Fl → Bool
  | .o => true
  | .l => true
  | _ => false
/-- stays as it is -/
def Fl.kp : Fl → Bool
  | .b => true
  | .h => true
  | _ => false
theorem mu_kp {fl : Fl} (h : fl.mu = true) (k : fl.kp = true) : False := by cases fl <;> cases h <;> cases k
/-- may be bound anew -/
def Fl.re : Fl → Bool
  | .o => true
  | .s => true
  | _ => false

abbrev Env := List (Option (Fl × D))
def look (ρ : Env) (i : Nat) : Option (Fl × D) := (ρ[i]?).join
theorem look_some {ρ : Env} {i : Nat} {e : Fl × D} (h : look ρ i = some e) : ρ[i]? = some (some e) := by
  unfold look at h
  cases q : ρ[i]? with
  | none => rw [q] at h; cases h
  | some x => rw [q] at h; cases x with
    | none => cases h
    | some y => simp at h; rw [h]
theorem look_lt {ρ : Env} {i : Nat} {e : Fl × D} (h : look ρ i = some e) : i < ρ.length := (List.getElem?_eq_some_iff.mp (look_some h)).1
theorem look_set_self {ρ : Env} {i : Nat} {e : Option (Fl × D)} (h : i < ρ.length) : look (ρ.set i e) i = e := by
  unfold look
  rw [List.getElem?_set_self h]
  rfl
theorem look_set_ne {ρ : Env} {i j : Nat} {e : Option (Fl × D)} (h : j ≠ i) : look (ρ.set i e) j = look ρ j := by
  unfold look
  rw [List.getElem?_set_ne (Ne.symm h)]

abbrev Fp := Nat → List Addr
/-- the slots bear the data of ρ; T: what others hold -/
structure Rel (K : PySem.W.Frag) (T : Addr → Prop) (ρ : Env) (σ : L2.St) (H : Hp) (fp : Fp) : Prop where
  len : σ.length = ρ.length
  rep : ∀ i fl d, look ρ i = some (fl, d) → ∃ v, σ[i]? = some (some v) ∧ Rep K H d v (fp i)
  nil : ∀ i, look ρ i = none → fp i = []
  nod : ∀ i fl d, look ρ i = some (fl, d) → fl.uq = true → (fp i).Nodup ∧ (∀ a ∈ fp i, ¬ T a) ∧ ∀ j, j ≠ i → ∀ a ∈ fp i, a ∉ fp j
  tal : ∀ a, T a → H a ≠ none

/-- what is lent stays where it is, what is not to be changed is not changed -/
def Fix (ρ : Env) (σ : L2.St) (fp : Fp) (ρ' : Env) (σ' : L2.St) (fp' : Fp) : Prop :=
  ∀ i fl d, look ρ i = some (fl, d) → (fl = .l → (∃ d', look ρ' i = some (.l, d')) ∧ σ'[i]? = σ[i]?) ∧ (fl.kp = true → look ρ' i = some (fl, d) ∧ fp' i = fp i ∧ σ'[i]? = σ[i]?)
theorem Fix.refl (ρ : Env) (σ : L2.St) (fp : Fp) : Fix ρ σ fp ρ σ fp := fun i fl d h => ⟨fun e => ⟨⟨d, by rw [h, e]⟩, rfl⟩, fun e => ⟨h, rfl, rfl⟩⟩
theorem Fix.trans {ρ ρ1 ρ2 : Env} {σ σ1 σ2 : L2.St} {fp fp1 fp2 : Fp} (a : Fix ρ σ fp ρ1 σ1 fp1) (b : Fix ρ1 σ1 fp1 ρ2 σ2 fp2) : Fix ρ σ fp ρ2 σ2 fp2 := fun i fl d h => by
  constructor
  · intro e
    obtain ⟨⟨d', h1⟩, s1⟩ := (a i fl d h).1 e
    obtain ⟨⟨d2, h2⟩, s2⟩ := (b i _ _ h1).1 rfl
    exact ⟨⟨d2, h2⟩, s2.trans s1⟩
  · intro e
    obtain ⟨h1, f1, s1⟩ := (a i fl d h).2 e
    obtain ⟨h2, f2, s2⟩ := (b i _ _ h1).2 e
    exact ⟨h2, f2.trans f1, s2.trans s1⟩
/-- no slot gains what others hold -/
def Nog (T : Addr → Prop) (fp fp' : Fp) : Prop := ∀ j a, a ∈ fp' j → T a → a ∈ fp j
theorem Nog.refl (T : Addr → Prop) (fp : Fp) : Nog T fp fp := fun _ _ h _ => h
theorem Nog.trans {T : Addr → Prop} {fp fp1 fp2 : Fp} (a : Nog T fp fp1) (b : Nog T fp1 fp2) : Nog T fp fp2 := fun j x h t => a j x (b j x h t) t
theorem Nog.mono {T T' : Addr → Prop} {fp fp' : Fp} (a : Nog T fp fp') (h : ∀ x, T' x → T x) : Nog T' fp fp' := fun j x e t => a j x e (h x t)

section
variable {K : PySem.W.Frag} {T T' : Addr → Prop} {ρ ρ' : Env} {σ : L2.St} {H H' : Hp} {fp : Fp}
theorem Rel.mono (R : Rel K T ρ σ H fp) (h : ∀ a, T' a → T a) : Rel K T' ρ σ H fp :=
  ⟨R.len, R.rep, R.nil, fun i fl d e u => let ⟨a, b, c⟩ := R.nod i fl d e u; ⟨a, fun x hx t => b x hx (h x t), c⟩, fun a t => R.tal a (h a t)⟩
theorem Same.al (s : Same H H') {a : Addr} (h : H a ≠ none) : H' a ≠ none := by
  cases q : H a with
  | none => exact absurd q h
  | some o => rw [s a o q]; exact fun z => nomatch z
theorem Rel.same (R : Rel K T ρ σ H fp) (s : Same H H') : Rel K T ρ σ H' fp :=
  ⟨R.len, fun i fl d e => let ⟨v, a, b⟩ := R.rep i fl d e; ⟨v, a, b.same s⟩, R.nil, R.nod, fun a t => Same.al s (R.tal a t)⟩
theorem Rel.fresh (R : Rel K T ρ σ H fp) {a : Addr} (h : H a = none) (i : Nat) : a ∉ fp i := fun ha => by
  cases q : look ρ i with
  | none => rw [R.nil i q] at ha; cases ha
  | some e =>
    obtain ⟨v, _, r⟩ := R.rep i e.1 e.2 q
    exact r.fresh ha h
theorem Rel.pinF (R : Rel K T ρ σ H fp) {F : List Addr} (hF : ∀ a ∈ F, H a ≠ none) (h : ∀ a ∈ F, ∀ i fl d, look ρ i = some (fl, d) → fl.uq = true → a ∉ fp i) : Rel K (addF T F) ρ σ H fp :=
  ⟨R.len, R.rep, R.nil, fun i fl d e u => let ⟨a, b, c⟩ := R.nod i fl d e u; ⟨a, fun x hx t => t.elim (b x hx) fun z => h x z i fl d e u hx, c⟩, fun a t => t.elim (R.tal a) (hF a)⟩
theorem Rel.addNil (R : Rel K T ρ σ H fp) : Rel K (addF T []) ρ σ H fp := R.pinF (fun _ h => nomatch h) fun _ h => nomatch h
theorem Rel.subF {F : List Addr} (R : Rel K (addF T F) ρ σ H fp) : Rel K T ρ σ H fp := R.mono fun _ t => .inl t
theorem Rel.at_ {i : Nat} {fl : Fl} {d : D} {v : V} (R : Rel K T ρ σ H fp) (h : look ρ i = some (fl, d)) (e : σ[i]? = some (some v)) : Rep K H d v (fp i) := by
  obtain ⟨w, a, b⟩ := R.rep i fl d h
  rw [e] at a
  cases a
  exact b
end

/-- an operand: a slot, or a value (u: wholly one's own) -/
inductive Opd where
  | sl (i : Nat)
  | tm (u : Bool) (d : D)
def opD (ρ : Env) : Opd → Option D
  | .sl i => (look ρ i).map (·.2)
  | .tm _ d => some d
abbrev M := Env → Option (Opd × Env)
abbrev MA := Env → Option (List Opd × Env)
abbrev MT := Env → Option (Bool × Env)

def OR (K : PySem.W.Frag) (T : Addr → Prop) (σ : L2.St) (H : Hp) (fp : Fp) : Opd → V → List Addr → Prop
  | .sl i, v, F => σ[i]? = some (some v) ∧ F = []
  | .tm u d, v, F => Rep K H d v F ∧ (u = true → F.Nodup ∧ (∀ a ∈ F, ¬ T a) ∧ ∀ j, ∀ a ∈ F, a ∉ fp j)
def ORs (K : PySem.W.Frag) (σ : L2.St) (H : Hp) (fp : Fp) : (Addr → Prop) → List Opd → List V → List Addr → Prop
  | _, [], vs, G => vs = [] ∧ G = []
  | T, o :: os, vs, G => ∃ v ws F G', vs = v :: ws ∧ G = F ++ G' ∧ OR K T σ H fp o v F ∧ ORs K σ H fp (addF T F) os ws G'

/-- an expression's reading -/
def SO (K : PySem.W.Frag) (t : TE) (m : M) : Prop :=
  ∀ ρ o ρ', m ρ = some (o, ρ') → ∀ T σ H fp, Rel K T ρ σ H fp → ∀ Q : VK,
    (∀ v H' fp' F, Rel K (addF T F) ρ' σ H' fp' → Pin T H H' → Nog T fp fp' → Fix ρ σ fp ρ' σ fp' → OR K T σ H' fp' o v F → Q v H') → t σ H Q
/-- an argument list's -/
def SA (K : PySem.W.Frag) (t : TA) (m : MA) : Prop :=
  ∀ ρ os ρ', m ρ = some (os, ρ') → ∀ T σ H fp, Rel K T ρ σ H fp → ∀ Q : List V → Hp → Prop,
    (∀ vs H' fp' G, Rel K (addF T G) ρ' σ H' fp' → Pin T H H' → Nog T fp fp' → Fix ρ σ fp ρ' σ fp' → ORs K σ H' fp' T os vs G → Q vs H') → t σ H Q
/-- a test's -/
def ST (K : PySem.W.Frag) (t : TT) (m : MT) : Prop :=
  ∀ ρ b ρ', m ρ = some (b, ρ') → ∀ T σ H fp, Rel K T ρ σ H fp → ∀ Q : Bool → Hp → Prop,
    (∀ H' fp', Rel K T ρ' σ H' fp' → Pin T H H' → Nog T fp fp' → Fix ρ σ fp ρ' σ fp' → Q b H') → t σ H Q

/-- an operand at a later state -/
theorem OR.later {K : PySem.W.Frag} {T : Addr → Prop} {σ : L2.St} {H H' : Hp} {fp fp' : Fp} {o : Opd} {v : V} {F : List Addr} (h : OR K T σ H fp o v F) (p : Pin (addF T F) H H') (n : Nog (addF T F) fp fp') : OR K T σ H' fp' o v F := by
  cases o with
  | sl i => exact h
  | tm u d =>
    obtain ⟨r, q⟩ := h
    refine ⟨Rep.pin p d v F r fun a ha => .inr ha, fun e => ?_⟩
    obtain ⟨q1, q2, q3⟩ := q e
    exact ⟨q1, q2, fun j a ha hj => q3 j a ha (n j a hj (.inr ha))⟩
theorem OR.mono {K : PySem.W.Frag} {T T' : Addr → Prop} {σ : L2.St} {H : Hp} {fp : Fp} {o : Opd} {v : V} {F : List Addr} (h : OR K T σ H fp o v F) (e : ∀ a, T' a → T a) : OR K T' σ H fp o v F := by
  cases o with
  | sl i => exact h
  | tm u d => exact ⟨h.1, fun z => let ⟨a, b, c⟩ := h.2 z; ⟨a, fun x hx t => b x hx (e x t), c⟩⟩

theorem addF_nil {T : Addr → Prop} {a : Addr} (h : addF T [] a) : T a := h.elim id fun z => nomatch z
theorem addF_app {T : Addr → Prop} {F G : List Addr} {a : Addr} : addF (addF T F) G a ↔ addF T (F ++ G) a := by
  unfold addF
  simp only [List.mem_append, or_assoc]

/-- what an operand stands for, at the state where it is used -/
theorem OR.rep {K : PySem.W.Frag} {T T' : Addr → Prop} {ρ : Env} {σ : L2.St} {H : Hp} {fp : Fp} {o : Opd} {v : V} {F : List Addr} {d : D} (h : OR K T σ H fp o v F) (R : Rel K T' ρ σ H fp) (e : opD ρ o = some d) : ∃ G, Rep K H d v G := by
  cases o with
  | sl i =>
    simp only [opD] at e
    cases q : look ρ i with
    | none => rw [q] at e; cases e
    | some x =>
      rw [q] at e
      cases e
      exact ⟨_, R.at_ q h.1⟩
  | tm u d' =>
    cases e
    exact ⟨F, h.1⟩

/-- two operands, one behind the other -/
theorem so2 {K : PySem.W.Frag} {ta tb : TE} {ma mb : M} (ha : SO K ta ma) (hb : SO K tb mb) {ρ ρ1 ρ2 : Env} {o1 o2 : Opd} (e1 : ma ρ = some (o1, ρ1)) (e2 : mb ρ1 = some (o2, ρ2)) {T : Addr → Prop} {σ : L2.St} {H : Hp} {fp : Fp} (R : Rel K T ρ σ H fp) {Q : V → V → Hp → Prop}
    (h : ∀ v w H' fp' F G, Rel K (addF T (F ++ G)) ρ2 σ H' fp' → Pin T H H' → Nog T fp fp' → Fix ρ σ fp ρ2 σ fp' → OR K T σ H' fp' o1 v F → OR K (addF T F) σ H' fp' o2 w G → Q v w H') : ta σ H fun x H1 => tb σ H1 fun y H2 => Q x y H2 := by
  refine ha ρ o1 ρ1 e1 T σ H fp R _ fun v H1 fp1 F R1 p1 n1 f1 r1 => ?_
  refine hb ρ1 o2 ρ2 e2 _ σ H1 fp1 R1 _ fun w H2 fp2 G R2 p2 n2 f2 r2 => ?_
  exact h v w H2 fp2 F G (R2.mono fun a t => addF_app.mpr t) (p1.trans (p2.mono fun a t => .inl t)) (n1.trans (n2.mono fun a t => .inl t)) (f1.trans f2) (r1.later p2 n2) r2

/-- a new thing of one's own, all else as it was -/
structure New (H H' : Hp) (F : List Addr) : Prop where
  same : Same H H'
  nod : F.Nodup
  new : ∀ a ∈ F, H a = none
theorem New.nil (H : Hp) : New H H [] := ⟨Same.refl H, List.nodup_nil, fun _ h => nomatch h⟩
theorem same_upd {H : Hp} {p : Addr} {o : HO} (h : H p = none) : Same H (upd H p o) := fun b x e => by
  rw [upd_ne (ne_of_none e h)]
  exact e
theorem New.one {H : Hp} {p : Addr} {o : HO} (h : H p = none) : New H (upd H p o) [p] := ⟨same_upd h, by simp, fun a ha => by
  rw [List.mem_singleton.mp ha]
  exact h⟩
theorem New.one0 {H : Hp} {p : Addr} {o : HO} (h : H p = none) : New H (upd H p o) [] := ⟨same_upd h, List.nodup_nil, fun _ h => nomatch h⟩
/-- the end of an operation that makes something new -/
theorem Rel.new {K : PySem.W.Frag} {T : Addr → Prop} {ρ : Env} {σ : L2.St} {H H' : Hp} {fp : Fp} {F : List Addr} {d : D} {v : V} (R : Rel K T ρ σ H fp) (n : New H H' F) (r : Rep K H' d v F) : Rel K (addF T F) ρ σ H' fp ∧ OR K T σ H' fp (.tm true d) v F :=
  ⟨(R.same n.same).pinF (fun a ha => r.fresh ha) fun a ha i fl d e u hi => R.fresh (n.new a ha) i hi,
    r, fun _ => ⟨n.nod, fun a ha t => R.tal a t (n.new a ha), fun j a ha hj => R.fresh (n.new a ha) j hj⟩⟩

/-! ### names, constants -/
def mName (i : Nat) : M := fun ρ => match look ρ i with
  | some _ => some (.sl i, ρ)
  | none => none
theorem so_name {K : PySem.W.Frag} {i : Nat} : SO K (tVar i) (mName i) := by
  intro ρ o ρ' e T σ H fp R Q h
  unfold mName at e
  cases q : look ρ i with
  | none => rw [q] at e; cases e
  | some x =>
    rw [q] at e
    cases e
    obtain ⟨v, hv, r⟩ := R.rep i x.1 x.2 q
    exact ⟨v, hv, h v H fp [] R.addNil (Pin.refl _ _) (Nog.refl _ _) (Fix.refl _ _ _) ⟨hv, rfl⟩⟩
def mC (d : D) : M := fun ρ => some (.tm true d, ρ)
theorem so_c {K : PySem.W.Frag} {d : D} {v : V} (hr : ∀ H, Rep K H d v []) : SO K (tC v) (mC d) := by
  intro ρ o ρ' e T σ H fp R Q h
  cases e
  obtain ⟨R', r⟩ := R.new (New.nil H) (hr H)
  exact h v H fp [] R' (Pin.refl _ _) (Nog.refl _ _) (Fix.refl _ _ _) r
theorem so_int {K : PySem.W.Frag} {i : Int} : SO K (tC (.int i)) (mC (.int i)) := so_c fun H => by simp [Rep]
theorem so_bl {K : PySem.W.Frag} {b : Bool} : SO K (tC (.bl b)) (mC (.bl b)) := so_c fun H => by simp [Rep]
theorem so_non {K : PySem.W.Frag} : SO K (tC .non) (mC .non) := so_c fun H => by simp [Rep]
theorem so_str {K : PySem.W.Frag} {x : Str} : SO K (tC (.str x)) (mC (.str x)) := so_c fun H => by simp [Rep]
theorem so_ty {K : PySem.W.Frag} {n : String} : SO K (tC (.ty n)) (mC (.ty n)) := so_c fun H => by simp [Rep]

/-! ### operations that read and make something new -/
/-- an operation by values, and what it makes of data -/
def ROp (K : PySem.W.Frag) (r : R2) (f : D → D → Option D) : Prop := ∀ d1 d2 d, f d1 d2 = some d → ∀ H v w F G, Rep K H d1 v F → Rep K H d2 w G → ∀ Q : VK, (∀ x H' N, New H H' N → Rep K H' d x N → Q x H') → r v w H Q
def mOp (f : D → D → Option D) (ma mb : M) : M := fun ρ => do
  let (o1, ρ1) ← ma ρ
  let (o2, ρ2) ← mb ρ1
  let d1 ← opD ρ2 o1
  let d2 ← opD ρ2 o2
  let d ← f d1 d2
  some (.tm true d, ρ2)
theorem so_op {K : PySem.W.Frag} {r : R2} {f : D → D → Option D} {ta tb : TE} {ma mb : M} (hr : ROp K r f) (ha : SO K ta ma) (hb : SO K tb mb) : SO K (tOp r ta tb) (mOp f ma mb) := by
  intro ρ o ρ' e T σ H fp R Q h
  simp only [mOp, Option.bind_eq_bind, Option.bind_eq_some_iff] at e
  obtain ⟨⟨o1, ρ1⟩, e1, ⟨o2, ρ2⟩, e2, d1, k1, d2, k2, d, k, e⟩ := e
  cases e
  refine so2 ha hb e1 e2 R fun v w H' fp' F G R' p n fx r1 r2 => ?_
  obtain ⟨F1, q1⟩ := r1.rep R' k1
  obtain ⟨G1, q2⟩ := r2.rep R' k2
  refine hr d1 d2 d k H' v w F1 G1 q1 q2 Q fun x H2 N nw q => ?_
  obtain ⟨R2, r⟩ := R'.subF.new nw q
  exact h x H2 fp' N R2 (p.trans (Pin.same nw.same)) n fx r
def RUn (K : PySem.W.Frag) (r : V → Hp → VK → Prop) (f : D → Option D) : Prop := ∀ d1 d, f d1 = some d → ∀ H v F, Rep K H d1 v F → ∀ Q : VK, (∀ x H' N, New H H' N → Rep K H' d x N → Q x H') → r v H Q
def mUn (f : D → Option D) (ma : M) : M := fun ρ => do
  let (o1, ρ1) ← ma ρ
  let d1 ← opD ρ1 o1
  let d ← f d1
  some (.tm true d, ρ1)
theorem so_unary {K : PySem.W.Frag} {r : V → Hp → VK → Prop} {f : D → Option D} {ta : TE} {ma : M} (hr : RUn K r f) (ha : SO K ta ma) : SO K (fun σ H Q => ta σ H fun x H1 => r x H1 Q) (mUn f ma) := by
  intro ρ o ρ' e T σ H fp R Q h
  simp only [mUn, Option.bind_eq_bind, Option.bind_eq_some_iff] at e
  obtain ⟨⟨o1, ρ1⟩, e1, d1, k1, d, k, e⟩ := e
  cases e
  refine ha ρ o1 ρ1 e1 T σ H fp R _ fun v H' fp' F R' p n fx r1 => ?_
  obtain ⟨F1, q1⟩ := r1.rep R' k1
  refine hr d1 d k H' v F1 q1 Q fun x H2 N nw q => ?_
  obtain ⟨R2, r⟩ := R'.subF.new nw q
  exact h x H2 fp' N R2 (p.trans (Pin.same nw.same)) n fx r

/-! ### argument lists -/
def mNil : MA := fun ρ => some ([], ρ)
def mCons (m : M) (ms : MA) : MA := fun ρ => do
  let (o, ρ1) ← m ρ
  let (os, ρ2) ← ms ρ1
  some (o :: os, ρ2)
theorem sa_nil {K : PySem.W.Frag} : SA K tNil mNil := by
  intro ρ os ρ' e T σ H fp R Q h
  cases e
  exact h [] H fp [] R.addNil (Pin.refl _ _) (Nog.refl _ _) (Fix.refl _ _ _) ⟨rfl, rfl⟩
theorem sa_cons {K : PySem.W.Frag} {t : TE} {ts : TA} {m : M} {ms : MA} (h1 : SO K t m) (h2 : SA K ts ms) : SA K (tCons t ts) (mCons m ms) := by
  intro ρ os ρ' e T σ H fp R Q h
  simp only [mCons, Option.bind_eq_bind, Option.bind_eq_some_iff] at e
  obtain ⟨⟨o1, ρ1⟩, e1, ⟨os1, ρ2⟩, e2, e⟩ := e
  cases e
  refine h1 ρ o1 ρ1 e1 T σ H fp R _ fun v H1 fp1 F R1 p1 n1 f1 r1 => ?_
  refine h2 ρ1 os1 _ e2 _ σ H1 fp1 R1 _ fun vs H2 fp2 G R2 p2 n2 f2 r2 => ?_
  exact h (v :: vs) H2 fp2 (F ++ G) (R2.mono fun a t => addF_app.mpr t) (p1.trans (p2.mono fun a t => .inl t)) (n1.trans (n2.mono fun a t => .inl t)) (f1.trans f2) ⟨v, vs, F, G, rfl, rfl, r1.later p2 n2, r2⟩
def opDs (ρ : Env) : List Opd → Option (List D)
  | [] => some []
  | o :: os => do
    let d ← opD ρ o
    let ds ← opDs ρ os
    some (d :: ds)
/-- what arguments stand for -/
def Reps (K : PySem.W.Frag) (H : Hp) : List D → List V → Prop
  | [], vs => vs = []
  | d :: ds, vs => ∃ v ws F, vs = v :: ws ∧ Rep K H d v F ∧ Reps K H ds ws
theorem ORs.reps {K : PySem.W.Frag} {T' : Addr → Prop} {ρ : Env} {σ : L2.St} {H : Hp} {fp : Fp} (R : Rel K T' ρ σ H fp) : ∀ {os : List Opd} {T : Addr → Prop} {vs : List V} {G : List Addr} {ds : List D}, ORs K σ H fp T os vs G → opDs ρ os = some ds → Reps K H ds vs
  | [], T, vs, G, ds, h, e => by
    cases e
    exact h.1
  | o :: os, T, vs, G, ds, h, e => by
    simp only [opDs, Option.bind_eq_bind, Option.bind_eq_some_iff] at e
    obtain ⟨d, e1, ds', e2, e⟩ := e
    cases e
    obtain ⟨v, ws, F, G', rfl, rfl, r, rs⟩ := h
    obtain ⟨F', q⟩ := r.rep R e1
    exact ⟨v, ws, F', rfl, q, ORs.reps R rs e2⟩
def RCall (K : PySem.W.Frag) (r : List V → Hp → VK → Prop) (f : List D → Option D) : Prop := ∀ ds d, f ds = some d → ∀ H vs, Reps K H ds vs → ∀ Q : VK, (∀ x H' N, New H H' N → Rep K H' d x N → Q x H') → r vs H Q
def mCB (f : List D → Option D) (ms : MA) : M := fun ρ => do
  let (os, ρ1) ← ms ρ
  let ds ← opDs ρ1 os
  let d ← f ds
  some (.tm true d, ρ1)
theorem so_cb {K : PySem.W.Frag} {r : List V → Hp → VK → Prop} {f : List D → Option D} {ts : TA} {ms : MA} (hr : RCall K r f) (ha : SA K ts ms) : SO K (tCB r ts) (mCB f ms) := by
  intro ρ o ρ' e T σ H fp R Q h
  simp only [mCB, Option.bind_eq_bind, Option.bind_eq_some_iff] at e
  obtain ⟨⟨os, ρ1⟩, e1, ds, k1, d, k, e⟩ := e
  cases e
  refine ha ρ os ρ1 e1 T σ H fp R _ fun vs H' fp' F R' p n fx r1 => ?_
  refine hr ds d k H' vs (ORs.reps R' r1 k1) Q fun x H2 N nw q => ?_
  obtain ⟨R2, r⟩ := R'.subF.new nw q
  exact h x H2 fp' N R2 (p.trans (Pin.same nw.same)) n fx r
end U

namespace U
open PySem L2

theorem uq_nil {T : Addr → Prop} {fp : Fp} : ([] : List Addr).Nodup ∧ (∀ a ∈ ([] : List Addr), ¬ T a) ∧ ∀ j, ∀ a ∈ ([] : List Addr), a ∉ fp j := ⟨List.nodup_nil, (fun _ h => nomatch h), (fun _ _ h => nomatch h)⟩
def fpSet (fp : Fp) (i : Nat) (F : List Addr) : Fp := fun j => if j = i then F else fp j
theorem fpSet_self {fp : Fp} {i : Nat} {F : List Addr} : fpSet fp i F i = F := if_pos rfl
theorem fpSet_ne {fp : Fp} {i j : Nat} {F : List Addr} (h : j ≠ i) : fpSet fp i F j = fp j := if_neg h

section
variable {K : PySem.W.Frag} {T : Addr → Prop} {ρ : Env} {σ : L2.St} {H H' : Hp} {fp : Fp}
theorem Rel.not_uq {i j : Nat} {fl fl' : Fl} {d d' : D} {a : Addr} (R : Rel K T ρ σ H fp) (h : look ρ i = some (fl, d)) (h' : look ρ j = some (fl', d')) (u : fl'.uq = true) (ne : j ≠ i) (ha : a ∈ fp i) : a ∉ fp j :=
  fun hj => (R.nod j fl' d' h' u).2.2 i (Ne.symm ne) a hj ha
/-- a slot's own thing is taken out of it -/
theorem Rel.drop {i : Nat} {fl : Fl} {d : D} (R : Rel K T ρ σ H fp) (h : look ρ i = some (fl, d)) : Rel K T (ρ.set i none) σ H (fpSet fp i []) := by
  have hi := look_lt h
  refine ⟨by rw [List.length_set]; exact R.len, fun j fl' d' e => ?_, fun j e => ?_, fun j fl' d' e u => ?_, R.tal⟩
  · by_cases hj : j = i
    · subst hj; rw [look_set_self hi] at e; cases e
    · rw [look_set_ne hj] at e; rw [fpSet_ne hj]; exact R.rep j fl' d' e
  · by_cases hj : j = i
    · subst hj; exact fpSet_self
    · rw [look_set_ne hj] at e; rw [fpSet_ne hj]; exact R.nil j e
  · by_cases hj : j = i
    · subst hj; rw [look_set_self hi] at e; cases e
    · rw [look_set_ne hj] at e; rw [fpSet_ne hj]
      obtain ⟨a, b, c⟩ := R.nod j fl' d' e u
      refine ⟨a, b, fun k hk x hx => ?_⟩
      by_cases hki : k = i
      · subst hki; rw [fpSet_self]; exact fun z => nomatch z
      · rw [fpSet_ne hki]; exact c k hk x hx
/-- .. is shared from now on -/
theorem Rel.share {i : Nat} {fl : Fl} {d : D} (R : Rel K T ρ σ H fp) (h : look ρ i = some (fl, d)) : Rel K T (ρ.set i (some (.s, d))) σ H fp := by
  have hi := look_lt h
  refine ⟨by rw [List.length_set]; exact R.len, fun j fl' d' e => ?_, fun j e => ?_, fun j fl' d' e u => ?_, R.tal⟩
  · by_cases hj : j = i
    · subst hj; rw [look_set_self hi] at e; cases e; exact R.rep j _ _ h
    · rw [look_set_ne hj] at e; exact R.rep j fl' d' e
  · by_cases hj : j = i
    · subst hj; rw [look_set_self hi] at e; cases e
    · rw [look_set_ne hj] at e; exact R.nil j e
  · by_cases hj : j = i
    · subst hj; rw [look_set_self hi] at e; cases e; cases u
    · rw [look_set_ne hj] at e; exact R.nod j fl' d' e u
/-- a slot that is neither lent nor held may be set -/
theorem fix_set {i : Nat} {e : Option (Fl × D)} {fp' : Fp} {σ' : L2.St} (h : ∀ fl d, look ρ i = some (fl, d) → fl.re = true) (hf : ∀ j, j ≠ i → fp' j = fp j) (hs : ∀ j : Nat, j ≠ i → σ'[j]? = σ[j]?) : Fix ρ σ fp (ρ.set i e) σ' fp' := fun j fl d q => by
  have ne : (fl = .l ∨ fl.kp = true) → j ≠ i := fun z hj => by
    subst hj
    have := h fl d q
    rcases z with rfl | z
    · cases this
    · revert this z; cases fl <;> simp [Fl.re, Fl.kp]
  exact ⟨fun z => by
    have hj := ne (.inl z)
    subst z
    exact ⟨⟨d, by rw [look_set_ne hj]; exact q⟩, hs j hj⟩, fun z => by
    have hj := ne (.inr z)
    exact ⟨by rw [look_set_ne hj]; exact q, hf j hj, hs j hj⟩⟩
end

/-! ### an operand as a value -/
def mVal (mv : Bool) (m : M) : M := fun ρ => do
  let (o, ρ1) ← m ρ
  match o with
  | .tm u d => some (.tm (u || d.pure) d, ρ1)
  | .sl i => match look ρ1 i with
    | none => none
    | some (fl, d) => if d.pure then some (.tm true d, ρ1) else match fl with
      | .s => some (.tm false d, ρ1)
      | .h => some (.tm false d, ρ1)
      | .o => if mv then some (.tm true d, ρ1.set i none) else some (.tm false d, ρ1.set i (some (.s, d)))
      | _ => none
theorem so_val {K : PySem.W.Frag} {t : TE} {m : M} (mv : Bool) (hm : SO K t m) : SO K t (mVal mv m) := by
  intro ρ o ρ' e T σ H fp R Q h
  simp only [mVal, Option.bind_eq_bind, Option.bind_eq_some_iff] at e
  obtain ⟨⟨o1, ρ1⟩, e1, e⟩ := e
  refine hm ρ o1 ρ1 e1 T σ H fp R _ fun v H1 fp1 F R1 p1 n1 f1 r1 => ?_
  cases o1 with
  | tm u d =>
    cases e
    refine h v H1 fp1 F R1 p1 n1 f1 ⟨r1.1, fun z => ?_⟩
    cases u with
    | true => exact r1.2 rfl
    | false =>
      have hF := Rep.pure d v F r1.1 (by simpa using z)
      subst hF
      exact uq_nil
  | sl i =>
    obtain ⟨hv, rfl⟩ := r1
    cases q : look ρ1 i with
    | none => simp only [q] at e; cases e
    | some x =>
      obtain ⟨fl, d⟩ := x
      simp only [q] at e
      have rp := R1.at_ q hv
      have R1' := R1.subF
      by_cases hp : d.pure = true
      · rw [if_pos hp] at e
        cases e
        have hF := Rep.pure d v _ rp hp
        rw [hF] at rp
        exact h v H1 fp1 [] R1 p1 n1 f1 ⟨rp, fun _ => uq_nil⟩
      · rw [if_neg hp] at e
        cases fl with
        | s =>
          cases e
          refine h v H1 fp1 (fp1 i) (R1'.pinF (fun a ha => rp.fresh ha) fun a ha j fl' d' e' u => ?_) p1 n1 f1 ⟨rp, fun z => nomatch z⟩
          by_cases hj : j = i
          · subst hj; rw [q] at e'; cases e'; cases u
          · exact R1'.not_uq q e' u hj ha
        | o =>
          obtain ⟨nd, nt, nj⟩ := R1'.nod i _ _ q rfl
          cases mv with
          | true =>
            cases e
            have R2 := R1'.drop q
            refine h v H1 (fpSet fp1 i []) (fp1 i) (R2.pinF (fun a ha => rp.fresh ha) fun a ha j fl' d' e' u => ?_) p1 (fun j a ha ta => ?_) (f1.trans (fix_set (fun fl d z => by rw [q] at z; cases z; rfl) (fun j hj => fpSet_ne hj) fun j _ => rfl)) ⟨rp, fun _ => ⟨nd, nt, fun j a ha hj => ?_⟩⟩
            · by_cases hj : j = i
              · subst hj; rw [fpSet_self]; exact fun z => nomatch z
              · rw [fpSet_ne hj]; exact nj j hj a ha
            · by_cases hj : j = i
              · subst hj; rw [fpSet_self] at ha; cases ha
              · rw [fpSet_ne hj] at ha; exact n1 j a ha ta
            · by_cases hji : j = i
              · subst hji; rw [fpSet_self] at hj; cases hj
              · rw [fpSet_ne hji] at hj; exact nj j hji a ha hj
          | false =>
            cases e
            have R2 := R1'.share q
            refine h v H1 fp1 (fp1 i) (R2.pinF (fun a ha => rp.fresh ha) fun a ha j fl' d' e' u => ?_) p1 n1 (f1.trans (fix_set (fun fl d z => by rw [q] at z; cases z; rfl) (fun j hj => rfl) fun j _ => rfl)) ⟨rp, fun z => nomatch z⟩
            by_cases hj : j = i
            · subst hj; rw [look_set_self (look_lt q)] at e'; cases e'; cases u
            · exact nj j hj a ha
        | l => cases e
        | b => cases e
        | h =>
          cases e
          refine h v H1 fp1 (fp1 i) (R1'.pinF (fun a ha => rp.fresh ha) fun a ha j fl' d' e' u => ?_) p1 n1 f1 ⟨rp, fun z => nomatch z⟩
          by_cases hj : j = i
          · subst hj; rw [q] at e'; cases e'; cases u
          · exact R1'.not_uq q e' u hj ha

/-! ### displays -/
def tms : List Opd → Option (Bool × List D)
  | [] => some (true, [])
  | .tm u d :: os => match tms os with
    | some (b, ds) => some (u && b, d :: ds)
    | none => none
  | .sl _ :: _ => none
theorem ORs.repl {K : PySem.W.Frag} {σ : L2.St} {H : Hp} {fp : Fp} : ∀ {os : List Opd} {T : Addr → Prop} {vs : List V} {G : List Addr} {u : Bool} {ds : List D}, ORs K σ H fp T os vs G → tms os = some (u, ds) →
    RepL K H ds vs G ∧ (u = true → G.Nodup ∧ (∀ a ∈ G, ¬ T a) ∧ ∀ j, ∀ a ∈ G, a ∉ fp j)
  | [], T, vs, G, u, ds, h, e => by
    cases e
    obtain ⟨rfl, rfl⟩ := h
    exact ⟨⟨rfl, rfl⟩, fun _ => uq_nil⟩
  | .sl i :: os, T, vs, G, u, ds, h, e => by cases e
  | .tm w d :: os, T, vs, G, u, ds, h, e => by
    simp only [tms] at e
    cases q : tms os with
    | none => rw [q] at e; cases e
    | some z =>
      obtain ⟨b, ds'⟩ := z
      rw [q] at e
      cases e
      obtain ⟨v, ws, F, G', rfl, rfl, r, rs⟩ := h
      obtain ⟨i1, i2⟩ := ORs.repl rs q
      refine ⟨?_, fun z => ?_⟩
      · simp only [RepL]
        exact ⟨v, ws, F, G', rfl, rfl, r.1, i1⟩
      · simp only [Bool.and_eq_true] at z
        obtain ⟨a1, a2, a3⟩ := r.2 z.1
        obtain ⟨b1, b2, b3⟩ := i2 z.2
        refine ⟨List.nodup_append.mpr ⟨a1, b1, fun x hx y hy e => b2 y hy (.inr (e ▸ hx))⟩, fun a ha => ?_, fun j a ha => ?_⟩
        · rcases List.mem_append.mp ha with ha | ha
          · exact a2 a ha
          · exact fun t => b2 a ha (.inl t)
        · rcases List.mem_append.mp ha with ha | ha
          · exact a3 j a ha
          · exact b3 j a ha
def mTup (ms : MA) : M := fun ρ => do
  let (os, ρ1) ← ms ρ
  let (u, ds) ← tms os
  if ds.length ≤ 1000 then some (.tm u (.tup ds), ρ1) else none
def mLst (ms : MA) : M := fun ρ => do
  let (os, ρ1) ← ms ρ
  let (u, ds) ← tms os
  if ds.length ≤ 1000 then some (.tm u (.lst ds), ρ1) else none
theorem size1000 {n : Nat} (h : n ≤ 1000) : n ≤ sizeLine := Nat.le_of_lt (small1000 h)
theorem Rel.fresh' {K : PySem.W.Frag} {T : Addr → Prop} {ρ : Env} {σ : L2.St} {H : Hp} {fp : Fp} {F : List Addr} {p : Addr} (R : Rel K (addF T F) ρ σ H fp) (hp : H p = none) : p ∉ F ∧ ¬ T p := ⟨fun h => R.tal p (.inr h) hp, fun h => R.tal p (.inl h) hp⟩
theorem so_tup {K : PySem.W.Frag} {ts : TA} {ms : MA} (ha : SA K ts ms) : SO K (tTup ts) (mTup ms) := by
  intro ρ o ρ' e T σ H fp R Q h
  simp only [mTup, Option.bind_eq_bind, Option.bind_eq_some_iff] at e
  obtain ⟨⟨os, ρ1⟩, e1, ⟨u, ds⟩, k, e⟩ := e
  dsimp only at e
  split at e
  · rename_i hl
    cases e
    refine ha ρ os _ e1 T σ H fp R _ fun vs H1 fp1 G R1 p1 n1 f1 r1 => ?_
    obtain ⟨rl, ru⟩ := ORs.repl r1 k
    refine ⟨by rw [← rl.length]; exact size1000 hl, fun p hp => ?_⟩
    have s := same_upd (o := .tup vs) hp
    refine h (.ref p) _ fp1 G (R1.same s) (p1.trans (Pin.same s)) n1 f1 ⟨Rep.tup_of upd_same (rl.same s), ru⟩
  · cases e
theorem so_lst {K : PySem.W.Frag} {ts : TA} {ms : MA} (ha : SA K ts ms) : SO K (tLst ts) (mLst ms) := by
  intro ρ o ρ' e T σ H fp R Q h
  simp only [mLst, Option.bind_eq_bind, Option.bind_eq_some_iff] at e
  obtain ⟨⟨os, ρ1⟩, e1, ⟨u, ds⟩, k, e⟩ := e
  dsimp only at e
  split at e
  · rename_i hl
    cases e
    refine ha ρ os _ e1 T σ H fp R _ fun vs H1 fp1 G R1 p1 n1 f1 r1 => ?_
    obtain ⟨rl, ru⟩ := ORs.repl r1 k
    refine ⟨by rw [← rl.length]; exact size1000 hl, fun p hp => ?_⟩
    have s := same_upd (o := .lst vs) hp
    obtain ⟨pG, pT⟩ := R1.fresh' hp
    refine h (.ref p) _ fp1 (p :: G) ?_ (p1.trans (Pin.same s)) n1 f1 ⟨Rep.lst_of upd_same (rl.same s), fun z => ?_⟩
    · refine ((R1.same s).pinF (F := [p]) (fun a ha => ?_) fun a ha i fl d e u => ?_).mono fun a t => ?_
      · rw [List.mem_singleton.mp ha, upd_same]; exact fun z => nomatch z
      · rw [List.mem_singleton.mp ha]; exact R1.fresh hp i
      · rcases t with t | t
        · exact .inl (.inl t)
        · rcases List.mem_cons.mp t with rfl | t
          · exact .inr (by simp)
          · exact .inl (.inr t)
    · obtain ⟨a1, a2, a3⟩ := ru z
      refine ⟨List.nodup_cons.mpr ⟨pG, a1⟩, fun a ha => ?_, fun j a ha => ?_⟩
      · rcases List.mem_cons.mp ha with rfl | ha
        · exact pT
        · exact a2 a ha
      · rcases List.mem_cons.mp ha with rfl | ha
        · exact R1.fresh hp j
        · exact a3 j a ha
  · cases e

/-! ### an item -/
def itemD (d : D) (i : Int) : Option D := match d with
  | .lst ds => atI ds i
  | .tup ds => atI ds i
  | .fz ds => atI ds i
  | .str z => if z.length ≤ sizeLine then (atI z.cps.toList i).map fun c => .str ⟨#[c]⟩ else none
  | _ => none
def mIx (ma mb : M) : M := fun ρ => do
  let (o1, ρ1) ← ma ρ
  let (o2, ρ2) ← mb ρ1
  let d1 ← opD ρ2 o1
  let d2 ← opD ρ2 o2
  match d2 with
  | .int i => match itemD d1 i with
    | none => none
    | some d => if d.pure then some (.tm true d, ρ2) else match o1 with
      | .tm u _ => some (.tm u d, ρ2)
      | .sl i => match look ρ2 i with
        | some (.s, _) => some (.tm false d, ρ2)
        | some (.h, _) => some (.tm false d, ρ2)
        | some (.o, d0) => some (.tm false d, ρ2.set i (some (.s, d0)))
        | _ => none
  | _ => none
theorem RepL.atI {K : PySem.W.Frag} {H : Hp} {ds : List D} {xs : List V} {F : List Addr} {i : Int} {d : D} (h : RepL K H ds xs F) (e : L2.atI ds i = some d) : ∃ v G, L2.atI xs i = some v ∧ Rep K H d v G ∧ G.Sublist F := by
  unfold L2.atI at e ⊢
  rw [← h.length]
  cases q : ixN ds.length i with
  | none => rw [q] at e; cases e
  | some j =>
    rw [q] at e
    exact RepL.get h e
theorem item_rep {K : PySem.W.Frag} {H : Hp} {d1 d : D} {v w : V} {F : List Addr} {i : Int} (h : Rep K H d1 v F) (e : itemD d1 i = some d) : ∃ x G, Rep K H d x G ∧ G.Sublist F ∧ ∀ Q : VK, Q x H → rIx K v (.int i) H Q := by
  cases d1 with
  | lst ds =>
    obtain ⟨a, xs, G, rfl, sq, rl, sb⟩ := RepL.sql h
    obtain ⟨x, G', e', r, s'⟩ := rl.atI e
    exact ⟨x, G', r, s'.trans sb, fun Q q => .inl ⟨a, xs, i, x, rfl, rfl, sq, e', q⟩⟩
  | tup ds =>
    simp only [Rep] at h
    obtain ⟨a, xs, rfl, sq, rl⟩ := h
    obtain ⟨x, G', e', r, s'⟩ := rl.atI e
    exact ⟨x, G', r, s', fun Q q => .inr (.inl ⟨a, xs, i, x, rfl, rfl, .inl (.inl sq), e', q⟩)⟩
  | fz ds =>
    simp only [Rep] at h
    obtain ⟨a, xs, rfl, sq, rl⟩ := h
    obtain ⟨x, G', e', r, s'⟩ := rl.atI e
    exact ⟨x, G', r, s', fun Q q => .inl ⟨a, xs, i, x, rfl, rfl, sq.sq, e', q⟩⟩
  | str z =>
    simp only [Rep] at h
    obtain ⟨rfl, rfl⟩ := h
    simp only [itemD] at e
    split at e
    · rename_i hz
      cases q : L2.atI z.cps.toList i with
      | none => rw [q] at e; cases e
      | some c =>
        rw [q] at e
        cases e
        exact ⟨.str ⟨#[c]⟩, [], by simp [Rep], List.Sublist.refl _, fun Q qq => .inr (.inr ⟨z, i, c, rfl, rfl, hz, q, qq⟩)⟩
    · cases e
  | non => cases e
  | bl b => cases e
  | int j => cases e
  | ty n => cases e
  | dct ks ds => cases e
  | lk ks ds => cases e
theorem so_ix {K : PySem.W.Frag} {ta tb : TE} {ma mb : M} (ha : SO K ta ma) (hb : SO K tb mb) : SO K (tOp (rIx K) ta tb) (mIx ma mb) := by
  intro ρ o ρ' e T σ H fp R Q h
  simp only [mIx, Option.bind_eq_bind, Option.bind_eq_some_iff] at e
  obtain ⟨⟨o1, ρ1⟩, e1, ⟨o2, ρ2⟩, e2, d1, k1, d2, k2, e⟩ := e
  refine so2 ha hb e1 e2 R fun v w H' fp' F G R' p n fx r1 r2 => ?_
  obtain ⟨G1, q2⟩ := r2.rep R' k2
  cases d2 with
  | int i =>
    simp only [Rep] at q2
    obtain ⟨rfl, _⟩ := q2
    dsimp only at e
    split at e
    · cases e
    · rename_i d hd
      by_cases hp : d.pure = true
      · rw [if_pos hp] at e
        cases e
        obtain ⟨F1, q1⟩ := r1.rep R' k1
        obtain ⟨x, Gx, rx, sx, hx⟩ := item_rep (w := .non) q1 hd
        have := Rep.pure d x Gx rx hp
        subst this
        exact hx Q (h x H' fp' [] R'.subF.addNil p n fx ⟨rx, fun _ => uq_nil⟩)
      · rw [if_neg hp] at e
        cases o1 with
        | tm u d' =>
          cases e
          simp only [opD] at k1
          cases k1
          obtain ⟨x, Gx, rx, sx, hx⟩ := item_rep (w := .non) r1.1 hd
          refine hx Q (h x H' fp' Gx (R'.mono fun a t => ?_) p n fx ⟨rx, fun z => ?_⟩)
          · rcases t with t | t
            · exact .inl t
            · exact .inr (List.mem_append_left _ (sx.subset t))
          · obtain ⟨a1, a2, a3⟩ := r1.2 z
            exact ⟨a1.sublist sx, fun a ha => a2 a (sx.subset ha), fun j a ha => a3 j a (sx.subset ha)⟩
        | sl i' =>
          dsimp only at e
          split at e
          · rename_i dd hl
            cases e
            simp only [opD, hl, Option.map_some] at k1
            cases k1
            have q1 := R'.at_ hl r1.1
            obtain ⟨x, Gx, rx, sx, hx⟩ := item_rep (w := .non) q1 hd
            refine hx Q (h x H' fp' Gx (R'.subF.pinF (fun a ha => rx.fresh ha) fun a ha j fl' d' e' u => ?_) p n fx ⟨rx, fun z => nomatch z⟩)
            by_cases hj : j = i'
            · subst hj; rw [hl] at e'; cases e'; cases u
            · exact R'.not_uq hl e' u hj (sx.subset ha)
          · rename_i dd hl
            cases e
            simp only [opD, hl, Option.map_some] at k1
            cases k1
            have q1 := R'.at_ hl r1.1
            obtain ⟨x, Gx, rx, sx, hx⟩ := item_rep (w := .non) q1 hd
            refine hx Q (h x H' fp' Gx (R'.subF.pinF (fun a ha => rx.fresh ha) fun a ha j fl' d' e' u => ?_) p n fx ⟨rx, fun z => nomatch z⟩)
            by_cases hj : j = i'
            · subst hj; rw [hl] at e'; cases e'; cases u
            · exact R'.not_uq hl e' u hj (sx.subset ha)
          · rename_i dd hl
            cases e
            simp only [opD, hl, Option.map_some] at k1
            cases k1
            have q1 := R'.at_ hl r1.1
            obtain ⟨x, Gx, rx, sx, hx⟩ := item_rep (w := .non) q1 hd
            refine hx Q (h x H' fp' Gx ((R'.subF.share hl).pinF (fun a ha => rx.fresh ha) fun a ha j fl' d' e' u => ?_) p n (fx.trans (fix_set (fun fl d z => by rw [hl] at z; cases z; rfl) (fun j hj => rfl) fun j _ => rfl)) ⟨rx, fun z => nomatch z⟩)
            by_cases hj : j = i'
            · subst hj; rw [look_set_self (look_lt hl)] at e'; cases e'; cases u
            · rw [look_set_ne hj] at e'
              exact R'.not_uq hl e' u hj (sx.subset ha)
          · cases e
  | non => cases e
  | bl b => cases e
  | str x => cases e
  | ty n => cases e
  | lst ds => cases e
  | tup ds => cases e
  | dct ks ds => cases e
  | lk ks ds => cases e
  | fz ds => cases e
end U

namespace U
open PySem L2

/-! ### tests -/
def mB (m : M) : MT := fun ρ => do
  let (o, ρ1) ← m ρ
  match opD ρ1 o with
  | some (.bl b) => some (b, ρ1)
  | _ => none
theorem st_val {K : PySem.W.Frag} {t : TE} {m : M} (hm : SO K t m) : ST K (fun σ H Q => t σ H fun x H1 => ∃ c, x = .bl c ∧ Q c H1) (mB m) := by
  intro ρ b ρ' e T σ H fp R Q h
  simp only [mB, Option.bind_eq_bind, Option.bind_eq_some_iff] at e
  obtain ⟨⟨o1, ρ1⟩, e1, e⟩ := e
  refine hm ρ o1 ρ1 e1 T σ H fp R _ fun v H1 fp1 F R1 p1 n1 f1 r1 => ?_
  dsimp only at e
  split at e
  · rename_i b' hb
    cases e
    obtain ⟨G, q⟩ := r1.rep R1 hb
    simp only [Rep] at q
    exact ⟨b, q.1, h H1 fp1 R1.subF p1 n1 f1⟩
  · cases e
def mNot (m : MT) : MT := fun ρ => (m ρ).map fun (b, ρ1) => (!b, ρ1)
def mAnd (m1 m2 : MT) : MT := fun ρ => do
  let (b, ρ1) ← m1 ρ
  if b then m2 ρ1 else some (false, ρ1)
def mOr (m1 m2 : MT) : MT := fun ρ => do
  let (b, ρ1) ← m1 ρ
  if b then some (true, ρ1) else m2 ρ1
theorem st_not {K : PySem.W.Frag} {t : TT} {m : MT} (hm : ST K t m) : ST K (tNot t) (mNot m) := by
  intro ρ b ρ' e T σ H fp R Q h
  simp only [mNot, Option.map_eq_some_iff] at e
  obtain ⟨⟨b1, ρ1⟩, e1, e⟩ := e
  cases e
  exact hm ρ b1 _ e1 T σ H fp R _ h
theorem st_and {K : PySem.W.Frag} {t u : TT} {m1 m2 : MT} (h1 : ST K t m1) (h2 : ST K u m2) : ST K (tAnd t u) (mAnd m1 m2) := by
  intro ρ b ρ' e T σ H fp R Q h
  simp only [mAnd, Option.bind_eq_bind, Option.bind_eq_some_iff] at e
  obtain ⟨⟨b1, ρ1⟩, e1, e⟩ := e
  refine h1 ρ b1 ρ1 e1 T σ H fp R _ fun H1 fp1 R1 p1 n1 f1 => ?_
  cases b1 with
  | true =>
    refine h2 ρ1 b ρ' e T σ H1 fp1 R1 _ fun H2 fp2 R2 p2 n2 f2 => h H2 fp2 R2 (p1.trans p2) (n1.trans n2) (f1.trans f2)
  | false =>
    cases e
    exact h H1 fp1 R1 p1 n1 f1
theorem st_or {K : PySem.W.Frag} {t u : TT} {m1 m2 : MT} (h1 : ST K t m1) (h2 : ST K u m2) : ST K (tOr t u) (mOr m1 m2) := by
  intro ρ b ρ' e T σ H fp R Q h
  simp only [mOr, Option.bind_eq_bind, Option.bind_eq_some_iff] at e
  obtain ⟨⟨b1, ρ1⟩, e1, e⟩ := e
  refine h1 ρ b1 ρ1 e1 T σ H fp R _ fun H1 fp1 R1 p1 n1 f1 => ?_
  cases b1 with
  | false =>
    refine h2 ρ1 b ρ' e T σ H1 fp1 R1 _ fun H2 fp2 R2 p2 n2 f2 => h H2 fp2 R2 (p1.trans p2) (n1.trans n2) (f1.trans f2)
  | true =>
    cases e
    exact h H1 fp1 R1 p1 n1 f1
def mYes : MT := fun ρ => some (true, ρ)
theorem st_yes {K : PySem.W.Frag} : ST K tYes mYes := by
  intro ρ b ρ' e T σ H fp R Q h
  cases e
  exact h H fp R (Pin.refl _ _) (Nog.refl _ _) (Fix.refl _ _ _)
/-- a test as a value -/
def mOfT (m : MT) : M := fun ρ => (m ρ).map fun (b, ρ1) => (.tm true (.bl b), ρ1)
theorem Rel.bl {K : PySem.W.Frag} {T : Addr → Prop} {ρ : Env} {σ : L2.St} {H : Hp} {fp : Fp} {b : Bool} (R : Rel K T ρ σ H fp) : Rel K (addF T []) ρ σ H fp ∧ OR K T σ H fp (.tm true (.bl b)) (.bl b) [] := R.new (New.nil H) (by simp [Rep])
theorem so_and {K : PySem.W.Frag} {ta tb : TE} {ma mb : M} (ha : SO K ta ma) (hb : SO K tb mb) : SO K (tAndV ta tb) (mOfT (mAnd (mB ma) (mB mb))) := by
  intro ρ o ρ' e T σ H fp R Q h
  simp only [mOfT, mAnd, mB, Option.map_eq_some_iff, Option.bind_eq_bind, Option.bind_eq_some_iff] at e
  obtain ⟨⟨b, ρ9⟩, ⟨⟨b1, ρ1⟩, ⟨⟨o1, ρ1'⟩, e1, e2⟩, e3⟩, e⟩ := e
  cases e
  refine ha ρ o1 ρ1' e1 T σ H fp R _ fun v H1 fp1 F R1 p1 n1 f1 r1 => ?_
  dsimp only at e2
  split at e2
  · rename_i b' hb'
    cases e2
    obtain ⟨G, q⟩ := r1.rep R1 hb'
    simp only [Rep] at q
    refine ⟨b1, q.1, ?_⟩
    cases b1 with
    | true =>
      simp only [if_true, Option.bind_eq_some_iff] at e3 ⊢
      obtain ⟨⟨o2, ρ2⟩, e4, e5⟩ := e3
      refine hb ρ1 o2 ρ2 e4 T σ H1 fp1 R1.subF _ fun w H2 fp2 F2 R2 p2 n2 f2 r2 => ?_
      dsimp only at e5
      split at e5
      · rename_i b2 hb2
        cases e5
        obtain ⟨G2, q2⟩ := r2.rep R2 hb2
        simp only [Rep] at q2
        rw [q2.1]
        obtain ⟨R3, r3⟩ := (R2.subF).bl (b := b)
        exact h _ H2 fp2 [] R3 (p1.trans p2) (n1.trans n2) (f1.trans f2) r3
      · cases e5
    | false =>
      simp only [Bool.false_eq_true, if_false] at e3 ⊢
      cases e3
      obtain ⟨R3, r3⟩ := (R1.subF).bl (b := false)
      exact h _ H1 fp1 [] R3 p1 n1 f1 r3
  · cases e2
theorem so_or {K : PySem.W.Frag} {ta tb : TE} {ma mb : M} (ha : SO K ta ma) (hb : SO K tb mb) : SO K (tOrV ta tb) (mOfT (mOr (mB ma) (mB mb))) := by
  intro ρ o ρ' e T σ H fp R Q h
  simp only [mOfT, mOr, mB, Option.map_eq_some_iff, Option.bind_eq_bind, Option.bind_eq_some_iff] at e
  obtain ⟨⟨b, ρ9⟩, ⟨⟨b1, ρ1⟩, ⟨⟨o1, ρ1'⟩, e1, e2⟩, e3⟩, e⟩ := e
  cases e
  refine ha ρ o1 ρ1' e1 T σ H fp R _ fun v H1 fp1 F R1 p1 n1 f1 r1 => ?_
  dsimp only at e2
  split at e2
  · rename_i b' hb'
    cases e2
    obtain ⟨G, q⟩ := r1.rep R1 hb'
    simp only [Rep] at q
    refine ⟨b1, q.1, ?_⟩
    cases b1 with
    | false =>
      simp only [Bool.false_eq_true, if_false, Option.bind_eq_some_iff] at e3 ⊢
      obtain ⟨⟨o2, ρ2⟩, e4, e5⟩ := e3
      refine hb ρ1 o2 ρ2 e4 T σ H1 fp1 R1.subF _ fun w H2 fp2 F2 R2 p2 n2 f2 r2 => ?_
      dsimp only at e5
      split at e5
      · rename_i b2 hb2
        cases e5
        obtain ⟨G2, q2⟩ := r2.rep R2 hb2
        simp only [Rep] at q2
        rw [q2.1]
        obtain ⟨R3, r3⟩ := (R2.subF).bl (b := b)
        exact h _ H2 fp2 [] R3 (p1.trans p2) (n1.trans n2) (f1.trans f2) r3
      · cases e5
    | true =>
      simp only [if_true] at e3 ⊢
      cases e3
      obtain ⟨R3, r3⟩ := (R1.subF).bl (b := true)
      exact h _ H1 fp1 [] R3 p1 n1 f1 r3
  · cases e2
theorem so_not {K : PySem.W.Frag} {ta : TE} {ma : M} (ha : SO K ta ma) : SO K (tNotV ta) (mOfT (mNot (mB ma))) := by
  intro ρ o ρ' e T σ H fp R Q h
  simp only [mOfT, mNot, mB, Option.map_eq_some_iff, Option.bind_eq_bind, Option.bind_eq_some_iff] at e
  obtain ⟨⟨b, ρ9⟩, ⟨⟨b1, ρ1⟩, ⟨⟨o1, ρ1'⟩, e1, e2⟩, e3⟩, e⟩ := e
  cases e
  cases e3
  refine ha ρ o1 ρ1' e1 T σ H fp R _ fun v H1 fp1 F R1 p1 n1 f1 r1 => ?_
  dsimp only at e2
  split at e2
  · rename_i b' hb'
    cases e2
    obtain ⟨G, q⟩ := r1.rep R1 hb'
    simp only [Rep] at q
    obtain ⟨R3, r3⟩ := (R1.subF).bl (b := !b1)
    exact ⟨b1, q.1, h _ H1 fp1 [] R3 p1 n1 f1 r3⟩
  · cases e2
def mIf (mt : MT) (ma mb : M) : M := fun ρ => do
  let (b, ρ1) ← mt ρ
  if b then ma ρ1 else mb ρ1
theorem so_if {K : PySem.W.Frag} {tt : TT} {ta tb : TE} {mt : MT} {ma mb : M} (ht : ST K tt mt) (ha : SO K ta ma) (hb : SO K tb mb) : SO K (tIf tt ta tb) (mIf mt ma mb) := by
  intro ρ o ρ' e T σ H fp R Q h
  simp only [mIf, Option.bind_eq_bind, Option.bind_eq_some_iff] at e
  obtain ⟨⟨b1, ρ1⟩, e1, e⟩ := e
  refine ht ρ b1 ρ1 e1 T σ H fp R _ fun H1 fp1 R1 p1 n1 f1 => ?_
  cases b1 with
  | true => exact ha ρ1 o ρ' e T σ H1 fp1 R1 _ fun v H2 fp2 F R2 p2 n2 f2 r2 => h v H2 fp2 F R2 (p1.trans p2) (n1.trans n2) (f1.trans f2) r2
  | false => exact hb ρ1 o ρ' e T σ H1 fp1 R1 _ fun v H2 fp2 F R2 p2 n2 f2 r2 => h v H2 fp2 F R2 (p1.trans p2) (n1.trans n2) (f1.trans f2) r2
/-- a < b < c: the middle one is a plain value -/
def mChain (f f' : D → D → Option D) (ma mb mc : M) : M := fun ρ => do
  let (o1, ρ1) ← ma ρ
  let (o2, ρ2) ← mb ρ1
  let d1 ← opD ρ2 o1
  let d2 ← opD ρ2 o2
  match f d1 d2, d2.pure with
  | some (.bl true), true => do
    let (o3, ρ3) ← mc ρ2
    let d3 ← opD ρ3 o3
    let d ← f' d2 d3
    some (.tm true d, ρ3)
  | some (.bl false), true => some (.tm true (.bl false), ρ2)
  | _, _ => none
theorem so_chain {K : PySem.W.Frag} {r r' : R2} {f f' : D → D → Option D} {ta tb tc : TE} {ma mb mc : M} (hr : ROp K r f) (hr' : ROp K r' f') (ha : SO K ta ma) (hb : SO K tb mb) (hc : SO K tc mc) : SO K (tChain r r' ta tb tc) (mChain f f' ma mb mc) := by
  intro ρ o ρ' e T σ H fp R Q h
  simp only [mChain, Option.bind_eq_bind, Option.bind_eq_some_iff] at e
  obtain ⟨⟨o1, ρ1⟩, e1, ⟨o2, ρ2⟩, e2, d1, k1, d2, k2, e⟩ := e
  refine so2 ha hb e1 e2 R fun v w H' fp' F G R' p n fx r1 r2 => ?_
  obtain ⟨F1, q1⟩ := r1.rep R' k1
  obtain ⟨G1, q2⟩ := r2.rep R' k2
  dsimp only at k1 k2 e
  split at e
  · rename_i e3 hp
    simp only [Option.bind_eq_some_iff] at e
    obtain ⟨⟨o3, ρ3⟩, e4, d3, k3, d, k4, e⟩ := e
    cases e
    refine hr d1 d2 _ e3 H' v w F1 G1 q1 q2 _ fun x H2 N nw q => ?_
    simp only [Rep] at q
    refine ⟨true, q.1, ?_⟩
    rw [if_pos rfl]
    have hG := Rep.pure d2 w G1 q2 hp
    subst hG
    refine hc ρ2 o3 _ e4 T σ H2 fp' (R'.subF.same nw.same) _ fun y H3 fp3 F3 R3 p3 n3 f3 r3 => ?_
    obtain ⟨F4, q4⟩ := r3.rep R3 k3
    refine hr' d2 d3 d k4 H3 w y [] F4 (Rep.pin p3 d2 w [] (q2.same nw.same) (fun _ h => nomatch h)) q4 Q fun z H4 N4 nw4 q5 => ?_
    obtain ⟨R5, r5⟩ := R3.subF.new nw4 q5
    exact h z H4 fp3 N4 R5 (((p.trans (Pin.same nw.same)).trans p3).trans (Pin.same nw4.same)) (n.trans n3) (fx.trans f3) r5
  · rename_i e3 hp
    cases e
    refine hr d1 d2 _ e3 H' v w F1 G1 q1 q2 _ fun x H2 N nw q => ?_
    simp only [Rep] at q
    refine ⟨false, q.1, ?_⟩
    rw [if_neg (by decide)]
    obtain ⟨R3, r3⟩ := (R'.subF.same nw.same).bl (b := false)
    exact h _ H2 fp' [] R3 (p.trans (Pin.same nw.same)) n fx r3
  · cases e

/-! ### targets -/
abbrev MG := Bool → D → Env → Option Env
def SG (K : PySem.W.Frag) (g : TG) (m : MG) (is : List Nat) : Prop :=
  ∀ ρ u d ρ', m u d ρ = some ρ' → ∀ T σ H fp v F, Rel K (addF T F) ρ σ H fp → OR K T σ H fp (.tm u d) v F → ∀ Q : L2.St → Hp → Prop,
    (∀ σ' H' fp', Rel K T ρ' σ' H' fp' → Pin T H H' → (∀ j a, a ∈ fp' j → T a → a ∈ fp j ∨ (a ∈ F ∧ j ∈ is)) → Fix ρ σ fp ρ' σ' fp' → ((∀ j : Nat, j ∉ is → σ'[j]? = σ[j]?) ∧ σ'.length = σ.length) → Q σ' H') → g v σ H Q
def flOf (u : Bool) : Fl := if u then .o else .s
theorem flOf_uq {u : Bool} (h : (flOf u).uq = true) : u = true := by
  cases u with
  | true => rfl
  | false => cases h
/-- a name may be bound anew -/
def canSet (ρ : Env) (i : Nat) : Bool := decide (i < ρ.length) && (match look ρ i with
  | none => true
  | some (fl, _) => fl.re)
def gSet (i : Nat) : MG := fun u d ρ => if canSet ρ i then some (ρ.set i (some (flOf u, d))) else none
theorem sg_name {K : PySem.W.Frag} {i : Nat} : SG K (gName i) (gSet i) [i] := by
  intro ρ u d ρ' e T σ H fp v F R r Q h
  unfold gSet at e
  split at e
  · rename_i hc
    cases e
    simp only [canSet, Bool.and_eq_true, decide_eq_true_eq] at hc
    obtain ⟨hi, hre⟩ := hc
    have hlen : i < σ.length := by rw [R.len]; exact hi
    refine h (σ.set i (some v)) H (fpSet fp i F) ⟨by rw [List.length_set, List.length_set]; exact R.len, fun j fl' d' e => ?_, fun j e => ?_, fun j fl' d' e u' => ?_, R.subF.tal⟩ (Pin.refl _ _) (fun j a ha _ => ?_) (fix_set (fun fl d q => by rw [q] at hre; exact hre) (fun j hj => fpSet_ne hj) fun j hj => List.getElem?_set_ne (Ne.symm hj)) ⟨fun j hj => List.getElem?_set_ne (fun z => hj (by rw [z]; simp)), List.length_set⟩
    · by_cases hj : j = i
      · subst hj; rw [look_set_self hi] at e; cases e; rw [fpSet_self]; exact ⟨v, List.getElem?_set_self hlen, r.1⟩
      · rw [look_set_ne hj] at e; rw [fpSet_ne hj, List.getElem?_set_ne (Ne.symm hj)]; exact R.rep j fl' d' e
    · by_cases hj : j = i
      · subst hj; rw [look_set_self hi] at e; cases e
      · rw [look_set_ne hj] at e; rw [fpSet_ne hj]; exact R.nil j e
    · by_cases hj : j = i
      · subst hj; rw [look_set_self hi] at e; cases e; rw [fpSet_self]
        obtain ⟨a1, a2, a3⟩ := r.2 (flOf_uq u')
        exact ⟨a1, a2, fun k hk a ha => by rw [fpSet_ne hk]; exact a3 k a ha⟩
      · rw [look_set_ne hj] at e; rw [fpSet_ne hj]
        obtain ⟨a1, a2, a3⟩ := R.nod j fl' d' e u'
        refine ⟨a1, fun a ha t => a2 a ha (.inl t), fun k hk a ha => ?_⟩
        by_cases hki : k = i
        · subst hki; rw [fpSet_self]; exact fun z => a2 a ha (.inr z)
        · rw [fpSet_ne hki]; exact a3 k hk a ha
    · by_cases hj : j = i
      · subst hj; rw [fpSet_self] at ha; exact .inr ⟨ha, by simp⟩
      · rw [fpSet_ne hj] at ha; exact .inl ha
  · cases e
/-- targets in a row -/
abbrev MGs := Bool → List D → Env → Option Env
def SGs (K : PySem.W.Frag) (g : TGs) (m : MGs) (is : List Nat) : Prop :=
  ∀ ρ u ds ρ', m u ds ρ = some ρ' → ∀ T σ H fp vs F, Rel K (addF T F) ρ σ H fp → RepL K H ds vs F → (u = true → F.Nodup ∧ (∀ a ∈ F, ¬ T a) ∧ ∀ j, ∀ a ∈ F, a ∉ fp j) → ∀ Q : L2.St → Hp → Prop,
    (∀ σ' H' fp', Rel K T ρ' σ' H' fp' → Pin T H H' → (∀ j a, a ∈ fp' j → T a → a ∈ fp j ∨ (a ∈ F ∧ j ∈ is)) → Fix ρ σ fp ρ' σ' fp' → ((∀ j : Nat, j ∉ is → σ'[j]? = σ[j]?) ∧ σ'.length = σ.length) → Q σ' H') → g vs σ H Q
def gsNil : MGs := fun _ ds ρ => match ds with
  | [] => some ρ
  | _ => none
def gsCons (m : MG) (ms : MGs) : MGs := fun u ds ρ => match ds with
  | d :: r => match m (u || d.pure) d ρ with
    | some ρ1 => ms u r ρ1
    | none => none
  | [] => none
theorem sgs_nil {K : PySem.W.Frag} : SGs K gNil gsNil [] := by
  intro ρ u ds ρ' e T σ H fp vs F R r ru Q h
  cases ds with
  | nil =>
    cases e
    simp only [RepL] at r
    exact ⟨r.1, h σ H fp R.subF (Pin.refl _ _) (fun _ _ h _ => .inl h) (Fix.refl _ _ _) ⟨fun _ _ => rfl, rfl⟩⟩
  | cons d ds => cases e
theorem sgs_cons {K : PySem.W.Frag} {g : TG} {gs : TGs} {m : MG} {ms : MGs} {is js : List Nat} (h1 : SG K g m is) (h2 : SGs K gs ms js) : SGs K (gCons g gs) (gsCons m ms) (is ++ js) := by
  intro ρ u ds ρ' e T σ H fp vs F R r ru Q h
  cases ds with
  | nil => cases e
  | cons d ds =>
    simp only [RepL] at r
    obtain ⟨v, ws, F1, F2, rfl, rfl, r1, r2⟩ := r
    simp only [gsCons] at e
    split at e
    · rename_i ρ1 e1
      refine ⟨v, ws, rfl, ?_⟩
      refine h1 ρ _ d ρ1 e1 (addF T F2) σ H fp v F1 (R.mono fun a t => ?_) ⟨r1, fun z => ?_⟩ _ fun σ1 H1 fp1 R1 p1 n1 f1 s1 => ?_
      · rcases t with (t | t) | t
        · exact .inl t
        · exact .inr (List.mem_append_right _ t)
        · exact .inr (List.mem_append_left _ t)
      · cases u with
        | false =>
          have hF := Rep.pure d v F1 r1 (by simpa using z)
          subst hF
          exact uq_nil
        | true =>
          obtain ⟨a1, a2, a3⟩ := ru rfl
          obtain ⟨b1, b2, b3⟩ := List.nodup_append.mp a1
          exact ⟨b1, fun a ha t => t.elim (a2 a (List.mem_append_left _ ha)) fun t => b3 a ha a t rfl, fun j a ha => a3 j a (List.mem_append_left _ ha)⟩
      · refine h2 ρ1 u ds ρ' e T σ1 H1 fp1 ws F2 R1 (RepL.pin p1 ds ws F2 r2 fun a ha => .inr ha) (fun z => ?_) Q fun σ2 H2 fp2 R2 p2 n2 f2 s2 => ?_
        · obtain ⟨a1, a2, a3⟩ := ru z
          obtain ⟨b1, b2, b3⟩ := List.nodup_append.mp a1
          refine ⟨b2, fun a ha => a2 a (List.mem_append_right _ ha), fun j a ha hj => ?_⟩
          rcases n1 j a hj (.inr ha) with q | q
          · exact a3 j a (List.mem_append_right _ ha) q
          · exact b3 a q.1 a ha rfl
        · refine h σ2 H2 fp2 R2 ((p1.mono fun a t => .inl t).trans p2) (fun j a ha t => ?_) (f1.trans f2) ⟨fun j hj => ?_, s2.2.trans s1.2⟩
          · rcases n2 j a ha t with q | q
            · rcases n1 j a q (.inl t) with q | q
              · exact .inl q
              · exact .inr ⟨List.mem_append_left _ q.1, List.mem_append_left _ q.2⟩
            · exact .inr ⟨List.mem_append_right _ q.1, List.mem_append_right _ q.2⟩
          · simp only [List.mem_append, not_or] at hj
            exact (s2.1 j hj.2).trans (s1.1 j hj.1)
    · cases e
def gTupD (n : Nat) (ms : MGs) : MG := fun u d ρ => match d with
  | .tup ds => if ds.length = n then ms u ds ρ else none
  | _ => none
theorem sg_tup {K : PySem.W.Frag} {n : Nat} {gs : TGs} {ms : MGs} {is : List Nat} (hs : SGs K gs ms is) : SG K (gTup K n gs) (gTupD n ms) is := by
  intro ρ u d ρ' e T σ H fp v F R r Q h
  cases d with
  | tup ds =>
    simp only [gTupD] at e
    split at e
    · rename_i hn
      obtain ⟨r, ru⟩ := r
      simp only [Rep] at r
      obtain ⟨a, xs, rfl, sq, rl⟩ := r
      exact ⟨a, xs, rfl, .inl (.inl sq), by rw [← rl.length]; exact hn, hs ρ u ds ρ' e T σ H fp xs F R rl ru Q h⟩
    · cases e
  | non => cases e
  | bl b => cases e
  | int j => cases e
  | str x => cases e
  | ty n => cases e
  | lst ds => cases e
  | dct ks ds => cases e
  | lk ks ds => cases e
  | fz ds => cases e
end U

namespace U
open PySem L2

/-! ### a slot's list is changed -/
theorem Rep.updL {K : PySem.W.Frag} {H : Hp} {d : D} {v : V} {F : List Addr} {a : Addr} {o o' : HO} (r : Rep K H d v F) (h : H a = some o) (hm : mutO o = true) (ha : a ∉ F) : Rep K (upd H a o') d v F :=
  Rep.pin (T := fun b => b ≠ a) (fun b u e c => by
    by_cases hb : b = a
    · subst hb
      rw [h] at e; cases e
      rcases c with c | c
      · exact absurd rfl c
      · rw [hm] at c; cases c
    · rw [upd_ne hb]; exact e) d v F r fun b hb z => ha (z ▸ hb)
theorem RepL.updL {K : PySem.W.Frag} {H : Hp} {ds : List D} {xs : List V} {F : List Addr} {a : Addr} {o o' : HO} (r : RepL K H ds xs F) (h : H a = some o) (hm : mutO o = true) (ha : a ∉ F) : RepL K (upd H a o') ds xs F :=
  RepL.pin (T := fun b => b ≠ a) (fun b u e c => by
    by_cases hb : b = a
    · subst hb
      rw [h] at e; cases e
      rcases c with c | c
      · exact absurd rfl c
      · rw [hm] at c; cases c
    · rw [upd_ne hb]; exact e) ds xs F r fun b hb z => ha (z ▸ hb)
/-- all in X is in Y, none twice -/
def Sb (X Y : List Addr) : Prop := (Y.Nodup → X.Nodup) ∧ ∀ a ∈ X, a ∈ Y
theorem Sb.refl (X : List Addr) : Sb X X := ⟨id, fun _ h => h⟩
theorem Sb.of_sublist {X Y : List Addr} (h : X.Sublist Y) : Sb X Y := ⟨fun n => n.sublist h, fun _ ha => h.subset ha⟩
theorem Sb.of_perm {X Y : List Addr} (h : X.Perm Y) : Sb X Y := ⟨fun n => h.nodup_iff.mpr n, fun _ ha => h.mem_iff.mp ha⟩
theorem Sb.trans {X Y Z : List Addr} (a : Sb X Y) (b : Sb Y Z) : Sb X Z := ⟨fun n => a.1 (b.1 n), fun x hx => b.2 x (a.2 x hx)⟩

/-- the state behind a change of slot i's list; Fa: what came in, Gd: what came out -/
theorem Rel.change {K : PySem.W.Frag} {T : Addr → Prop} {ρ : Env} {σ : L2.St} {H : Hp} {fp : Fp} {i : Nat} {fl : Fl} {ds ds' : List D} {a : Addr} {xs xs' : List V} {G Fa Gd G' : List Addr} {d : D} {x : V}
    (R : Rel K (addF T Fa) ρ σ H fp) (hl : look ρ i = some (fl, .lst ds)) (hv : σ[i]? = some (some (.ref a))) (hu : fl.uq = true) (he : H a = some (.lst xs)) (hf : fp i = a :: G) (rl' : RepL K H ds' xs' G') (rd : Rep K H d x Gd)
    (sb : Sb (Gd ++ G') (G ++ Fa)) (hFa : Fa.Nodup ∧ (∀ b ∈ Fa, ¬ T b) ∧ ∀ j, ∀ b ∈ Fa, b ∉ fp j) :
    let ρ' := ρ.set i (some (fl, .lst ds'))
    let H' := upd H a (.lst xs')
    let fp' := fpSet fp i (a :: G')
    Rel K (addF T Gd) ρ' σ H' fp' ∧ Pin T H H' ∧ Nog T fp fp' ∧ (Fl.mu fl = true → Fix ρ σ fp ρ' σ fp') ∧ OR K T σ H' fp' (.tm true d) x Gd := by
  intro ρ' H' fp'
  have hi := look_lt hl
  obtain ⟨nd, nt, nj⟩ := R.nod i fl _ hl hu
  rw [hf] at nd nt nj
  have aFa : a ∉ Fa := fun z => hFa.2.2 i a z (by rw [hf]; simp)
  have nd2 : (G ++ Fa).Nodup := List.nodup_append.mpr ⟨(List.nodup_cons.mp nd).2, hFa.1, fun p hp q hq e => hFa.2.2 i q hq (by rw [hf, ← e]; exact List.mem_cons_of_mem _ hp)⟩
  have nd3 := sb.1 nd2
  obtain ⟨n1, n2, n3⟩ := List.nodup_append.mp nd3
  have inGF : ∀ b, b ∈ Gd ++ G' → b ∈ G ∨ b ∈ Fa := fun b hb => List.mem_append.mp (sb.2 b hb)
  have aG' : ∀ b, b ∈ Gd ++ G' → b ≠ a := fun b hb z => by
    subst z
    rcases inGF b hb with q | q
    · exact (List.nodup_cons.mp nd).1 q
    · exact aFa q
  have nT : ∀ b, b ∈ Gd ++ G' → ¬ T b := fun b hb t => by
    rcases inGF b hb with q | q
    · exact nt b (List.mem_cons_of_mem _ q) (.inl t)
    · exact hFa.2.1 b q t
  have nfp : ∀ b, b ∈ Gd ++ G' → ∀ j, j ≠ i → b ∉ fp j := fun b hb j hj z => by
    rcases inGF b hb with q | q
    · exact nj j hj b (List.mem_cons_of_mem _ q) z
    · exact hFa.2.2 j b q z
  have aT : ¬ T a := fun t => nt a (by simp) (.inl t)
  have pin : Pin T H H' := fun b o e c => by
    by_cases hb : b = a
    · subst hb
      rw [he] at e; cases e
      rcases c with c | c
      · exact absurd c aT
      · cases c
    · show upd H a _ b = _
      rw [upd_ne hb]; exact e
  have keep : ∀ b, H b ≠ none → H' b ≠ none := fun b hb => by
    by_cases e : b = a
    · subst e; show upd H b _ b ≠ none; rw [upd_same]; exact fun z => nomatch z
    · show upd H a _ b ≠ none; rw [upd_ne e]; exact hb
  have R1 : Rel K T ρ' σ H' fp' := by
    refine ⟨by show σ.length = (ρ.set i _).length; rw [List.length_set]; exact R.len, fun j fl' d' e => ?_, fun j e => ?_, fun j fl' d' e u' => ?_, fun b t => keep b (R.tal b (.inl t))⟩
    · by_cases hj : j = i
      · subst hj
        rw [look_set_self hi] at e; cases e
        refine ⟨.ref a, hv, ?_⟩
        show Rep K H' (.lst ds') (.ref a) (fpSet fp j (a :: G') j)
        rw [fpSet_self]
        exact Rep.lst_of (show upd H a _ a = _ from upd_same) (rl'.updL he rfl fun z => aG' a (List.mem_append_right _ z) rfl)
      · rw [look_set_ne hj] at e
        obtain ⟨v, hv', r⟩ := R.rep j fl' d' e
        refine ⟨v, hv', ?_⟩
        show Rep K H' d' v (fpSet fp i (a :: G') j)
        rw [fpSet_ne hj]
        exact r.updL he rfl fun z => nj j hj a (by simp) z
    · by_cases hj : j = i
      · subst hj; rw [look_set_self hi] at e; cases e
      · rw [look_set_ne hj] at e
        show fpSet fp i _ j = []
        rw [fpSet_ne hj]; exact R.nil j e
    · by_cases hj : j = i
      · subst hj
        rw [look_set_self hi] at e; cases e
        show (fpSet fp j (a :: G') j).Nodup ∧ (∀ b ∈ fpSet fp j (a :: G') j, ¬ T b) ∧ _
        rw [fpSet_self]
        refine ⟨List.nodup_cons.mpr ⟨fun z => aG' a (List.mem_append_right _ z) rfl, n2⟩, fun b hb => ?_, fun k hk b hb => ?_⟩
        · rcases List.mem_cons.mp hb with rfl | hb
          · exact aT
          · exact nT b (List.mem_append_right _ hb)
        · have hb : b ∈ fpSet fp j (a :: G') j := hb
          rw [fpSet_self] at hb
          show b ∉ fpSet fp j _ k
          rw [fpSet_ne hk]
          rcases List.mem_cons.mp hb with rfl | hb
          · exact nj k hk b (by simp)
          · exact nfp b (List.mem_append_right _ hb) k hk
      · rw [look_set_ne hj] at e
        obtain ⟨a1, a2, a3⟩ := R.nod j fl' d' e u'
        show (fpSet fp i (a :: G') j).Nodup ∧ (∀ b ∈ fpSet fp i (a :: G') j, ¬ T b) ∧ _
        rw [fpSet_ne hj]
        refine ⟨a1, fun b hb t => a2 b hb (.inl t), fun k hk b hb => ?_⟩
        have hb2 : b ∈ fp j := by
          have := hb
          rw [show fp' j = fp j from fpSet_ne hj] at this
          exact this
        by_cases hki : k = i
        · subst hki
          show b ∉ fpSet fp k _ k
          rw [fpSet_self]
          intro z
          rcases List.mem_cons.mp z with rfl | z
          · exact nj j hj b (by simp) hb2
          · exact nfp b (List.mem_append_right _ z) j hj hb2
        · show b ∉ fpSet fp i _ k
          rw [fpSet_ne hki]; exact a3 k hk b hb2
  have rd' : Rep K H' d x Gd := rd.updL he rfl fun z => aG' a (List.mem_append_left _ z) rfl
  have dis : ∀ j, ∀ b ∈ Gd, b ∉ fp' j := fun j b hb z => by
    by_cases hj : j = i
    · subst hj
      have z' : b ∈ fpSet fp j (a :: G') j := z
      rw [fpSet_self] at z'
      rcases List.mem_cons.mp z' with z' | z'
      · exact aG' b (List.mem_append_left _ hb) z'
      · exact n3 b hb b z' rfl
    · have z' : b ∈ fpSet fp i (a :: G') j := z
      rw [fpSet_ne hj] at z'
      exact nfp b (List.mem_append_left _ hb) j hj z'
  refine ⟨R1.pinF (fun b hb => rd'.fresh hb) fun b hb j fl' d' e u z => dis j b hb z, pin, fun j b hb t => ?_, fun hmu => ?_, rd', fun _ => ⟨n1, fun b hb => nT b (List.mem_append_left _ hb), dis⟩⟩
  · by_cases hj : j = i
    · subst hj
      have hb' : b ∈ fpSet fp j (a :: G') j := hb
      rw [fpSet_self] at hb'
      rcases List.mem_cons.mp hb' with rfl | hb'
      · exact absurd t aT
      · exact absurd t (nT b (List.mem_append_right _ hb'))
    · have hb' : b ∈ fpSet fp i (a :: G') j := hb
      rw [fpSet_ne hj] at hb'
      exact hb'
  · intro j fl' d' e
    by_cases hj : j = i
    · subst hj
      rw [hl] at e; cases e
      exact ⟨fun z => ⟨⟨.lst ds', by rw [← z]; exact look_set_self hi⟩, rfl⟩, fun z => (mu_kp hmu z).elim⟩
    · exact ⟨fun z => ⟨⟨d', by rw [look_set_ne hj, e, z]⟩, rfl⟩, fun z => ⟨by rw [look_set_ne hj, e], by show fpSet fp i _ j = _; rw [fpSet_ne hj], rfl⟩⟩
/-- the list of a slot -/
theorem Rel.mine {K : PySem.W.Frag} {T : Addr → Prop} {ρ : Env} {σ : L2.St} {H : Hp} {fp : Fp} {i : Nat} {fl : Fl} {ds : List D} {v : V} (R : Rel K T ρ σ H fp) (hl : look ρ i = some (fl, .lst ds)) (hv : σ[i]? = some (some v)) :
    ∃ a xs G, v = .ref a ∧ RepL K H ds xs G ∧ H a = some (.lst xs) ∧ fp i = a :: G := by
  have r := R.at_ hl hv
  simp only [Rep] at r
  exact r

/-! ### methods that change a list -/
/-- a method by values, and what it makes of the list's items and the arguments: what it gives, the items behind it -/
def RMut (K : PySem.W.Frag) (r : V → List V → Hp → VK → Prop) (f : List D → List D → Option (D × List D)) : Prop := ∀ ds as d ds', f ds as = some (d, ds') → ∀ H a xs vs G Fa, H a = some (.lst xs) → RepL K H ds xs G → RepL K H as vs Fa → ∀ Q : VK,
  (∀ x xs' Gd G', Rep K H d x Gd → RepL K H ds' xs' G' → Sb (Gd ++ G') (G ++ Fa) → Q x (upd H a (.lst xs'))) → r (.ref a) vs H Q
def mMut (i : Nat) (f : List D → List D → Option (D × List D)) (ms : MA) : M := fun ρ => match look ρ i with
  | some (_, .lst _) => (ms ρ).bind fun (os, ρ1) => match tms os, look ρ1 i with
    | some (true, as), some (fl, .lst ds) => match fl.mu, f ds as with
      | true, some (d, ds') => some (.tm true d, ρ1.set i (some (fl, .lst ds')))
      | _, _ => none
    | _, _ => none
  | _ => none
theorem mu_uq {fl : Fl} (h : fl.mu = true) : fl.uq = true := by
  cases fl <;> first | rfl | cases h
theorem so_mut {K : PySem.W.Frag} {i : Nat} {r : V → List V → Hp → VK → Prop} {f : List D → List D → Option (D × List D)} {ts : TA} {ms : MA} (hr : RMut K r f) (ha : SA K ts ms) : SO K (tBM K "list" r (tVar i) ts) (mMut i f ms) := by
  intro ρ o ρ' e T σ H fp R Q h
  simp only [mMut] at e
  split at e
  · rename_i fl0 ds0 hl0
    simp only [Option.bind_eq_some_iff] at e
    obtain ⟨⟨os, ρ1⟩, e1, e⟩ := e
    dsimp only at e
    split at e
    · rename_i as fl ds e2 hl
      · split at e
        · rename_i d ds' hmu e3
          cases e
          obtain ⟨v, hv, r0⟩ := R.rep i _ _ hl0
          obtain ⟨a, xs0, G0, rfl, sq0, _, _⟩ := RepL.sql r0
          refine ⟨.ref a, hv, .inl ⟨rfl, xs0, sq0⟩, ?_⟩
          refine ha ρ os ρ1 e1 T σ H fp R _ fun vs H1 fp1 Fa R1 p1 n1 f1 r1 => ?_
          obtain ⟨rl, ru⟩ := ORs.repl r1 e2
          obtain ⟨a', xs, G, ea, rx, he, hf⟩ := R1.mine hl hv
          cases ea
          refine hr ds as d ds' e3 H1 a xs vs G Fa he rx rl Q fun x xs' Gd G' rd rl' sb => ?_
          obtain ⟨c1, c2, c3, c4, c5⟩ := R1.change hl hv (mu_uq hmu) he hf rl' rd sb (ru rfl)
          exact h x _ _ Gd c1 (p1.trans c2) (n1.trans c3) (f1.trans (c4 hmu)) c5
        · cases e
    · cases e
  · cases e
theorem so_mut0 {K : PySem.W.Frag} {i : Nat} {r : V → List V → Hp → VK → Prop} {f : List D → List D → Option (D × List D)} (hr : RMut K r f) : SO K (tBM0 K "list" r (tVar i)) (mMut i f mNil) :=
  fun ρ o ρ' e T σ H fp R Q h => so_mut (ts := tNil) hr sa_nil ρ o ρ' e T σ H fp R Q h

/-! ### x[i] = v -/
def gSubD (x : Nat) (mi : M) : MG := fun u d ρ => match look ρ x with
  | some (_, .lst _) => (mi ρ).bind fun (o, ρ1) => match opD ρ1 o, look ρ1 x with
    | some (.int k), some (fl, .lst ds) => match fl.mu && u && D.pureL ds && d.pure, ixN ds.length k with
      | true, some j => some (ρ1.set x (some (fl, .lst (ds.set j d))))
      | _, _ => none
    | _, _ => none
  | _ => none
theorem RepL.set0 {K : PySem.W.Frag} {H : Hp} {ds : List D} {xs : List V} {d : D} {v : V} (j : Nat) (h : RepL K H ds xs []) (r : Rep K H d v []) : RepL K H (ds.set j d) (xs.set j v) [] := by
  rw [RepL.nil_iff] at h ⊢
  refine ⟨by simp [h.1], fun i d' v' e1 e2 => ?_⟩
  by_cases hij : j = i
  · subst hij
    have h1 : j < ds.length := by have := (List.getElem?_eq_some_iff.mp e1).1; simpa using this
    rw [List.getElem?_set_self h1] at e1
    rw [List.getElem?_set_self (by rw [← h.1]; exact h1)] at e2
    cases e1; cases e2
    exact r
  · rw [List.getElem?_set_ne hij] at e1 e2
    exact h.2 i d' v' e1 e2
theorem sg_sub {K : PySem.W.Frag} {x : Nat} {ti : TE} {mi : M} (hi : SO K ti mi) : SG K (gSub (tVar x) ti rSetL) (gSubD x mi) [] := by
  intro ρ u d ρ' e T σ H fp v F R r Q h
  simp only [gSubD] at e
  split at e
  · rename_i fl0 ds0 hl0
    simp only [Option.bind_eq_some_iff] at e
    obtain ⟨⟨o, ρ1⟩, e1, e⟩ := e
    dsimp only at e
    split at e
    · rename_i k fl ds e2 hl
      · split at e
        · rename_i j hc hj
          simp only [Bool.and_eq_true] at hc
          obtain ⟨⟨⟨hmu, hu⟩, hpl⟩, hpd⟩ := hc
          cases e
          obtain ⟨v0, hv, r0⟩ := R.rep x _ _ hl0
          have hF := Rep.pure d v F r.1 hpd
          subst hF
          refine ⟨v0, hv, ?_⟩
          refine hi ρ o ρ1 e1 T σ H fp R.subF _ fun w H1 fp1 G R1 p1 n1 f1 r1 => ?_
          obtain ⟨a, xs, Gl, rfl, rx, he, hf⟩ := R1.mine hl hv
          obtain ⟨Gk, qk⟩ := r1.rep R1 e2
          simp only [Rep] at qk
          obtain ⟨rfl, _⟩ := qk
          have hGl := RepL.pure ds xs Gl rx hpl
          subst hGl
          have rv : Rep K H1 d v [] := Rep.pin p1 d v [] r.1 (fun _ h => nomatch h)
          obtain ⟨c1, c2, c3, c4, c5⟩ := (R1.subF.addNil).change (Gd := []) (x := .non) (d := .non) hl hv (mu_uq hmu) he hf (rx.set0 j rv) (by simp [Rep]) (Sb.refl _) uq_nil
          refine ⟨a, xs, k, j, rfl, rfl, he, by rw [← rx.length]; exact hj, h σ _ _ c1.subF (p1.trans c2) (fun j' b hb t => .inl ((n1.trans c3) j' b hb t)) (f1.trans (c4 hmu)) ⟨fun _ _ => rfl, rfl⟩⟩
        · cases e
    · cases e
  · cases e

/-! ### statements -/
inductive Out where
  | nx (ρ : Env)
  | bk (ρ : Env)
  | ct (ρ : Env)
  | rt (d : D) (ρ : Env)
abbrev MS := Env → Option Out
def Post (K : PySem.W.Frag) (T : Addr → Prop) (ρ : Env) (σ : L2.St) (H : Hp) (fp : Fp) (E : Ends) : Out → Prop
  | .nx ρ' => ∀ σ' H' fp', Rel K T ρ' σ' H' fp' → Pin T H H' → Fix ρ σ fp ρ' σ' fp' → E.nx σ' H'
  | .bk ρ' => ∀ σ' H' fp', Rel K T ρ' σ' H' fp' → Pin T H H' → Fix ρ σ fp ρ' σ' fp' → E.bk σ' H'
  | .ct ρ' => ∀ σ' H' fp', Rel K T ρ' σ' H' fp' → Pin T H H' → Fix ρ σ fp ρ' σ' fp' → E.ct σ' H'
  | .rt d ρ' => ∀ v σ' H' fp' F, Rel K (addF T F) ρ' σ' H' fp' → Pin T H H' → Fix ρ σ fp ρ' σ' fp' → OR K T σ' H' fp' (.tm true d) v F → E.rt v H'
def SS (K : PySem.W.Frag) (t : TS) (m : MS) : Prop :=
  ∀ ρ o, m ρ = some o → ∀ T σ H fp E, Rel K T ρ σ H fp → Post K T ρ σ H fp E o → t E σ H
theorem Post.step {K : PySem.W.Frag} {T : Addr → Prop} {ρ ρ1 : Env} {σ σ1 : L2.St} {H H1 : Hp} {fp fp1 : Fp} {E : Ends} {o : Out} (h : Post K T ρ σ H fp E o) (p : Pin T H H1) (f : Fix ρ σ fp ρ1 σ1 fp1) : Post K T ρ1 σ1 H1 fp1 E o := by
  cases o with
  | nx ρ' => exact fun σ' H' fp' R p' f' => h σ' H' fp' R (p.trans p') (f.trans f')
  | bk ρ' => exact fun σ' H' fp' R p' f' => h σ' H' fp' R (p.trans p') (f.trans f')
  | ct ρ' => exact fun σ' H' fp' R p' f' => h σ' H' fp' R (p.trans p') (f.trans f')
  | rt d ρ' => exact fun v σ' H' fp' F R p' f' r => h v σ' H' fp' F R (p.trans p') (f.trans f') r

def mAsg (m : M) (g : MG) : MS := fun ρ => do
  let (o, ρ1) ← m ρ
  match o with
  | .tm u d => (g u d ρ1).map .nx
  | .sl _ => none
theorem ss_asg {K : PySem.W.Frag} {t : TE} {g : TG} {m : M} {mg : MG} {is : List Nat} (hm : SO K t m) (hg : SG K g mg is) : SS K (tAsg t g) (mAsg m mg) := by
  intro ρ o e T σ H fp E R h
  simp only [mAsg, Option.bind_eq_bind, Option.bind_eq_some_iff] at e
  obtain ⟨⟨o1, ρ1⟩, e1, e⟩ := e
  refine hm ρ o1 ρ1 e1 T σ H fp R _ fun v H1 fp1 F R1 p1 n1 f1 r1 => ?_
  cases o1 with
  | sl i => cases e
  | tm u d =>
    simp only [Option.map_eq_some_iff] at e
    obtain ⟨ρ2, e2, e⟩ := e
    cases e
    exact hg ρ1 u d ρ2 e2 T σ H1 fp1 v F R1 r1 _ fun σ2 H2 fp2 R2 p2 n2 f2 s2 => h σ2 H2 fp2 R2 (p1.trans p2) (f1.trans f2)
def mRet (m : M) : MS := fun ρ => do
  let (o, ρ1) ← m ρ
  match o with
  | .tm true d => some (.rt d ρ1)
  | _ => none
theorem ss_ret {K : PySem.W.Frag} {t : TE} {m : M} (hm : SO K t m) : SS K (tRet t) (mRet m) := by
  intro ρ o e T σ H fp E R h
  simp only [mRet, Option.bind_eq_bind, Option.bind_eq_some_iff] at e
  obtain ⟨⟨o1, ρ1⟩, e1, e⟩ := e
  dsimp only at e
  split at e
  · rename_i d
    cases e
    exact hm ρ _ ρ1 e1 T σ H fp R _ fun v H1 fp1 F R1 p1 n1 f1 r1 => h v σ H1 fp1 F R1 p1 f1 r1
  · cases e
def mRetN : MS := fun ρ => some (.rt .non ρ)
theorem ss_retN {K : PySem.W.Frag} : SS K tRetN mRetN := by
  intro ρ o e T σ H fp E R h
  cases e
  obtain ⟨R', r⟩ := R.new (d := .non) (v := .non) (New.nil H) (by simp [Rep])
  exact h .non σ H fp [] R' (Pin.refl _ _) (Fix.refl _ _ _) r
def mDrop (m : M) : MS := fun ρ => (m ρ).map fun (_, ρ1) => .nx ρ1
theorem ss_drop {K : PySem.W.Frag} {t : TE} {m : M} (hm : SO K t m) : SS K (tDrop t) (mDrop m) := by
  intro ρ o e T σ H fp E R h
  simp only [mDrop, Option.map_eq_some_iff] at e
  obtain ⟨⟨o1, ρ1⟩, e1, e⟩ := e
  cases e
  exact hm ρ _ ρ1 e1 T σ H fp R _ fun v H1 fp1 F R1 p1 n1 f1 r1 => h σ H1 fp1 R1.subF p1 f1
def mSeq (m1 m2 : MS) : MS := fun ρ => do
  match ← m1 ρ with
  | .nx ρ1 => m2 ρ1
  | o => some o
theorem ss_seq {K : PySem.W.Frag} {t u : TS} {m1 m2 : MS} (h1 : SS K t m1) (h2 : SS K u m2) : SS K (tSeq t u) (mSeq m1 m2) := by
  intro ρ o e T σ H fp E R h
  simp only [mSeq, Option.bind_eq_bind, Option.bind_eq_some_iff] at e
  obtain ⟨o1, e1, e⟩ := e
  refine h1 ρ o1 e1 T σ H fp _ R ?_
  cases o1 with
  | nx ρ1 => exact fun σ' H' fp' R' p' f' => h2 ρ1 o e T σ' H' fp' E R' (h.step p' f')
  | bk ρ1 => cases e; exact h
  | ct ρ1 => cases e; exact h
  | rt d ρ1 => cases e; exact h
def mNext : MS := fun ρ => some (.nx ρ)
theorem ss_next {K : PySem.W.Frag} : SS K tNext mNext := by
  intro ρ o e T σ H fp E R h
  cases e
  exact h σ H fp R (Pin.refl _ _) (Fix.refl _ _ _)
def mBreak : MS := fun ρ => some (.bk ρ)
theorem ss_break {K : PySem.W.Frag} : SS K tBreak mBreak := by
  intro ρ o e T σ H fp E R h
  cases e
  exact h σ H fp R (Pin.refl _ _) (Fix.refl _ _ _)
def mCont : MS := fun ρ => some (.ct ρ)
theorem ss_cont {K : PySem.W.Frag} : SS K tCont mCont := by
  intro ρ o e T σ H fp E R h
  cases e
  exact h σ H fp R (Pin.refl _ _) (Fix.refl _ _ _)
def mIfS (mt : MT) (m1 m2 : MS) : MS := fun ρ => do
  let (b, ρ1) ← mt ρ
  if b then m1 ρ1 else m2 ρ1
theorem ss_if {K : PySem.W.Frag} {tt : TT} {t u : TS} {mt : MT} {m1 m2 : MS} (ht : ST K tt mt) (h1 : SS K t m1) (h2 : SS K u m2) : SS K (tIfS tt t u) (mIfS mt m1 m2) := by
  intro ρ o e T σ H fp E R h
  simp only [mIfS, Option.bind_eq_bind, Option.bind_eq_some_iff] at e
  obtain ⟨⟨b, ρ1⟩, e1, e⟩ := e
  refine ht ρ b ρ1 e1 T σ H fp R _ fun H1 fp1 R1 p1 n1 f1 => ?_
  cases b with
  | true => exact h1 ρ1 o e T σ H1 fp1 E R1 (h.step p1 f1)
  | false => exact h2 ρ1 o e T σ H1 fp1 E R1 (h.step p1 f1)
/-- x op= e, of what is not changed in its place -/
def mAug (i : Nat) (f : D → D → Option D) (m : M) : MS := fun ρ => match look ρ i with
  | some (_, d0) => match d0.pure, m ρ with
    | true, some (o, ρ1) => match opD ρ1 o with
      | some d2 => match f d0 d2 with
        | some d => (gSet i true d ρ1).map .nx
        | none => none
      | none => none
    | _, _ => none
  | none => none
theorem ss_aug {K : PySem.W.Frag} {i : Nat} {r : R2} {f : D → D → Option D} {t : TE} {m : M} (hr : ROp K r f) (hm : SO K t m) : SS K (tAug i t r) (mAug i f m) := by
  intro ρ o e T σ H fp E R h
  simp only [mAug] at e
  split at e
  · rename_i fl0 d0 hl0
    split at e
    · rename_i o1 ρ1 hp0 e1
      split at e
      · rename_i d2 k2
        split at e
        · rename_i d k
          simp only [Option.map_eq_some_iff] at e
          obtain ⟨ρ2, e2, e⟩ := e
          cases e
          obtain ⟨v, hv, r0⟩ := R.rep i _ _ hl0
          have hF := Rep.pure d0 v _ r0 hp0
          rw [hF] at r0
          refine ⟨v, hv, ?_⟩
          refine hm ρ o1 ρ1 e1 T σ H fp R _ fun w H1 fp1 F R1 p1 n1 f1 r1 => ?_
          obtain ⟨F2, q2⟩ := r1.rep R1 k2
          refine hr d0 d2 d k H1 v w [] F2 (Rep.pin p1 d0 v [] r0 (fun _ h => nomatch h)) q2 _ fun x H2 N nw q => ?_
          obtain ⟨R2, r2⟩ := R1.subF.new nw q
          exact sg_name ρ1 true d ρ2 e2 T σ H2 fp1 x N R2 r2 _ fun σ3 H3 fp3 R3 p3 n3 f3 s3 => h σ3 H3 fp3 R3 ((p1.trans (Pin.same nw.same)).trans p3) (f1.trans f3)
        · cases e
      · cases e
    · cases e
  · cases e
end U

namespace U
open PySem L2

/-! ### slots that a loop walks are held meanwhile -/
def hold : Option (Fl × D) → Option (Fl × D)
  | some (.o, d) => some (.b, d)
  | some (.l, d) => some (.b, d)
  | e => e
def unhold (e0 e : Option (Fl × D)) : Option (Fl × D) := match e0, e with
  | some (.o, _), some (.b, d) => some (.o, d)
  | some (.l, _), some (.b, d) => some (.l, d)
  | _, e => e
def fzs : List Nat → Env → Env
  | [], ρ => ρ
  | i :: is, ρ => (fzs is ρ).set i (hold (look ρ i))
def uns (ρ0 : Env) : List Nat → Env → Env
  | [], ρ => ρ
  | i :: is, ρ => (uns ρ0 is ρ).set i (unhold (look ρ0 i) (look ρ i))
theorem fzs_len (ρ : Env) : ∀ is : List Nat, (fzs is ρ).length = ρ.length
  | [] => rfl
  | i :: is => by simp [fzs, fzs_len ρ is]
theorem uns_len (ρ0 ρ : Env) : ∀ is : List Nat, (uns ρ0 is ρ).length = ρ.length
  | [] => rfl
  | i :: is => by simp [uns, uns_len ρ0 ρ is]
theorem look_ge {ρ : Env} {i : Nat} (h : ρ.length ≤ i) : look ρ i = none := by
  unfold look
  rw [List.getElem?_eq_none h]
  rfl
theorem look_fzs (ρ : Env) (j : Nat) : ∀ is : List Nat, look (fzs is ρ) j = if j ∈ is then hold (look ρ j) else look ρ j
  | [] => by simp [fzs]
  | i :: is => by
    simp only [fzs]
    by_cases hj : j = i
    · subst hj
      rw [if_pos (by simp)]
      by_cases hl : j < (fzs is ρ).length
      · rw [look_set_self hl]
      · rw [look_ge (by simpa using Nat.le_of_not_lt hl), look_ge (by rw [fzs_len] at hl; exact Nat.le_of_not_lt hl)]
        rfl
    · rw [look_set_ne hj, look_fzs ρ j is]
      simp [hj]
theorem look_uns (ρ0 ρ : Env) (j : Nat) : ∀ is : List Nat, look (uns ρ0 is ρ) j = if j ∈ is then unhold (look ρ0 j) (look ρ j) else look ρ j
  | [] => by simp [uns]
  | i :: is => by
    simp only [uns]
    by_cases hj : j = i
    · subst hj
      rw [if_pos (by simp)]
      by_cases hl : j < (uns ρ0 is ρ).length
      · rw [look_set_self hl]
      · rw [look_ge (by simpa using Nat.le_of_not_lt hl), look_ge (ρ := ρ) (by rw [uns_len] at hl; exact Nat.le_of_not_lt hl)]
        cases look ρ0 j with
        | none => rfl
        | some e => obtain ⟨fl, d⟩ := e; cases fl <;> rfl
    · rw [look_set_ne hj, look_uns ρ0 ρ j is]
      simp [hj]
theorem hold_some {e : Option (Fl × D)} {fl : Fl} {d : D} (h : hold e = some (fl, d)) : ∃ fl', e = some (fl', d) ∧ (fl.uq = true → fl'.uq = true) := by
  cases e with
  | none => cases h
  | some x =>
    obtain ⟨fl', d'⟩ := x
    cases fl' <;> cases h <;> exact ⟨_, rfl, fun z => by first | rfl | exact z⟩
theorem hold_none {e : Option (Fl × D)} (h : hold e = none) : e = none := by
  cases e with
  | none => rfl
  | some x => obtain ⟨fl', d'⟩ := x; cases fl' <;> cases h
theorem unhold_some {e0 e : Option (Fl × D)} {fl : Fl} {d : D} (h : unhold e0 e = some (fl, d)) : ∃ fl', e = some (fl', d) ∧ (fl.uq = true → fl'.uq = true) := by
  unfold unhold at h
  split at h
  · cases h; exact ⟨_, rfl, fun _ => rfl⟩
  · cases h; exact ⟨_, rfl, fun _ => rfl⟩
  · exact ⟨fl, h, id⟩
theorem unhold_none {e0 e : Option (Fl × D)} (h : unhold e0 e = none) : e = none := by
  unfold unhold at h
  split at h
  · cases h
  · cases h
  · exact h
section
variable {K : PySem.W.Frag} {T : Addr → Prop} {ρ ρ' : Env} {σ σ' : L2.St} {H H' : Hp} {fp fp' : Fp}
theorem Rel.reflag (R : Rel K T ρ σ H fp) (hl : ρ'.length = ρ.length) (h1 : ∀ j fl d, look ρ' j = some (fl, d) → ∃ fl', look ρ j = some (fl', d) ∧ (fl.uq = true → fl'.uq = true)) (h2 : ∀ j, look ρ' j = none → look ρ j = none) : Rel K T ρ' σ H fp :=
  ⟨R.len.trans hl.symm, fun i fl d e => let ⟨fl', e', _⟩ := h1 i fl d e; R.rep i fl' d e', fun i e => R.nil i (h2 i e), fun i fl d e u => let ⟨fl', e', u'⟩ := h1 i fl d e; R.nod i fl' d e' (u' u), R.tal⟩
theorem Rel.held (R : Rel K T ρ σ H fp) (is : List Nat) : Rel K T (fzs is ρ) σ H fp := by
  refine R.reflag (fzs_len ρ is) (fun j fl d e => ?_) fun j e => ?_
  · rw [look_fzs] at e
    split at e
    · exact hold_some e
    · exact ⟨fl, e, id⟩
  · rw [look_fzs] at e
    split at e
    · exact hold_none e
    · exact e
theorem Rel.unheld (R : Rel K T ρ' σ H fp) (ρ0 : Env) (is : List Nat) : Rel K T (uns ρ0 is ρ') σ H fp := by
  refine R.reflag (uns_len ρ0 ρ' is) (fun j fl d e => ?_) fun j e => ?_
  · rw [look_uns] at e
    split at e
    · exact unhold_some e
    · exact ⟨fl, e, id⟩
  · rw [look_uns] at e
    split at e
    · exact unhold_none e
    · exact e
theorem Fix.unheld {is : List Nat} (f : Fix (fzs is ρ) σ fp ρ' σ' fp') : Fix ρ σ fp (uns ρ is ρ') σ' fp' := fun i fl d e => by
  have hk := look_fzs ρ i is
  have hu := look_uns ρ ρ' i is
  by_cases hi : i ∈ is
  · rw [if_pos hi, e] at hk
    rw [if_pos hi, e] at hu
    cases fl with
    | o => exact ⟨fun z => (nomatch z), fun z => (nomatch z)⟩
    | s => exact ⟨fun z => (nomatch z), fun z => (nomatch z)⟩
    | l =>
      obtain ⟨q1, q2, q3⟩ := (f i .b d hk).2 rfl
      rw [q1] at hu
      exact ⟨fun _ => ⟨⟨d, hu⟩, q3⟩, fun z => (nomatch z)⟩
    | b =>
      obtain ⟨q1, q2, q3⟩ := (f i .b d hk).2 rfl
      rw [q1] at hu
      exact ⟨fun z => (nomatch z), fun _ => ⟨hu, q2, q3⟩⟩
    | h =>
      obtain ⟨q1, q2, q3⟩ := (f i .h d hk).2 rfl
      rw [q1] at hu
      exact ⟨fun z => (nomatch z), fun _ => ⟨hu, q2, q3⟩⟩
  · rw [if_neg hi] at hk hu
    have := f i fl d (hk.trans e)
    rw [hu]
    exact this
end

/-! ### what is walked -/
structure Wk (K : PySem.W.Frag) (J : It) (ds : List D) (TF : List Addr) (I : Hp → Prop) : Prop where
  go : ∀ i H, I H → i < ds.length → J.go i H
  stop : ∀ H, I H → J.stop ds.length H
  yld : ∀ (i : Nat) H x H' d, I H → ds[i]? = some d → J.yld i H x H' → Same H H' ∧ ∃ F, Rep K H' d x F ∧ ∀ a ∈ F, a ∈ TF
abbrev MI := Env → Option (List D × Env × List Nat)
def SI (K : PySem.W.Frag) (wi : TI) (mi : MI) : Prop :=
  ∀ ρ ds ρ0 is, mi ρ = some (ds, ρ0, is) → ∀ T σ H fp, Rel K T ρ σ H fp → ∀ Q : It → Hp → Prop,
    (∀ J H1 fp1 TF I, Rel K (addF T TF) ρ0 σ H1 fp1 → Pin T H H1 → Nog T fp fp1 → Fix ρ σ fp ρ0 σ fp1 → Wk K J ds TF I →
      (∀ ρ' σ' H' fp', Rel K (addF T TF) ρ' σ' H' fp' → Fix (fzs is ρ0) σ fp1 ρ' σ' fp' → Pin (addF T TF) H1 H' → I H') → Q J H1) → wi σ H Q

def Out.mp (f : Env → Env) : Out → Out
  | .nx ρ => .nx (f ρ)
  | .bk ρ => .bk (f ρ)
  | .ct ρ => .ct (f ρ)
  | .rt d ρ => .rt d (f ρ)
def fLoop (g : MG) (mb : MS) : List D → MS
  | [], ρ => some (.nx ρ)
  | d :: ds, ρ => match g d.pure d ρ with
    | none => none
    | some ρ1 => match mb ρ1 with
      | none => none
      | some (.nx ρ2) => fLoop g mb ds ρ2
      | some (.ct ρ2) => fLoop g mb ds ρ2
      | some (.bk ρ2) => some (.nx ρ2)
      | some (.rt d ρ2) => some (.rt d ρ2)
def mFor (mi : MI) (g : MG) (mb : MS) : MS := fun ρ => match mi ρ with
  | none => none
  | some (ds, ρ0, is) => (fLoop g mb ds (fzs is ρ0)).map (Out.mp (uns ρ0 is))
theorem ss_for {K : PySem.W.Frag} {wi : TI} {tg : TG} {tb : TS} {mi : MI} {g : MG} {mb : MS} {js : List Nat} (hi : SI K wi mi) (hg : SG K tg g js) (hb : SS K tb mb) : SS K (tFor wi tg tb) (mFor mi g mb) := by
  intro ρ o e T σ H fp E R h
  unfold mFor at e
  split at e
  · cases e
  · rename_i ds ρ0 is e0
    simp only [Option.map_eq_some_iff] at e
    obtain ⟨o', eL, rfl⟩ := e
    refine hi ρ ds ρ0 is e0 T σ H fp R _ fun J H1 fp1 TF I R1 p1 n1 f1 W hI => ?_
    refine ⟨fun i m σ' H' => m = ds.length - i ∧ i ≤ ds.length ∧ ∃ ρi fpi, Rel K (addF T TF) ρi σ' H' fpi ∧ Fix (fzs is ρ0) σ fp1 ρi σ' fpi ∧ Pin (addF T TF) H1 H' ∧ fLoop g mb (ds.drop i) ρi = some o',
      ⟨ds.length, rfl, Nat.zero_le _, fzs is ρ0, fp1, R1.held is, Fix.refl _ _ _, Pin.refl _ _, eL⟩, ?_⟩
    rintro i m σ' H' ⟨rfl, hi', ρi, fpi, Ri, Fi, Pi, ei⟩
    have hI' := hI ρi σ' H' fpi Ri Fi Pi
    -- the end, whatever it is
    have fin : ∀ ρ2 σ2 H2 fp2, Rel K (addF T TF) ρ2 σ2 H2 fp2 → Fix (fzs is ρ0) σ fp1 ρ2 σ2 fp2 → Pin (addF T TF) H1 H2 → o' = .nx ρ2 → E.nx σ2 H2 := fun ρ2 σ2 H2 fp2 R2 F2 P2 e2 => by
      subst e2
      exact h σ2 H2 fp2 (R2.subF.unheld ρ0 is) (p1.trans (P2.mono fun a t => .inl t)) (f1.trans F2.unheld)
    by_cases hlt : i < ds.length
    · right
      have ed : ds.drop i = ds[i] :: ds.drop (i + 1) := List.drop_eq_getElem_cons hlt
      rw [ed] at ei
      simp only [fLoop] at ei
      refine ⟨W.go i H' hI' hlt, fun σ2 H2 => ∃ ρ2 fp2, Rel K (addF T TF) ρ2 σ2 H2 fp2 ∧ Fix (fzs is ρ0) σ fp1 ρ2 σ2 fp2 ∧ Pin (addF T TF) H1 H2 ∧ fLoop g mb (ds.drop (i + 1)) ρ2 = some o', fun σ2 H2 ⟨ρ2, fp2, a, b, c, d⟩ => ⟨ds.length - (i + 1), by omega, rfl, hlt, ρ2, fp2, a, b, c, d⟩, fun x H2 hy => ?_⟩
      obtain ⟨sm, F, rF, hF⟩ := W.yld i H' x H2 ds[i] hI' (List.getElem?_eq_getElem hlt) hy
      split at ei
      · cases ei
      · rename_i ρ1 eg
        refine hg ρi _ ds[i] ρ1 eg (addF T TF) σ' H2 fpi x F ((Ri.same sm).mono fun a t => t.elim id fun z => .inr (hF a z)) ⟨rF, fun z => ?_⟩ _ fun σ3 H3 fp3 R3 P3 N3 F3 S3 => ?_
        · have := Rep.pure _ x F rF z
          subst this
          exact uq_nil
        have P13 : Pin (addF T TF) H1 H3 := (Pi.trans (Pin.same sm)).trans P3
        split at ei
        · cases ei
        · rename_i ρ2 eb
          exact hb ρ1 _ eb (addF T TF) σ3 H3 fp3 _ R3 fun σ4 H4 fp4 R4 P4 F4 => ⟨ρ2, fp4, R4, (Fi.trans F3).trans F4, P13.trans P4, ei⟩
        · rename_i ρ2 eb
          exact hb ρ1 _ eb (addF T TF) σ3 H3 fp3 _ R3 fun σ4 H4 fp4 R4 P4 F4 => ⟨ρ2, fp4, R4, (Fi.trans F3).trans F4, P13.trans P4, ei⟩
        · rename_i ρ2 eb
          cases ei
          exact hb ρ1 _ eb (addF T TF) σ3 H3 fp3 _ R3 fun σ4 H4 fp4 R4 P4 F4 => fin ρ2 σ4 H4 fp4 R4 ((Fi.trans F3).trans F4) (P13.trans P4) rfl
        · rename_i dr ρ2 eb
          cases ei
          refine hb ρ1 _ eb (addF T TF) σ3 H3 fp3 _ R3 fun v σ4 H4 fp4 F5 R4 P4 F4 r4 => ?_
          refine h v σ4 H4 fp4 F5 ((R4.mono fun a t => t.elim (fun z => .inl (.inl z)) .inr).unheld ρ0 is) (p1.trans ((P13.trans P4).mono fun a t => .inl t)) (f1.trans ((Fi.trans F3).trans F4).unheld) (r4.mono fun a t => .inl t)
    · left
      have ee : i = ds.length := by omega
      subst ee
      rw [List.drop_length] at ei
      cases ei
      exact ⟨W.stop H' hI', fin ρi σ' H' fpi Ri Fi Pi rfl⟩

/-! ### while -/
def wLoop (mt : MT) (mb : MS) : Nat → MS
  | 0, _ => none
  | n + 1, ρ => match mt ρ with
    | none => none
    | some (false, ρ1) => some (.nx ρ1)
    | some (true, ρ1) => match mb ρ1 with
      | none => none
      | some (.nx ρ2) => wLoop mt mb n ρ2
      | some (.ct ρ2) => wLoop mt mb n ρ2
      | some (.bk ρ2) => some (.nx ρ2)
      | some (.rt d ρ2) => some (.rt d ρ2)
def mWhile (n : Nat) (mt : MT) (mb : MS) : MS := wLoop mt mb n
theorem ss_while {K : PySem.W.Frag} {tc : TT} {tb : TS} {mt : MT} {mb : MS} (n : Nat) (hc : ST K tc mt) (hb : SS K tb mb) : SS K (tWhile tc tb) (mWhile n mt mb) := by
  intro ρ o e T σ H fp E R h
  refine ⟨fun m σ' H' => ∃ ρi fpi, Rel K T ρi σ' H' fpi ∧ Fix ρ σ fp ρi σ' fpi ∧ Pin T H H' ∧ wLoop mt mb m ρi = some o, ⟨n, ρ, fp, R, Fix.refl _ _ _, Pin.refl _ _, e⟩, ?_⟩
  rintro m σ' H' ⟨ρi, fpi, Ri, Fi, Pi, ei⟩
  cases m with
  | zero => cases ei
  | succ m =>
    simp only [wLoop] at ei
    split at ei
    · cases ei
    · rename_i ρ1 et
      cases ei
      refine hc ρi false ρ1 et T σ' H' fpi Ri _ fun H2 fp2 R2 P2 N2 F2 => ?_
      rw [if_neg (by decide)]
      exact h σ' H2 fp2 R2 (Pi.trans P2) (Fi.trans F2)
    · rename_i ρ1 et
      refine hc ρi true ρ1 et T σ' H' fpi Ri _ fun H2 fp2 R2 P2 N2 F2 => ?_
      rw [if_pos rfl]
      refine ⟨fun σ2 H2 => ∃ ρ2 fp2, Rel K T ρ2 σ2 H2 fp2 ∧ Fix ρ σ fp ρ2 σ2 fp2 ∧ Pin T H H2 ∧ wLoop mt mb m ρ2 = some o, fun σ2 H2 q => ⟨m, Nat.lt_succ_self m, q⟩, ?_⟩
      split at ei
      · cases ei
      · rename_i ρ2 eb
        exact hb ρ1 _ eb T σ' H2 fp2 _ R2 fun σ4 H4 fp4 R4 P4 F4 => ⟨ρ2, fp4, R4, (Fi.trans F2).trans F4, (Pi.trans P2).trans P4, ei⟩
      · rename_i ρ2 eb
        exact hb ρ1 _ eb T σ' H2 fp2 _ R2 fun σ4 H4 fp4 R4 P4 F4 => ⟨ρ2, fp4, R4, (Fi.trans F2).trans F4, (Pi.trans P2).trans P4, ei⟩
      · rename_i ρ2 eb
        cases ei
        exact hb ρ1 _ eb T σ' H2 fp2 _ R2 fun σ4 H4 fp4 R4 P4 F4 => h σ4 H4 fp4 R4 ((Pi.trans P2).trans P4) ((Fi.trans F2).trans F4)
      · rename_i dr ρ2 eb
        cases ei
        exact hb ρ1 _ eb T σ' H2 fp2 _ R2 fun v σ4 H4 fp4 F5 R4 P4 F4 r4 => h v σ4 H4 fp4 F5 R4 ((Pi.trans P2).trans P4) ((Fi.trans F2).trans F4) r4
end U

namespace U
open PySem L2

/-! ### comprehensions -/
theorem wipe_get (σ : L2.St) (j : Nat) : ∀ vs : List Nat, (wipe σ vs)[j]? = if j ∈ vs ∧ j < σ.length then some none else σ[j]?
  | [] => by simp [wipe]
  | v :: vs => by
    simp only [wipe]
    by_cases hj : j = v
    · subst hj
      by_cases hl : j < σ.length
      · rw [List.getElem?_set_self (by rw [wipe_length]; exact hl), if_pos ⟨by simp, hl⟩]
      · rw [if_neg (fun h => hl h.2), List.getElem?_eq_none (by rw [List.length_set, wipe_length]; omega), List.getElem?_eq_none (by omega)]
    · rw [List.getElem?_set_ne (Ne.symm hj), wipe_get σ j vs]
      simp [hj]
theorem wipe_eq {σ σ' : L2.St} {vs : List Nat} (hl : σ'.length = σ.length) (h : ∀ j : Nat, j ∉ vs → σ'[j]? = σ[j]?) : wipe σ' vs = wipe σ vs := by
  refine List.ext_getElem? fun j => ?_
  rw [wipe_get, wipe_get, hl]
  by_cases hj : j ∈ vs
  · by_cases h2 : j < σ.length
    · rw [if_pos ⟨hj, h2⟩, if_pos ⟨hj, h2⟩]
    · rw [if_neg (fun h => h2 h.2), if_neg (fun h => h2 h.2), List.getElem?_eq_none (by omega), List.getElem?_eq_none (by omega)]
  · rw [if_neg (fun h => hj h.1), if_neg (fun h => hj h.1), h j hj]
theorem wipe_wipe (σ : L2.St) (vs : List Nat) : wipe (wipe σ vs) vs = wipe σ vs := wipe_eq (wipe_length _ _) fun j hj => by
  rw [wipe_get, if_neg (fun h => hj h.1)]

def wipe0 (ρ : Env) : List Nat → Env
  | [] => ρ
  | v :: vs => (wipe0 ρ vs).set v none
theorem wipe0_len (ρ : Env) : ∀ vs : List Nat, (wipe0 ρ vs).length = ρ.length
  | [] => rfl
  | v :: vs => by simp [wipe0, wipe0_len ρ vs]
theorem look_wipe (ρ : Env) (j : Nat) : ∀ vs : List Nat, look (wipe0 ρ vs) j = if j ∈ vs then none else look ρ j
  | [] => by simp [wipe0]
  | v :: vs => by
    simp only [wipe0]
    by_cases hj : j = v
    · subst hj
      rw [if_pos (by simp)]
      by_cases hl : j < (wipe0 ρ vs).length
      · rw [look_set_self hl]
      · exact look_ge (by simpa using Nat.le_of_not_lt hl)
    · rw [look_set_ne hj, look_wipe ρ j vs]
      simp [hj]
def wipeF (fp : Fp) (vs : List Nat) : Fp := fun j => if j ∈ vs then [] else fp j
section
variable {K : PySem.W.Frag} {T : Addr → Prop} {ρ ρ' : Env} {σ σ' : L2.St} {H H' : Hp} {fp fp' : Fp}
theorem Rel.wipe (R : Rel K T ρ σ H fp) (vs : List Nat) : Rel K T (wipe0 ρ vs) (L2.wipe σ vs) H (wipeF fp vs) := by
  refine ⟨by rw [wipe_length, wipe0_len]; exact R.len, fun j fl d e => ?_, fun j e => ?_, fun j fl d e u => ?_, R.tal⟩
  · rw [look_wipe] at e
    split at e
    · cases e
    · rename_i hj
      rw [wipe_get, if_neg (fun h => hj h.1)]
      unfold wipeF
      rw [if_neg hj]
      exact R.rep j fl d e
  · rw [look_wipe] at e
    unfold wipeF
    split at e
    · rename_i hj; rw [if_pos hj]
    · rename_i hj; rw [if_neg hj]; exact R.nil j e
  · rw [look_wipe] at e
    split at e
    · cases e
    · rename_i hj
      obtain ⟨a1, a2, a3⟩ := R.nod j fl d e u
      unfold wipeF
      rw [if_neg hj]
      refine ⟨a1, a2, fun k hk a ha => ?_⟩
      by_cases hkv : k ∈ vs
      · rw [if_pos hkv]; exact fun z => nomatch z
      · rw [if_neg hkv]; exact a3 k hk a ha
/-- slots of which nothing is known may hold anything -/
theorem Rel.other (R : Rel K T ρ σ H fp) (hl : σ'.length = σ.length) (h : ∀ (j : Nat) e, look ρ j = some e → σ'[j]? = σ[j]?) : Rel K T ρ σ' H fp :=
  ⟨hl.trans R.len, fun i fl d e => by rw [h i _ e]; exact R.rep i fl d e, R.nil, R.nod, R.tal⟩
/-- an object that no slot bears is changed -/
theorem Rel.updX (R : Rel K T ρ σ H fp) {p : Addr} {o o' : HO} (h : H p = some o) (hm : mutO o = true) (hp : ∀ j, p ∉ fp j) : Rel K T ρ σ (upd H p o') fp :=
  ⟨R.len, fun i fl d e => let ⟨v, a, b⟩ := R.rep i fl d e; ⟨v, a, b.updL h hm (hp i)⟩, R.nil, R.nod, fun a t => by
    by_cases ha : a = p
    · subst ha; rw [upd_same]; exact fun z => nomatch z
    · rw [upd_ne ha]; exact R.tal a t⟩
end
def canWipe (ρ : Env) (vs : List Nat) : Bool := vs.all fun v => match look ρ v with
  | some (fl, _) => fl.re
  | none => true
theorem fix_wipe {ρ : Env} {σ : L2.St} {fp : Fp} {vs : List Nat} (h : canWipe ρ vs = true) : Fix ρ σ fp (wipe0 ρ vs) (wipe σ vs) (wipeF fp vs) := fun i fl d e => by
  have ne : (fl = .l ∨ fl.kp = true) → i ∉ vs := fun z hi => by
    have := List.all_eq_true.mp h i hi
    simp only [e] at this
    rcases z with rfl | z
    · cases this
    · revert this z; cases fl <;> simp [Fl.re, Fl.kp]
  have go : i ∉ vs → look (wipe0 ρ vs) i = look ρ i ∧ wipeF fp vs i = fp i ∧ (wipe σ vs)[i]? = σ[i]? := fun hi => ⟨by rw [look_wipe, if_neg hi], by unfold wipeF; rw [if_neg hi], by rw [wipe_get, if_neg (fun h => hi h.1)]⟩
  exact ⟨fun z => let ⟨a, b, c⟩ := go (ne (.inl z)); ⟨⟨d, by rw [a, e, z]⟩, c⟩, fun z => let ⟨a, b, c⟩ := go (ne (.inr z)); ⟨by rw [a, e], b, c⟩⟩

def cLoop (g : MG) (mt : MT) (me : M) (vs : List Nat) : List D → List D → Env → Option (List D × Env)
  | [], as, ρ => some (as, ρ)
  | d :: ds, as, ρ => match g d.pure d ρ with
    | none => none
    | some ρ1 => match mt ρ1 with
      | none => none
      | some (false, ρ2) => match canWipe ρ2 vs with
        | true => cLoop g mt me vs ds as (wipe0 ρ2 vs)
        | false => none
      | some (true, ρ2) => match me ρ2 with
        | some (.tm true a, ρ3) => match canWipe ρ3 vs, decide (as.length < 1000000) with
          | true, true => cLoop g mt me vs ds (as ++ [a]) (wipe0 ρ3 vs)
          | _, _ => none
        | _ => none
def mLc (mi : MI) (g : MG) (mt : MT) (me : M) (vs : List Nat) : M := fun ρ => match mi ρ with
  | none => none
  | some (ds, ρ0, is) => match vs.all fun v => (look ρ0 v).isNone with
    | true => match cLoop g mt me vs ds [] (fzs is ρ0) with
      | some (as, ρ1) => some (.tm true (.lst as), uns ρ0 is ρ1)
      | none => none
    | false => none
theorem so_lc {K : PySem.W.Frag} {wi : TI} {tg : TG} {tt : TT} {te : TE} {mi : MI} {g : MG} {mt : MT} {me : M} {vs js : List Nat} (hi : SI K wi mi) (hg : SG K tg g js) (ht : ST K tt mt) (he : SO K te me) (hj : ∀ j ∈ js, j ∈ vs) : SO K (tLc wi tg tt te vs) (mLc mi g mt me vs) := by
  intro ρ o ρ' e T σ H fp R Q h
  unfold mLc at e
  split at e
  · cases e
  · rename_i ds ρ0 is e0
    split at e
    · rename_i hv0
      split at e
      · rename_i as' ρ1 eL
        cases e
        have hv : ∀ v ∈ vs, look ρ0 v = none := fun v hvv => by
          have := List.all_eq_true.mp hv0 v hvv
          exact Option.isNone_iff_eq_none.mp this
        refine hi ρ ds ρ0 is e0 T σ H fp R _ fun J H1 fp1 TF I R1 p1 n1 f1 W hI p hp => ?_
        have pTF : p ∉ TF := fun z => R1.tal p (.inr z) hp
        have pT : ¬ T p := fun z => R1.tal p (.inl z) hp
        have hfz : ∀ v ∈ vs, look (fzs is ρ0) v = none := fun v hvv => by
          rw [look_fzs, hv v hvv]
          split <;> rfl
        have hpin : ∀ {H' : Hp} {o : HO}, Pin (addF T TF) H1 H' → Pin (addF T TF) H1 (upd H' p o) := fun {H' o} P a u ea c => by
          have : a ≠ p := fun z => by subst z; rw [hp] at ea; cases ea
          rw [upd_ne this]; exact P a u ea c
        let Inv := fun (i : Nat) (H' : Hp) => ∃ ρi fpi acc as G, Rel K (addF (addF T TF) (p :: G)) ρi (wipe σ vs) H' fpi ∧ Fix (fzs is ρ0) σ fp1 ρi (wipe σ vs) fpi ∧ Pin (addF T TF) H1 H' ∧ H' p = some (.lst acc) ∧ RepL K H' as acc G ∧
          (G.Nodup ∧ (∀ a ∈ G, ¬ addF T TF a) ∧ ∀ j, ∀ a ∈ G, a ∉ fpi j) ∧ (∀ j, p ∉ fpi j) ∧ p ∉ G ∧ (∀ v ∈ vs, look ρi v = none) ∧ Nog T fp1 fpi ∧ cLoop g mt me vs (ds.drop i) as ρi = some (as', ρ1)
        have s1 := same_upd (o := .lst []) hp
        refine ⟨fun i m H' => m = ds.length - i ∧ i ≤ ds.length ∧ Inv i H', ⟨ds.length, rfl, Nat.zero_le _, fzs is ρ0, fp1, [], [], [], ?_, ?_, hpin (Pin.refl _ _), upd_same, by simp [RepL], uq_nil, fun j => R1.fresh hp j, (fun z => nomatch z), hfz, Nog.refl _ _, eL⟩, ?_⟩
        · have R2 := ((R1.held is).same s1).other (σ' := wipe σ vs) (wipe_length _ _) fun j e' hl => by
            rw [wipe_get]
            by_cases hjv : j ∈ vs
            · rw [hfz j hjv] at hl; cases hl
            · rw [if_neg (fun z => hjv z.1)]
          exact R2.pinF (fun a ha => by rw [List.mem_singleton.mp ha, upd_same]; exact fun z => nomatch z) fun a ha i fl d _ _ => by rw [List.mem_singleton.mp ha]; exact R1.fresh hp i
        · intro i fl d el
          have hiv : i ∉ vs := fun z => by rw [hfz i z] at el; cases el
          have hs : (wipe σ vs)[i]? = σ[i]? := by rw [wipe_get, if_neg (fun z => hiv z.1)]
          exact ⟨fun z => ⟨⟨d, by rw [el, z]⟩, hs⟩, fun z => ⟨el, rfl, hs⟩⟩
        rintro i m H' ⟨rfl, hi', ρi, fpi, acc, as, G, Ri, Fi, Pi, ep, rG, uG, pfp, pG, vi, Ni, ei⟩
        have hI' : I H' := hI ρi (wipe σ vs) H' fpi Ri.subF Fi Pi
        by_cases hlt : i < ds.length
        · right
          have ed : ds.drop i = ds[i] :: ds.drop (i + 1) := List.drop_eq_getElem_cons hlt
          rw [ed] at ei
          simp only [cLoop] at ei
          refine ⟨W.go i H' hI' hlt, fun H2 => Inv (i + 1) H2, fun H2 q => ⟨ds.length - (i + 1), by omega, rfl, hlt, q⟩, fun x H2 hy => ?_⟩
          obtain ⟨sm, F, rF, hF⟩ := W.yld i H' x H2 ds[i] hI' (List.getElem?_eq_getElem hlt) hy
          split at ei
          · cases ei
          · rename_i ρa eg
            refine hg ρi _ ds[i] ρa eg (addF (addF T TF) (p :: G)) (wipe σ vs) H2 fpi x F ((Ri.same sm).mono fun a t => t.elim id fun z => .inl (.inr (hF a z))) ⟨rF, fun z => ?_⟩ _ fun σ3 H3 fp3 R3 P3 N3 F3 S3 => ?_
            · have := Rep.pure _ x F rF z
              subst this
              exact uq_nil
            have hw : wipe σ3 vs = wipe σ vs := by
              rw [wipe_eq S3.2 fun j hjv => S3.1 j fun z => hjv (hj j z), wipe_wipe]
            refine ⟨hw, ?_⟩
            have pF : p ∉ F := fun z => pTF (hF p z)
            have GF : ∀ a ∈ G, a ∉ F := fun a ha z => uG.2.1 a ha (.inr (hF a z))
            have pfp3 : ∀ j, p ∉ fp3 j := fun j z => (N3 j p z (.inr (by simp))).elim (pfp j) fun q => pF q.1
            have Gfp3 : ∀ j, ∀ a ∈ G, a ∉ fp3 j := fun j a ha z => (N3 j a z (.inr (List.mem_cons_of_mem _ ha))).elim (uG.2.2 j a ha) fun q => GF a ha q.1
            have P13 : Pin (addF T TF) H1 H3 := (Pi.trans (Pin.same sm)).trans (P3.mono fun a t => .inl t)
            have ep3 : H3 p = some (.lst acc) := P3 p _ (sm p _ ep) (.inl (.inr (by simp)))
            have rG3 : RepL K H3 as acc G := RepL.pin P3 as acc G (rG.same sm) fun a ha => .inr (List.mem_cons_of_mem _ ha)
            -- which slots bear what others hold, once the own ones are wiped
            have nog : ∀ fp9 : Fp, Nog T fp3 fp9 → Nog T fp1 (wipeF fp9 vs) := fun fp9 N9 j a ha t => by
              unfold wipeF at ha
              split at ha
              · cases ha
              · rename_i hjv
                exact (N3 j a (N9 j a ha t) (.inl (.inl t))).elim (fun q => Ni j a q t) fun q => absurd (hj j q.2) hjv
            have wnone : ∀ ρ9 : Env, ∀ v ∈ vs, look (wipe0 ρ9 vs) v = none := fun ρ9 v hvv => by rw [look_wipe, if_pos hvv]
            have wsub : ∀ (fp9 : Fp) j a, a ∈ wipeF fp9 vs j → a ∈ fp9 j := fun fp9 j a ha => by
              unfold wipeF at ha
              split at ha
              · cases ha
              · exact ha
            split at ei
            · cases ei
            · rename_i ρb eb
              split at ei
              · rename_i hcw
                refine ht ρa false ρb eb _ σ3 H3 fp3 R3 _ fun H4 fp4 R4 P4 N4 F4 => ?_
                rw [if_neg (by decide)]
                have R5 := R4.wipe vs
                rw [hw] at R5
                have F5 := ((Fi.trans F3).trans F4).trans (fix_wipe (σ := σ3) (fp := fp4) hcw)
                rw [hw] at F5
                refine ⟨wipe0 ρb vs, wipeF fp4 vs, acc, as, G, R5, F5, P13.trans (P4.mono fun a t => .inl t), P4 p _ ep3 (.inl (.inr (by simp))), RepL.pin P4 as acc G rG3 fun a ha => .inr (List.mem_cons_of_mem _ ha), ⟨uG.1, uG.2.1, fun j a ha z => ?_⟩, fun j z => ?_, pG, wnone ρb, nog fp4 (N4.mono fun a t => .inl (.inl t)), ei⟩
                · exact Gfp3 j a ha (N4 j a (wsub fp4 j a z) (.inr (List.mem_cons_of_mem _ ha)))
                · exact pfp3 j (N4 j p (wsub fp4 j p z) (.inr (by simp)))
              · cases ei
            · rename_i ρb eb
              split at ei
              · rename_i a ρc ec
                split at ei
                · rename_i hcw hlen
                  refine ht ρa true ρb eb _ σ3 H3 fp3 R3 _ fun H4 fp4 R4 P4 N4 F4 => ?_
                  rw [if_pos rfl]
                  refine he ρb _ ρc ec _ σ3 H4 fp4 R4 _ fun y H5 fp5 Fy R5 P5 N5 F5 r5 => ?_
                  obtain ⟨ry, uy⟩ := r5
                  obtain ⟨y1, y2, y3⟩ := uy rfl
                  have ep5 : H5 p = some (.lst acc) := P5 p _ (P4 p _ ep3 (.inl (.inr (by simp)))) (.inl (.inr (by simp)))
                  have rG5 : RepL K H5 as acc G := RepL.pin P5 as acc G (RepL.pin P4 as acc G rG3 fun a ha => .inr (List.mem_cons_of_mem _ ha)) fun a ha => .inr (List.mem_cons_of_mem _ ha)
                  have pFy : p ∉ Fy := fun z => y2 p z (.inr (by simp))
                  have pfp5 : ∀ j, p ∉ fp5 j := fun j z => pfp3 j (N4 j p (N5 j p z (.inr (by simp))) (.inr (by simp)))
                  have Gfp5 : ∀ j, ∀ a ∈ G, a ∉ fp5 j := fun j a ha z => Gfp3 j a ha (N4 j a (N5 j a z (.inr (List.mem_cons_of_mem _ ha))) (.inr (List.mem_cons_of_mem _ ha)))
                  refine ⟨acc, ep5, ?_, ?_⟩
                  · rw [← rG5.length]
                    exact Nat.lt_trans (of_decide_eq_true hlen) (by decide)
                  have R6 := (R5.updX (o' := .lst (acc ++ [y])) ep5 rfl pfp5).wipe vs
                  rw [hw] at R6
                  have F6 := (((Fi.trans F3).trans F4).trans F5).trans (fix_wipe (σ := σ3) (fp := fp5) hcw)
                  rw [hw] at F6
                  refine ⟨wipe0 ρc vs, wipeF fp5 vs, acc ++ [y], as ++ [a], G ++ Fy, R6.mono fun b t => ?_, F6, hpin ((P13.trans (P4.mono fun a t => .inl t)).trans (P5.mono fun a t => .inl t)), upd_same,
                    RepL.app (rG5.updL ep5 rfl pG) (RepL.one (ry.updL ep5 rfl pFy)), ⟨List.nodup_append.mpr ⟨uG.1, y1, fun b hb c hc e => y2 c hc (.inr (by rw [← e]; exact List.mem_cons_of_mem _ hb))⟩, fun b hb => ?_, fun j b hb z => ?_⟩, fun j z => pfp5 j (wsub fp5 j p z), fun z => ?_, wnone ρc,
                    nog fp5 ((N4.mono fun a t => .inl (.inl t)).trans (N5.mono fun a t => .inl (.inl t))), ei⟩
                  · rcases t with t | t
                    · exact .inl (.inl t)
                    · rcases List.mem_cons.mp t with rfl | t
                      · exact .inl (.inr (by simp))
                      · rcases List.mem_append.mp t with t | t
                        · exact .inl (.inr (List.mem_cons_of_mem _ t))
                        · exact .inr t
                  · rcases List.mem_append.mp hb with hb | hb
                    · exact uG.2.1 b hb
                    · exact fun t => y2 b hb (.inl t)
                  · rcases List.mem_append.mp hb with hb | hb
                    · exact Gfp5 j b hb (wsub fp5 j b z)
                    · exact y3 j b hb (wsub fp5 j b z)
                  · rcases List.mem_append.mp z with z | z
                    · exact pG z
                    · exact pFy z
                · cases ei
              · cases ei
        · left
          have ee : i = ds.length := by omega
          subst ee
          rw [List.drop_length] at ei
          cases ei
          refine ⟨W.stop H' hI', ?_⟩
          have R2 : Rel K (addF (addF T TF) (p :: G)) ρ1 σ H' fpi := Ri.other (wipe_length _ _).symm fun j e' hl => by
            rw [wipe_get]
            by_cases hjv : j ∈ vs
            · rw [vi j hjv] at hl; cases hl
            · rw [if_neg (fun z => hjv z.1)]
          have Fi2 : Fix (fzs is ρ0) σ fp1 ρ1 σ fpi := fun k fl d ek => by
            obtain ⟨q1, q2⟩ := Fi k fl d ek
            exact ⟨fun z => ⟨(q1 z).1, rfl⟩, fun z => ⟨(q2 z).1, (q2 z).2.1, rfl⟩⟩
          refine h (.ref p) H' fpi (p :: G) ((R2.mono fun a t => t.elim (fun z => .inl (.inl z)) .inr).unheld ρ0 is) (p1.trans (Pi.mono fun a t => .inl t)) (n1.trans Ni) (f1.trans Fi2.unheld) ⟨Rep.lst_of ep rG, fun _ => ⟨List.nodup_cons.mpr ⟨pG, uG.1⟩, fun a ha t => ?_, fun j a ha => ?_⟩⟩
          · rcases List.mem_cons.mp ha with rfl | ha
            · exact pT t
            · exact uG.2.1 a ha (.inl t)
          · rcases List.mem_cons.mp ha with rfl | ha
            · exact pfp j
            · exact uG.2.2 j a ha
      · cases e
    · cases e
end U

namespace U
open PySem L2

/-! ### functions: what they make of data -/
abbrev Fn := List D → Option (D × List D)
/-- lent: what a function may change -/
def Lent (ms : List Bool) (fp : Fp) (a : Addr) : Prop := ∃ i : Nat, ms[i]? = some true ∧ a ∈ fp i
/-- the promise: ms tells which arguments are lent -/
def SpF (K : PySem.W.Frag) (ms : List Bool) (f : Fn) : Sp := fun vs H Q _ =>
  ∃ (ds : List D) (r : D) (ds' : List D) (fp : Fp), f ds = some (r, ds') ∧ ds.length = ms.length ∧ vs.length = ms.length ∧
    (∀ (i : Nat) d, ds[i]? = some d → ∃ v, vs[i]? = some v ∧ Rep K H d v (fp i)) ∧ (∀ i, ms.length ≤ i → fp i = []) ∧
    (∀ i : Nat, ms[i]? = some true → (fp i).Nodup ∧ ∀ j, j ≠ i → ∀ a ∈ fp i, a ∉ fp j) ∧
    ∀ (v : V) (H' : Hp) (F : List Addr) (fp' : Fp), Pin (fun a => ¬ Lent ms fp a) H H' → Rep K H' r v F → F.Nodup → (∀ a ∈ F, H a = none ∨ Lent ms fp a) →
      (∀ i : Nat, ms[i]? = some true → ∃ d w, ds'[i]? = some d ∧ vs[i]? = some w ∧ Rep K H' d w (fp' i) ∧ (fp' i).Nodup ∧ (∀ a ∈ fp' i, H a = none ∨ Lent ms fp a) ∧ (∀ j : Nat, j ≠ i → ms[j]? = some true → ∀ a ∈ fp' i, a ∉ fp' j) ∧ ∀ a ∈ fp' i, a ∉ F) → Q v H'

def env0 : List Bool → List D → Nat → Env
  | m :: ms, d :: ds, n => some (if m then Fl.l else Fl.s, d) :: env0 ms ds n
  | _, _, n => List.replicate n none
def fin (ρ : Env) : List Bool → List D → Nat → Option (List D)
  | m :: ms, d :: ds, k => match (if m then (look ρ k).map (·.2) else some d), fin ρ ms ds (k + 1) with
    | some d', some ds' => some (d' :: ds')
    | _, _ => none
  | _, _, _ => some []
/-- a function by its body: n more slots than parameters -/
def fnOf (ms : List Bool) (n : Nat) (b : MS) : Fn := fun ds => match decide (ds.length = ms.length) with
  | true => match b (env0 ms ds n) with
    | some (.rt r ρ) => (fin ρ ms ds 0).map fun x => (r, x)
    | some (.nx ρ) => (fin ρ ms ds 0).map fun x => (.non, x)
    | _ => none
  | false => none
theorem look_env0 (n : Nat) : ∀ (ms : List Bool) (ds : List D) (i : Nat), ds.length = ms.length → look (env0 ms ds n) i = match ms[i]?, ds[i]? with
    | some m, some d => some (if m then Fl.l else Fl.s, d)
    | _, _ => none
  | [], [], i, _ => by
    show ((List.replicate n none)[i]?).join = _
    rw [List.getElem?_replicate]
    split <;> rfl
  | m :: ms, d :: ds, 0, _ => rfl
  | m :: ms, d :: ds, i + 1, h => by
    have ih := look_env0 n ms ds i (by simpa using h)
    have : look (env0 (m :: ms) (d :: ds) n) (i + 1) = look (env0 ms ds n) i := rfl
    rw [this, ih]
    rfl
  | [], _ :: _, _, h => by simp at h
  | _ :: _, [], _, h => by simp at h
theorem env0_len (n : Nat) : ∀ (ms : List Bool) (ds : List D), ds.length = ms.length → (env0 ms ds n).length = ms.length + n
  | [], [], _ => by simp [env0]
  | m :: ms, d :: ds, h => by
    have := env0_len n ms ds (by simpa using h)
    simp [env0, this]; omega
  | [], _ :: _, h => by simp at h
  | _ :: _, [], h => by simp at h
theorem fin_get {ρ : Env} : ∀ {ms : List Bool} {ds ds' : List D} {k i : Nat}, fin ρ ms ds k = some ds' → ds.length = ms.length → ms[i]? = some true → ∃ d, ds'[i]? = some d ∧ (look ρ (k + i)).map (·.2) = some d
  | [], ds, ds', k, i, h, hl, hm => by simp at hm
  | m :: ms, [], ds', k, i, h, hl, hm => by simp at hl
  | m :: ms, d :: ds, ds', k, i, h, hl, hm => by
    simp only [fin] at h
    split at h
    · rename_i d' ds'' h1 h2
      cases h
      cases i with
      | zero =>
        cases hm
        exact ⟨d', rfl, by simpa using h1⟩
      | succ i =>
        obtain ⟨e, e1, e2⟩ := fin_get (k := k + 1) (i := i) h2 (by simpa using hl) (by simpa using hm)
        exact ⟨e, by simpa using e1, by rw [← e2]; congr 2; omega⟩
    · cases h
theorem fn_walk {K : PySem.W.Frag} {t : TS} {b : MS} {ms : List Bool} {n : Nat} {N : List Str} (hb : SS K t b) (hN : N.length = ms.length + n) (vs : List V) (H : Hp) (Q : VK) (E : XK) (h : SpF K ms (fnOf ms n b) vs H Q E) :
    t { nx := fun _ H' => Q .non H', rt := Q } (L2.start N vs) H := by
  obtain ⟨ds, r, ds', fp, e, hd, hv, hr, hn, hl, q⟩ := h
  unfold fnOf at e
  rw [decide_eq_true hd] at e
  dsimp only at e
  have hst : ∀ (i : Nat) v, vs[i]? = some v → (L2.start N vs)[i]? = some (some v) := fun i v hi => by
    unfold L2.start
    rw [List.getElem?_append_left (by rw [List.length_map]; exact (List.getElem?_eq_some_iff.mp hi).1), List.getElem?_map, hi]
    rfl
  have look0 : ∀ i fl d, look (env0 ms ds n) i = some (fl, d) → ds[i]? = some d ∧ ∃ m, ms[i]? = some m ∧ fl = if m then Fl.l else Fl.s := fun i fl d el => by
    rw [look_env0 n ms ds i hd] at el
    split at el
    · rename_i m d' h1 h2
      cases el
      exact ⟨h2, m, h1, rfl⟩
    · cases el
  have R : Rel K (fun a => H a ≠ none ∧ ¬ Lent ms fp a) (env0 ms ds n) (L2.start N vs) H fp := by
    refine ⟨?_, fun i fl d el => ?_, fun i el => ?_, fun i fl d el u => ?_, fun a t => t.1⟩
    · rw [env0_len n ms ds hd]
      unfold L2.start
      rw [List.length_append, List.length_map, List.length_replicate, hN, hv]
      omega
    · obtain ⟨h1, _⟩ := look0 i fl d el
      obtain ⟨v, h2, h3⟩ := hr i d h1
      exact ⟨v, hst i v h2, h3⟩
    · by_cases hi : i < ms.length
      · rw [look_env0 n ms ds i hd, List.getElem?_eq_getElem hi, List.getElem?_eq_getElem (by rw [hd]; exact hi)] at el
        cases el
      · exact hn i (Nat.le_of_not_lt hi)
    · obtain ⟨h1, m, h2, rfl⟩ := look0 i fl d el
      cases m with
      | false => cases u
      | true =>
        obtain ⟨a1, a2⟩ := hl i h2
        exact ⟨a1, fun a ha t => t.2 ⟨i, h2, ha⟩, a2⟩
  -- what stands behind the body
  have fini : ∀ (ρ : Env) (x : List D) (v : V) (σ' : L2.St) (H' : Hp) (fp' : Fp) (F : List Addr) (r : D), fin ρ ms ds 0 = some x → x = ds' → Rel K (addF (fun a => H a ≠ none ∧ ¬ Lent ms fp a) F) ρ σ' H' fp' → Pin (fun a => H a ≠ none ∧ ¬ Lent ms fp a) H H' → Fix (env0 ms ds n) (L2.start N vs) fp ρ σ' fp' → OR K (fun a => H a ≠ none ∧ ¬ Lent ms fp a) σ' H' fp' (.tm true r) v F →
      (Pin (fun a => ¬ Lent ms fp a) H H' → Rep K H' r v F → F.Nodup → (∀ a ∈ F, H a = none ∨ Lent ms fp a) →
      (∀ i : Nat, ms[i]? = some true → ∃ d w, ds'[i]? = some d ∧ vs[i]? = some w ∧ Rep K H' d w (fp' i) ∧ (fp' i).Nodup ∧ (∀ a ∈ fp' i, H a = none ∨ Lent ms fp a) ∧ (∀ j : Nat, j ≠ i → ms[j]? = some true → ∀ a ∈ fp' i, a ∉ fp' j) ∧ ∀ a ∈ fp' i, a ∉ F) → Q v H') → Q v H' := by
    intro ρ x v σ' H' fp' F r ef ex R' P' F' r' go
    subst ex
    obtain ⟨rr, ru⟩ := r'
    obtain ⟨u1, u2, u3⟩ := ru rfl
    have out : ∀ a, ¬ (H a ≠ none ∧ ¬ Lent ms fp a) → H a = none ∨ Lent ms fp a := fun a ha => by
      by_cases h1 : H a = none
      · exact .inl h1
      · exact .inr (Classical.byContradiction fun h2 => ha ⟨h1, h2⟩)
    refine go (fun a o ea c => P' a o ea (c.imp (fun z => ⟨by rw [ea]; exact (fun z => nomatch z), z⟩) id)) rr u1 (fun a ha => out a (u2 a ha)) fun i hi => ?_
    obtain ⟨d, e1, e2⟩ := fin_get (i := i) ef hd hi
    rw [Nat.zero_add] at e2
    have hil : i < ms.length := (List.getElem?_eq_some_iff.mp hi).1
    obtain ⟨d0, hd0⟩ : ∃ d0, ds[i]? = some d0 := ⟨ds[i]'(by rw [hd]; exact hil), List.getElem?_eq_getElem _⟩
    have l0 : look (env0 ms ds n) i = some (.l, d0) := by rw [look_env0 n ms ds i hd, hi, hd0]; rfl
    obtain ⟨⟨d1, l1⟩, s1⟩ := (F' i _ _ l0).1 rfl
    rw [l1] at e2
    cases e2
    obtain ⟨w, h2, _⟩ := hr i d0 hd0
    have sv : σ'[i]? = some (some w) := by rw [s1]; exact hst i w h2
    obtain ⟨n1, n2, n3⟩ := R'.nod i _ _ l1 rfl
    exact ⟨d1, w, e1, h2, R'.at_ l1 sv, n1, fun a ha => out a fun t => n2 a ha (.inl t), fun j hj _ a ha => n3 j hj a ha, fun a ha hF => n2 a ha (.inr hF)⟩
  split at e
  · rename_i r1 ρ eb
    simp only [Option.map_eq_some_iff] at e
    obtain ⟨x, ef, e⟩ := e
    cases e
    exact hb _ _ eb _ _ H fp _ R fun v σ' H' fp' F R' P' F' r' => fini ρ _ v σ' H' fp' F r ef rfl R' P' F' r' (q v H' F fp')
  · rename_i ρ eb
    simp only [Option.map_eq_some_iff] at e
    obtain ⟨x, ef, e⟩ := e
    cases e
    refine hb _ _ eb _ _ H fp _ R fun σ' H' fp' R' P' F' => ?_
    obtain ⟨R2, r2⟩ := R'.new (d := .non) (v := .non) (New.nil H') (by simp [Rep])
    exact fini ρ _ .non σ' H' fp' [] .non ef rfl R2 P' F' r2 (q .non H' [] fp')
  · cases e

/-! ### a call -/
def slots : List Opd → List Nat
  | [] => []
  | .sl i :: os => i :: slots os
  | .tm _ _ :: os => slots os
/-- what is lent is a slot that may be changed, and is handed in once -/
def lentOk (ρ : Env) (all : List Nat) : List Bool → List Opd → Bool
  | true :: ms, .sl i :: os => (match look ρ i with
    | some (fl, _) => fl.mu
    | none => false) && decide (all.count i = 1) && lentOk ρ all ms os
  | true :: _, _ => false
  | false :: ms, _ :: os => lentOk ρ all ms os
  | [], [] => true
  | _, _ => false
def putBack : List Bool → List Opd → List D → Env → Env
  | true :: ms, .sl i :: os, d :: ds, ρ => match look ρ i with
    | some (fl, _) => (putBack ms os ds ρ).set i (some (fl, d))
    | none => putBack ms os ds ρ
  | _ :: ms, _ :: os, _ :: ds, ρ => putBack ms os ds ρ
  | _, _, _, ρ => ρ
def mCall (ms : List Bool) (f : Fn) (ma : MA) : M := fun ρ => match ma ρ with
  | none => none
  | some (os, ρ1) => match opDs ρ1 os, lentOk ρ1 (slots os) ms os with
    | some ds, true => match f ds with
      | some (r, ds') => match decide (ds'.length = ms.length) with
        | true => some (.tm true r, putBack ms os ds' ρ1)
        | false => none
      | none => none
    | _, _ => none
theorem lentOk_len {ρ : Env} {all : List Nat} : ∀ {ms : List Bool} {os : List Opd}, lentOk ρ all ms os = true → os.length = ms.length
  | [], [], _ => rfl
  | true :: ms, .sl i :: os, h => by
    simp only [lentOk, Bool.and_eq_true] at h
    simp [lentOk_len h.2]
  | true :: ms, .tm _ _ :: os, h => by simp [lentOk] at h
  | false :: ms, _ :: os, h => by
    simp only [lentOk] at h
    simp [lentOk_len h]
  | [], _ :: _, h => by simp [lentOk] at h
  | true :: _, [], h => by simp [lentOk] at h
  | false :: _, [], h => by simp [lentOk] at h
theorem lentOk_at {ρ : Env} {all : List Nat} : ∀ {ms : List Bool} {os : List Opd} {k : Nat}, lentOk ρ all ms os = true → ms[k]? = some true → ∃ i fl d, os[k]? = some (.sl i) ∧ look ρ i = some (fl, d) ∧ fl.mu = true ∧ all.count i = 1
  | [], os, k, h, e => by simp at e
  | true :: ms, .sl i :: os, 0, h, e => by
    simp only [lentOk, Bool.and_eq_true, decide_eq_true_eq] at h
    obtain ⟨⟨h1, h2⟩, _⟩ := h
    split at h1
    · rename_i fl d hl
      exact ⟨i, fl, d, rfl, hl, h1, h2⟩
    · cases h1
  | true :: ms, .sl i :: os, k + 1, h, e => by
    simp only [lentOk, Bool.and_eq_true] at h
    obtain ⟨i', fl, d, a, b⟩ := lentOk_at (k := k) h.2 (by simpa using e)
    exact ⟨i', fl, d, by simpa using a, b⟩
  | true :: ms, .tm _ _ :: os, k, h, e => by simp [lentOk] at h
  | true :: ms, [], k, h, e => by simp [lentOk] at h
  | false :: ms, [], k, h, e => by simp [lentOk] at h
  | false :: ms, o :: os, 0, h, e => by simp at e
  | false :: ms, o :: os, k + 1, h, e => by
    simp only [lentOk] at h
    obtain ⟨i', fl, d, a, b⟩ := lentOk_at (k := k) h (by simpa using e)
    exact ⟨i', fl, d, by simpa using a, b⟩
theorem slots_mem {i : Nat} : ∀ {os : List Opd} {k : Nat}, os[k]? = some (.sl i) → i ∈ slots os
  | [], k, h => by simp at h
  | .sl j :: os, 0, h => by simp at h; subst h; simp [slots]
  | .sl j :: os, k + 1, h => by simp only [slots]; exact List.mem_cons_of_mem _ (slots_mem (k := k) (by simpa using h))
  | .tm u d :: os, 0, h => by simp at h
  | .tm u d :: os, k + 1, h => by simp only [slots]; exact slots_mem (k := k) (by simpa using h)
theorem slots_once {i : Nat} : ∀ {os : List Opd} {k l : Nat}, (slots os).count i = 1 → os[k]? = some (.sl i) → os[l]? = some (.sl i) → k = l
  | [], k, l, c, h1, h2 => by simp at h1
  | .sl j :: os, 0, 0, c, h1, h2 => rfl
  | .sl j :: os, 0, l + 1, c, h1, h2 => by
    simp at h1; subst h1
    simp only [slots, List.count_cons_self] at c
    have := List.count_pos_iff.mpr (slots_mem (k := l) (by simpa using h2))
    omega
  | .sl j :: os, k + 1, 0, c, h1, h2 => by
    simp at h2; subst h2
    simp only [slots, List.count_cons_self] at c
    have := List.count_pos_iff.mpr (slots_mem (k := k) (by simpa using h1))
    omega
  | .sl j :: os, k + 1, l + 1, c, h1, h2 => by
    have m := List.count_pos_iff.mpr (slots_mem (k := k) (by simpa using h1))
    simp only [slots, List.count_cons] at c
    have : (slots os).count i = 1 := by split at c <;> omega
    rw [slots_once (k := k) (l := l) this (by simpa using h1) (by simpa using h2)]
  | .tm u d :: os, 0, l, c, h1, h2 => by simp at h1
  | .tm u d :: os, k + 1, 0, c, h1, h2 => by simp at h2
  | .tm u d :: os, k + 1, l + 1, c, h1, h2 => by
    simp only [slots] at c
    rw [slots_once (k := k) (l := l) c (by simpa using h1) (by simpa using h2)]
theorem putBack_len (ρ : Env) : ∀ (ms : List Bool) (os : List Opd) (ds : List D), (putBack ms os ds ρ).length = ρ.length
  | true :: ms, .sl i :: os, d :: ds => by
    simp only [putBack]
    split
    · rw [List.length_set]; exact putBack_len ρ ms os ds
    · exact putBack_len ρ ms os ds
  | true :: ms, .tm _ _ :: os, d :: ds => by simp only [putBack]; exact putBack_len ρ ms os ds
  | false :: ms, o :: os, d :: ds => by simp only [putBack]; exact putBack_len ρ ms os ds
  | [], _, _ => by simp [putBack]
  | true :: ms, [], _ => by simp [putBack]
  | false :: ms, [], _ => by simp [putBack]
  | true :: ms, .sl i :: os, [] => by simp [putBack]
  | true :: ms, .tm _ _ :: os, [] => by simp [putBack]
  | false :: ms, o :: os, [] => by simp [putBack]
/-- slots that are not lent stay -/
theorem putBack_other {ρ : Env} {j : Nat} : ∀ {ms : List Bool} {os : List Opd} {ds : List D}, (∀ k : Nat, ms[k]? = some true → os[k]? ≠ some (.sl j)) → look (putBack ms os ds ρ) j = look ρ j
  | true :: ms, .sl i :: os, d :: ds, h => by
    have ih := putBack_other (ρ := ρ) (ds := ds) (j := j) (ms := ms) (os := os) fun k hk => by simpa using h (k + 1) (by simpa using hk)
    have ne : j ≠ i := fun z => h 0 rfl (by subst z; rfl)
    simp only [putBack]
    split
    · rw [look_set_ne ne]; exact ih
    · exact ih
  | true :: ms, .tm _ _ :: os, d :: ds, h => by
    simp only [putBack]
    exact putBack_other fun k hk => by simpa using h (k + 1) (by simpa using hk)
  | false :: ms, o :: os, d :: ds, h => by
    simp only [putBack]
    exact putBack_other fun k hk => by simpa using h (k + 1) (by simpa using hk)
  | [], _, _, h => by simp [putBack]
  | true :: ms, [], _, h => by simp [putBack]
  | false :: ms, [], _, h => by simp [putBack]
  | true :: ms, .sl i :: os, [], h => by simp [putBack]
  | true :: ms, .tm _ _ :: os, [], h => by simp [putBack]
  | false :: ms, o :: os, [], h => by simp [putBack]
theorem putBack_at {ρ : Env} {j : Nat} {fl : Fl} {d0 d' : D} (hl : look ρ j = some (fl, d0)) : ∀ {ms : List Bool} {os : List Opd} {ds : List D} {k : Nat}, (slots os).count j = 1 → ms[k]? = some true → os[k]? = some (.sl j) → ds[k]? = some d' → look (putBack ms os ds ρ) j = some (fl, d')
  | true :: ms, .sl i :: os, d :: ds, 0, c, h1, h2, h3 => by
    cases h2; cases h3
    simp only [putBack, hl]
    exact look_set_self (by rw [putBack_len]; exact look_lt hl)
  | true :: ms, .sl i :: os, d :: ds, k + 1, c, h1, h2, h3 => by
    have ne : j ≠ i := fun z => by
      subst z
      exact absurd (slots_once (k := 0) (l := k + 1) c rfl h2) (by omega)
    have c' : (slots os).count j = 1 := by
      simp only [slots, List.count_cons] at c
      have m := List.count_pos_iff.mpr (slots_mem (k := k) (by simpa using h2))
      split at c <;> omega
    have ih := putBack_at hl (k := k) (ds := ds) c' (by simpa using h1) (by simpa using h2) (by simpa using h3)
    simp only [putBack]
    split
    · rw [look_set_ne ne]; exact ih
    · exact ih
  | true :: ms, .tm u x :: os, d :: ds, 0, c, h1, h2, h3 => by cases h2
  | true :: ms, .tm u x :: os, d :: ds, k + 1, c, h1, h2, h3 => by
    simp only [putBack]
    exact putBack_at hl (k := k) (by simpa [slots] using c) (by simpa using h1) (by simpa using h2) (by simpa using h3)
  | false :: ms, o :: os, d :: ds, 0, c, h1, h2, h3 => by cases h1
  | false :: ms, o :: os, d :: ds, k + 1, c, h1, h2, h3 => by
    simp only [putBack]
    refine putBack_at hl (k := k) ?_ (by simpa using h1) (by simpa using h2) (by simpa using h3)
    have m := List.count_pos_iff.mpr (slots_mem (k := k) (i := j) (by simpa using h2))
    cases o with
    | sl i => simp only [slots, List.count_cons] at c; split at c <;> omega
    | tm u x => simpa [slots] using c
  | [], _, _, k, c, h1, h2, h3 => by simp at h1
  | _ :: ms, [], _, k, c, h1, h2, h3 => by simp at h2
  | _ :: ms, _ :: os, [], k, c, h1, h2, h3 => by simp at h3
theorem opDs_get {ρ : Env} : ∀ {os : List Opd} {ds : List D} {k : Nat}, opDs ρ os = some ds → (∀ d, ds[k]? = some d → ∃ o, os[k]? = some o ∧ opD ρ o = some d) ∧ ds.length = os.length
  | [], ds, k, h => by cases h; exact ⟨fun d e => by simp at e, rfl⟩
  | o :: os, ds, k, h => by
    simp only [opDs, Option.bind_eq_bind, Option.bind_eq_some_iff] at h
    obtain ⟨d, e1, ds', e2, e⟩ := h
    cases e
    refine ⟨fun d' e => ?_, by simp [(opDs_get (k := 0) e2).2]⟩
    cases k with
    | zero => cases e; exact ⟨o, rfl, e1⟩
    | succ k => exact (opDs_get (k := k) e2).1 d' (by simpa using e)
theorem ORs.get {K : PySem.W.Frag} {σ : L2.St} {H : Hp} {fp : Fp} : ∀ {os : List Opd} {T : Addr → Prop} {vs : List V} {G : List Addr} {k : Nat} {o : Opd}, ORs K σ H fp T os vs G → os[k]? = some o → ∃ v F T', vs[k]? = some v ∧ OR K T' σ H fp o v F ∧ ∀ a ∈ F, a ∈ G
  | [], T, vs, G, k, o, h, e => by simp at e
  | o0 :: os, T, vs, G, 0, o, h, e => by
    cases e
    obtain ⟨v, ws, F, G', rfl, rfl, r, rs⟩ := h
    exact ⟨v, F, T, rfl, r, fun a ha => List.mem_append_left _ ha⟩
  | o0 :: os, T, vs, G, k + 1, o, h, e => by
    obtain ⟨v, ws, F, G', rfl, rfl, r, rs⟩ := h
    obtain ⟨w, F', T', a, b, c⟩ := ORs.get (k := k) rs (by simpa using e)
    exact ⟨w, F', T', by simpa using a, b, fun x hx => List.mem_append_right _ (c x hx)⟩
theorem ORs.len {K : PySem.W.Frag} {σ : L2.St} {H : Hp} {fp : Fp} : ∀ {os : List Opd} {T : Addr → Prop} {vs : List V} {G : List Addr}, ORs K σ H fp T os vs G → vs.length = os.length
  | [], T, vs, G, h => by rw [h.1]; rfl
  | o0 :: os, T, vs, G, h => by
    obtain ⟨v, ws, F, G', rfl, rfl, r, rs⟩ := h
    simp [ORs.len rs]
theorem so_call {K : PySem.W.Frag} {ms : List Bool} {f : Fn} {ta : TA} {ma : MA} {E : XK} (ha : SA K ta ma) : SO K (tCall (SpF K ms f) [] E ta) (mCall ms f ma) := by
  intro ρ o ρ' e T σ H fp R Q h
  unfold mCall at e
  split at e
  · cases e
  · rename_i os ρ1 e1
    split at e
    · rename_i ds e2 hlo
      split at e
      · rename_i r ds' e3
        split at e
        · rename_i hlen
          cases e
          have hlen' : ds'.length = ms.length := of_decide_eq_true hlen
          refine ha ρ os ρ1 e1 T σ H fp R _ fun vs H1 fp1 G R1 p1 n1 f1 r1 => ?_
          have lo := lentOk_len hlo
          have ld := (opDs_get (k := 0) e2).2
          have lv := r1.len
          -- the footprint of the k-th argument
          have hA : ∀ k : Nat, ∃ F : List Addr, (∀ d, ds[k]? = some d → ∃ v, vs[k]? = some v ∧ Rep K H1 d v F) ∧ (os.length ≤ k → F = []) ∧ (∀ i, os[k]? = some (.sl i) → F = fp1 i ∧ vs[k]? = (σ[i]?).join) ∧ (∀ u d, os[k]? = some (.tm u d) → ∀ a ∈ F, a ∈ G) := by
            intro k
            cases q : os[k]? with
            | none =>
              have hk : os.length ≤ k := List.getElem?_eq_none_iff.mp q
              exact ⟨[], (fun d ed => by rw [List.getElem?_eq_none (by omega)] at ed; cases ed), fun _ => rfl, (fun _ z => nomatch z), (fun _ _ z => nomatch z)⟩
            | some o =>
              have hk : k < os.length := (List.getElem?_eq_some_iff.mp q).1
              obtain ⟨v, F, T', ev, ro, hF⟩ := r1.get q
              cases o with
              | sl i =>
                refine ⟨fp1 i, fun d ed => ?_, fun z => by omega, fun i' z => by cases z; exact ⟨rfl, by rw [ev, ro.1]; rfl⟩, (fun _ _ z => nomatch z)⟩
                obtain ⟨o', eo, ed'⟩ := (opDs_get (k := k) e2).1 d ed
                rw [q] at eo; cases eo
                simp only [opD] at ed'
                cases ql : look ρ1 i with
                | none => rw [ql] at ed'; cases ed'
                | some x =>
                  rw [ql] at ed'
                  cases ed'
                  exact ⟨v, ev, R1.at_ ql ro.1⟩
              | tm u d0 =>
                refine ⟨F, fun d ed => ?_, fun z => by omega, (fun _ z => nomatch z), fun _ _ _ => hF⟩
                obtain ⟨o', eo, ed'⟩ := (opDs_get (k := k) e2).1 d ed
                rw [q] at eo; cases eo
                cases ed'
                exact ⟨v, ev, ro.1⟩
          obtain ⟨fpA, hA'⟩ := Classical.axiomOfChoice hA
          have fpSl : ∀ k i, os[k]? = some (.sl i) → fpA k = fp1 i := fun k i z => ((hA' k).2.2.1 i z).1
          -- a lent one
          have lent : ∀ k : Nat, ms[k]? = some true → ∃ i fl d, os[k]? = some (.sl i) ∧ look ρ1 i = some (fl, d) ∧ fl.mu = true ∧ (slots os).count i = 1 := fun k hk => lentOk_at hlo hk
          have lentA : ∀ a, Lent ms fpA a ↔ ∃ (k i : Nat), ms[k]? = some true ∧ os[k]? = some (Opd.sl i) ∧ a ∈ fp1 i := fun a => ⟨fun ⟨k, hk, hak⟩ => by
            obtain ⟨i, fl, d, q1, _⟩ := lent k hk
            exact ⟨k, i, hk, q1, by rw [← fpSl k i q1]; exact hak⟩, fun ⟨k, i, hk, q1, hai⟩ => ⟨k, hk, by rw [fpSl k i q1]; exact hai⟩⟩
          have lentT : ∀ a, Lent ms fpA a → ¬ addF T G a := fun a hl t => by
            obtain ⟨k, i, hk, q1, hai⟩ := (lentA a).mp hl
            obtain ⟨i', fl, d, q2, q3, q4, _⟩ := lent k hk
            rw [q1] at q2; cases q2
            exact (R1.nod i fl d q3 (mu_uq q4)).2.1 a hai t
          refine ⟨ds, r, ds', fpA, e3, by omega, by simp; omega, fun k d ed => ?_, fun k hk => (hA' k).2.1 (by omega), fun k hk => ?_, ?_⟩
          · obtain ⟨v, ev, rv⟩ := (hA' k).1 d ed
            exact ⟨v, by simpa using ev, rv⟩
          · obtain ⟨i, fl, d, q1, q2, q3, q4⟩ := lent k hk
            obtain ⟨a1, a2, a3⟩ := R1.nod i fl d q2 (mu_uq q3)
            rw [fpSl k i q1]
            refine ⟨a1, fun l hl a hai hal => ?_⟩
            cases ql : os[l]? with
            | none =>
              rw [(hA' l).2.1 (List.getElem?_eq_none_iff.mp ql)] at hal
              cases hal
            | some o =>
              cases o with
              | sl j =>
                rw [fpSl l j ql] at hal
                have : j ≠ i := fun z => hl (by subst z; exact slots_once q4 ql q1)
                exact a3 j this a hai hal
              | tm u dd => exact a2 a hai (.inr ((hA' l).2.2.2 u dd ql a hal))
          intro v H' F fp' P' rr nF hF hL
          -- slots behind the call
          have isL : ∀ j, (∃ k : Nat, ms[k]? = some true ∧ os[k]? = some (.sl j)) ∨ ∀ k : Nat, ms[k]? = some true → os[k]? ≠ some (.sl j) := fun j => by
            by_cases z : ∃ k : Nat, ms[k]? = some true ∧ os[k]? = some (.sl j)
            · exact .inl z
            · exact .inr fun k hk he => z ⟨k, hk, he⟩
          have hB : ∀ j : Nat, ∃ F2 : List Addr, (∀ k : Nat, ms[k]? = some true → os[k]? = some (.sl j) → F2 = fp' k) ∧ ((∀ k : Nat, ms[k]? = some true → os[k]? ≠ some (.sl j)) → F2 = fp1 j) := fun j => by
            rcases isL j with ⟨k, hk, he⟩ | z
            · refine ⟨fp' k, fun l hl he' => ?_, fun z => absurd he (z k hk)⟩
              obtain ⟨i, fl, d, q1, q2, q3, q4⟩ := lent k hk
              rw [he] at q1; cases q1
              rw [slots_once q4 he he']
            · exact ⟨fp1 j, fun k hk he => absurd he (z k hk), fun _ => rfl⟩
          obtain ⟨fp2, hB'⟩ := Classical.axiomOfChoice hB
          have al1 : ∀ j a, a ∈ fp1 j → H1 a ≠ none := fun j a ha hn => R1.fresh hn j ha
          -- a cell that was there and came into a lent one, or out, was lent
          have was : ∀ a, (H1 a = none ∨ Lent ms fpA a) → ∀ j, a ∈ fp1 j → ∃ (k i : Nat) (fl : Fl) (d : D), ms[k]? = some true ∧ os[k]? = some (Opd.sl i) ∧ look ρ1 i = some (fl, d) ∧ fl.mu = true ∧ a ∈ fp1 i := fun a hz j haj => by
            rcases hz with hz | hz
            · exact absurd hz (al1 j a haj)
            · obtain ⟨k, i, hk, q1, hai⟩ := (lentA a).mp hz
              obtain ⟨i', fl, d, q2, q3, q4, _⟩ := lent k hk
              rw [q1] at q2; cases q2
              exact ⟨k, i, fl, d, hk, q1, q3, q4, hai⟩
          have nT : ∀ a, (H1 a = none ∨ Lent ms fpA a) → ¬ addF T G a := fun a hz t => hz.elim (R1.tal a t) fun z => lentT a z t
          have pinT : Pin (addF T G) H1 H' := fun a o ea c => P' a o ea (c.imp (fun t z => lentT a z t) id)
          have notL : ∀ j, (∀ k : Nat, ms[k]? = some true → os[k]? ≠ some (.sl j)) → ∀ a ∈ fp1 j, ¬ Lent ms fpA a := fun j z a ha hl => by
            obtain ⟨k, i, fl, d, hk, q1, q2, q3, hai⟩ := was a (.inr hl) j ha
            have ne : j ≠ i := fun e => z k hk (by rw [e]; exact q1)
            exact (R1.nod i fl d q2 (mu_uq q3)).2.2 j ne a hai ha
          have R2 : Rel K T (putBack ms os ds' ρ1) σ H' fp2 := by
            refine ⟨by rw [putBack_len]; exact R1.len, fun j fl d el => ?_, fun j el => ?_, fun j fl d el u => ?_, fun a t hn => ?_⟩
            · rcases isL j with ⟨k, hk, he⟩ | z
              · obtain ⟨i, fl0, d0, q1, q2, q3, q4⟩ := lent k hk
                rw [he] at q1; cases q1
                obtain ⟨dk, w, b1, b2, b3, _⟩ := hL k hk
                rw [putBack_at q2 q4 hk he b1] at el
                cases el
                rw [(hB' j).1 k hk he]
                refine ⟨w, ?_, b3⟩
                have := ((hA' k).2.2.1 j he).2
                simp only [List.append_nil] at b2
                rw [b2] at this
                cases qs : σ[j]? with
                | none => rw [qs] at this; cases this
                | some x => rw [qs] at this; cases x with
                  | none => cases this
                  | some y => cases this; rfl
              · rw [putBack_other z] at el
                rw [(hB' j).2 z]
                obtain ⟨w, b1, b2⟩ := R1.rep j fl d el
                exact ⟨w, b1, Rep.pin P' d w _ b2 (notL j z)⟩
            · rcases isL j with ⟨k, hk, he⟩ | z
              · obtain ⟨i, fl0, d0, q1, q2, q3, q4⟩ := lent k hk
                rw [he] at q1; cases q1
                obtain ⟨dk, w, b1, b2, b3, _⟩ := hL k hk
                rw [putBack_at q2 q4 hk he b1] at el
                cases el
              · rw [putBack_other z] at el
                rw [(hB' j).2 z]
                exact R1.nil j el
            · rcases isL j with ⟨k, hk, he⟩ | z
              · obtain ⟨dk, w, b1, b2, b3, b4, b5, b6, b7⟩ := hL k hk
                rw [(hB' j).1 k hk he]
                refine ⟨b4, fun a ha t => nT a (b5 a ha) (.inl t), fun l hl a ha hal => ?_⟩
                rcases isL l with ⟨k2, hk2, he2⟩ | z2
                · rw [(hB' l).1 k2 hk2 he2] at hal
                  have : k2 ≠ k := fun e => hl (by rw [e, he] at he2; cases he2; rfl)
                  exact b6 k2 this hk2 a ha hal
                · rw [(hB' l).2 z2] at hal
                  rcases b5 a ha with q | q
                  · exact al1 l a hal q
                  · exact notL l z2 a hal q
              · rw [putBack_other z] at el
                obtain ⟨a1, a2, a3⟩ := R1.nod j fl d el u
                rw [(hB' j).2 z]
                refine ⟨a1, fun a ha t => a2 a ha (.inl t), fun l hl a ha hal => ?_⟩
                rcases isL l with ⟨k2, hk2, he2⟩ | z2
                · rw [(hB' l).1 k2 hk2 he2] at hal
                  obtain ⟨dk, w, b1, b2, b3, b4, b5, b6, b7⟩ := hL k2 hk2
                  rcases b5 a hal with q | q
                  · exact al1 j a ha q
                  · exact notL j z a ha q
                · rw [(hB' l).2 z2] at hal
                  exact a3 l hl a ha hal
            · cases q : H1 a with
              | none => exact R1.tal a (.inl t) q
              | some o => rw [pinT a o q (.inl (.inl t))] at hn; cases hn
          have Ffp : ∀ j, ∀ a ∈ F, a ∉ fp2 j := fun j a ha hj => by
            rcases isL j with ⟨k, hk, he⟩ | z
            · rw [(hB' j).1 k hk he] at hj
              obtain ⟨dk, w, b1, b2, b3, b4, b5, b6, b7⟩ := hL k hk
              exact b7 a hj ha
            · rw [(hB' j).2 z] at hj
              rcases hF a ha with q | q
              · exact al1 j a hj q
              · exact notL j z a hj q
          refine h v H' fp2 F (R2.pinF (fun a ha => rr.fresh ha) fun a ha j fl d _ _ hj => Ffp j a ha hj) (p1.trans (pinT.mono fun a t => .inl t)) (n1.trans fun j a ha t => ?_) (f1.trans fun j fl d el => ?_) ⟨rr, fun _ => ⟨nF, fun a ha t => nT a (hF a ha) (.inl t), Ffp⟩⟩
          · rcases isL j with ⟨k, hk, he⟩ | z
            · rw [(hB' j).1 k hk he] at ha
              obtain ⟨dk, w, b1, b2, b3, b4, b5, b6, b7⟩ := hL k hk
              exact absurd (.inl t) (nT a (b5 a ha))
            · rw [(hB' j).2 z] at ha
              exact ha
          · rcases isL j with ⟨k, hk, he⟩ | z
            · obtain ⟨i, fl0, d0, q1, q2, q3, q4⟩ := lent k hk
              rw [he] at q1; cases q1
              rw [el] at q2; cases q2
              obtain ⟨dk, w, b1, b2, b3, _⟩ := hL k hk
              have := putBack_at el q4 hk he b1
              exact ⟨fun z => ⟨⟨dk, by rw [this, z]⟩, rfl⟩, fun z => (mu_kp q3 z).elim⟩
            · have e1 := putBack_other (ρ := ρ1) (ds := ds') z
              exact ⟨fun y => ⟨⟨d, by rw [e1, el, y]⟩, rfl⟩, fun y => ⟨by rw [e1, el], (hB' j).2 z, rfl⟩⟩
        · cases e
      · cases e
    · cases e
end U

namespace U
open PySem L2

/-! ### ints -/
section
variable {K : PySem.W.Frag}
theorem rop_I {C : Int → Int → Prop} {g : Int → Int → D} {gv : Int → Int → V} {f : D → D → Option D} (hf : ∀ d1 d2 d, f d1 d2 = some d → ∃ i j, d1 = .int i ∧ d2 = .int j ∧ C i j ∧ d = g i j) (hg : ∀ i j H, Rep K H (g i j) (gv i j) []) : ROp K (rI C gv) f := by
  intro d1 d2 d e H v w F G r1 r2 Q h
  obtain ⟨i, j, rfl, rfl, c, rfl⟩ := hf d1 d2 d e
  simp only [Rep] at r1 r2
  exact ⟨i, j, r1.1, r2.1, c, h _ H [] (New.nil H) (hg i j H)⟩
theorem rop_I0 {g : Int → Int → D} {gv : Int → Int → V} {f : D → D → Option D} (hf : ∀ d1 d2 d, f d1 d2 = some d → ∃ i j, d1 = .int i ∧ d2 = .int j ∧ d = g i j) (hg : ∀ i j H, Rep K H (g i j) (gv i j) []) : ROp K (rI0 gv) f := by
  intro d1 d2 d e H v w F G r1 r2 Q h
  obtain ⟨i, j, rfl, rfl, rfl⟩ := hf d1 d2 d e
  simp only [Rep] at r1 r2
  exact ⟨i, j, r1.1, r2.1, h _ H [] (New.nil H) (hg i j H)⟩
def i2 (g : Int → Int → D) : D → D → Option D
  | .int i, .int j => some (g i j)
  | _, _ => none
def i2c (c : Int → Int → Bool) (g : Int → Int → D) : D → D → Option D
  | .int i, .int j => match c i j with
    | true => some (g i j)
    | false => none
  | _, _ => none
theorem i2_some {g : Int → Int → D} : ∀ d1 d2 d, i2 g d1 d2 = some d → ∃ i j, d1 = .int i ∧ d2 = .int j ∧ d = g i j := by
  intro d1 d2 d h
  unfold i2 at h
  split at h
  · cases h; exact ⟨_, _, rfl, rfl, rfl⟩
  · cases h
theorem i2c_some {c : Int → Int → Bool} {g : Int → Int → D} : ∀ d1 d2 d, i2c c g d1 d2 = some d → ∃ i j, d1 = .int i ∧ d2 = .int j ∧ c i j = true ∧ d = g i j := by
  intro d1 d2 d h
  unfold i2c at h
  split at h
  · split at h
    · rename_i hc; cases h; exact ⟨_, _, rfl, rfl, hc, rfl⟩
    · cases h
  · cases h
theorem rop_i2 {g : Int → Int → D} {gv : Int → Int → V} (hg : ∀ i j H, Rep K H (g i j) (gv i j) []) : ROp K (rI0 gv) (i2 g) := rop_I0 i2_some hg
theorem rop_i2c {c : Int → Int → Bool} {C : Int → Int → Prop} {g : Int → Int → D} {gv : Int → Int → V} (hc : ∀ i j, c i j = true → C i j) (hg : ∀ i j H, Rep K H (g i j) (gv i j) []) : ROp K (rI C gv) (i2c c g) :=
  rop_I (fun d1 d2 d h => let ⟨i, j, a, b, c1, e⟩ := i2c_some d1 d2 d h; ⟨i, j, a, b, hc i j c1, e⟩) hg
/-- one rule or the other, by the data -/
def d2or (f f' : D → D → Option D) : D → D → Option D := fun a b => match f a b with
  | some d => some d
  | none => f' a b
theorem rop_or {r r' : R2} {f f' : D → D → Option D} (h : ROp K r f) (h' : ROp K r' f') : ROp K (fun x y H Q => r x y H Q ∨ r' x y H Q) (d2or f f') := by
  intro d1 d2 d e H v w F G r1 r2 Q q
  unfold d2or at e
  split at e
  · rename_i d' e'
    cases e
    exact .inl (h d1 d2 d e' H v w F G r1 r2 Q q)
  · exact .inr (h' d1 d2 d e H v w F G r1 r2 Q q)
def fullLen (n : Nat) : Bool := decide (n ≤ 10000000)
theorem fullLen_ok {n : Nat} (h : fullLen n = true) : n ≤ sizeLine := Nat.le_trans (of_decide_eq_true h) (by decide)

/-! ### + -/
def dCat : D → D → Option D
  | .lst a, .lst b => match D.pureL a && D.pureL b && fullLen (a.length + b.length) with
    | true => some (.lst (a ++ b))
    | false => none
  | _, _ => none
theorem rop_cat : ROp K rCat dCat := by
  intro d1 d2 d e H v w F G r1 r2 Q h
  unfold dCat at e
  split at e
  · rename_i a b
    split at e
    · rename_i hc
      cases e
      simp only [Bool.and_eq_true] at hc
      simp only [Rep] at r1 r2
      obtain ⟨p, xs, G1, rfl, q1, e1, rfl⟩ := r1
      obtain ⟨p', ys, G2, rfl, q2, e2, rfl⟩ := r2
      have := RepL.pure a xs G1 q1 hc.1.1; subst this
      have := RepL.pure b ys G2 q2 hc.1.2; subst this
      refine ⟨p, p', xs, ys, rfl, rfl, e1, e2, by rw [← q1.length, ← q2.length]; exact fullLen_ok hc.2, fun n hn => ?_⟩
      exact h (.ref n) _ [n] (New.one hn) (Rep.lst_of upd_same ((q1.app q2).same (same_upd hn)))
    · cases e
  · cases e
def dCatS : D → D → Option D
  | .str a, .str b => match fullLen (a.length + b.length) with
    | true => some (.str (a ++ b))
    | false => none
  | _, _ => none
def rCatS : R2 := fun x y H Q => ∃ i j, x = .str i ∧ y = .str j ∧ i.length + j.length ≤ sizeLine ∧ Q (.str (i ++ j)) H
theorem rop_catS : ROp K rCatS dCatS := by
  intro d1 d2 d e H v w F G r1 r2 Q h
  unfold dCatS at e
  split at e
  · rename_i a b
    split at e
    · rename_i hc
      cases e
      simp only [Rep] at r1 r2
      exact ⟨a, b, r1.1, r2.1, fullLen_ok hc, h _ H [] (New.nil H) (by simp [Rep])⟩
    · cases e
  · cases e
def dCatT : D → D → Option D
  | .tup a, .tup b => match D.pureL a && D.pureL b && fullLen (a.length + b.length) with
    | true => some (.tup (a ++ b))
    | false => none
  | _, _ => none
theorem rop_catT : ROp K (rCatA K) dCatT := by
  intro d1 d2 d e H v w F G r1 r2 Q h
  unfold dCatT at e
  split at e
  · rename_i a b
    split at e
    · rename_i hc
      cases e
      simp only [Bool.and_eq_true] at hc
      simp only [Rep] at r1 r2
      obtain ⟨p, xs, rfl, e1, q1⟩ := r1
      obtain ⟨p', ys, rfl, e2, q2⟩ := r2
      have := RepL.pure a xs F q1 hc.1.1; subst this
      have := RepL.pure b ys G q2 hc.1.2; subst this
      refine ⟨p, p', xs, ys, rfl, rfl, .inl (.inl e1), .inl (.inl e2), by rw [← q1.length, ← q2.length]; exact fullLen_ok hc.2, fun hx => ?_, fun hx hy => ?_, fun _ _ n hn => ?_⟩
      · subst hx
        have : a = [] := List.length_eq_zero_iff.mp q1.length
        subst this
        exact h _ H [] (New.nil H) (Rep.tup_of e2 q2)
      · subst hy
        have : b = [] := List.length_eq_zero_iff.mp q2.length
        subst this
        refine h _ H [] (New.nil H) ?_
        rw [List.append_nil]
        exact Rep.tup_of e1 q1
      · exact h (.ref n) _ [] (New.one0 hn) (Rep.tup_of upd_same ((q1.app q2).same (same_upd hn)))
    · cases e
  · cases e
/-- as it is in the heap: a list, changeable or not -/
def SqW (K : PySem.W.Frag) (H : Hp) (a : Addr) (xs : List V) : Prop := H a = some (.lst xs) ∨ FzL K H a xs
theorem SqW.at {X : Cx} {pins : List (Addr × Obj)} {σ : L2.St} {H : Hp} {s : Shared} {a : Addr} {xs : List V} (I : Inv X pins σ H s) (h : SqW X.K H a xs) : ∃ (its : List Value) (n : Nat), Vals xs its ∧ xs.length = its.length ∧ s.heap.get? a = some { cls := .type "list", data := .seq its.toArray n } := by
  rcases h with h | ⟨o, h⟩ | ⟨o, its, n, hk, hc, hd, hs, hz, r, hsl⟩
  · obtain ⟨_, its, n, r, hl, e⟩ := I.lstM h
    exact ⟨its, n, r, hl, e⟩
  · obtain ⟨e0, _, its, n, r, e⟩ := (show ObjOk X.prog X.w H s.heap a (.frz o (.lst xs)) from I.hok a _ h)
    exact ⟨its, n, r, r.length, e⟩
  · refine ⟨its.toList, n, r, r.length, ?_⟩
    have := I.kIn a o hk
    rw [this]
    cases o
    simp only at hc hd hs hsl
    subst hc hd hs hsl
    simp
def rCatF (K : PySem.W.Frag) : R2 := fun x y H Q => ∃ l b xs zs, x = .ref l ∧ y = .ref b ∧ SqW K H l xs ∧ SqW K H b zs ∧ xs.length + zs.length ≤ sizeLine ∧ ∀ p, H p = none → Q (.ref p) (upd H p (.lst (xs ++ zs)))
theorem op_catF {X : Cx} : OpR X (binaryOp .Add) (rCatF X.K) := by
  intro pins s σ H x y v u Q I rx ry h
  obtain ⟨l, b, xs, zs, rfl, rfl, hH, hB, hz, q⟩ := h
  cases rx
  cases ry
  obtain ⟨its, n, r, hl, e⟩ := hH.at I
  obtain ⟨its2, n2, r2, hl2, e2⟩ := hB.at I
  refine PySem.P.add_list e e2 ?_ (by rw [List.size_toArray, List.size_toArray]; omega)
  have ea : its.toArray ++ its2.toArray = (its ++ its2).toArray := by simp
  rw [ea]
  exact ⟨.ref _, _, I.lnew (t' := s.toks) (r.append r2) (by rw [List.length_append]; omega), rfl, q _ I.fresh⟩
def lsD : D → Option (List D)
  | .lst ds => some ds
  | .fz ds => some ds
  | _ => none
theorem lsD_rep {H : Hp} {d : D} {ds : List D} {v : V} {F : List Addr} (e : lsD d = some ds) (r : Rep K H d v F) : ∃ a xs G, v = .ref a ∧ SqW K H a xs ∧ RepL K H ds xs G := by
  cases d <;> cases e
  · simp only [Rep] at r
    obtain ⟨a, xs, G, rfl, rl, h, _⟩ := r
    exact ⟨a, xs, G, rfl, .inl h, rl⟩
  · simp only [Rep] at r
    obtain ⟨a, xs, rfl, h, rl⟩ := r
    exact ⟨a, xs, F, rfl, .inr h, rl⟩
def dCatF (d1 d2 : D) : Option D := match lsD d1, lsD d2 with
  | some a, some b => match D.pureL a && D.pureL b && fullLen (a.length + b.length) with
    | true => some (.lst (a ++ b))
    | false => none
  | _, _ => none
theorem rop_catF : ROp K (rCatF K) dCatF := by
  intro d1 d2 d e H v w F G r1 r2 Q h
  unfold dCatF at e
  split at e
  · rename_i a b h1 h2
    split at e
    · rename_i hc
      cases e
      simp only [Bool.and_eq_true] at hc
      obtain ⟨p, xs, G1, rfl, e1, q1⟩ := lsD_rep h1 r1
      obtain ⟨p', ys, G2, rfl, e2, q2⟩ := lsD_rep h2 r2
      have := RepL.pure a xs G1 q1 hc.1.1; subst this
      have := RepL.pure b ys G2 q2 hc.1.2; subst this
      refine ⟨p, p', xs, ys, rfl, rfl, e1, e2, by rw [← q1.length, ← q2.length]; exact fullLen_ok hc.2, fun n hn => ?_⟩
      exact h (.ref n) _ [n] (New.one hn) (Rep.lst_of upd_same ((q1.app q2).same (same_upd hn)))
    · cases e
  · cases e
def dAdd : D → D → Option D := d2or (i2 fun i j => .int (i + j)) (d2or dCat (d2or dCatS (d2or dCatT dCatF)))
def rAddU (K : PySem.W.Frag) : R2 := fun x y H Q => rI0 (fun i j => .int (i + j)) x y H Q ∨ (fun x y H Q => rCat x y H Q ∨ (fun x y H Q => rCatS x y H Q ∨ (fun x y H Q => rCatA K x y H Q ∨ rCatF K x y H Q) x y H Q) x y H Q) x y H Q
theorem rop_add : ROp K (rAddU K) dAdd := rop_or (rop_i2 fun i j H => by simp [Rep]) (rop_or rop_cat (rop_or rop_catS (rop_or rop_catT rop_catF)))
theorem op_addU {X : Cx} : OpR X (binaryOp .Add) (rAddU X.K) := OpR.or op_add (OpR.or op_cat (OpR.or op_add_str (OpR.or op_catA op_catF)))

/-! ### the other operators -/
def dSub : D → D → Option D := i2 fun i j => .int (i - j)
theorem rop_sub : ROp K (rI0 fun i j => .int (i - j)) dSub := rop_i2 fun i j H => by simp [Rep]
def cMul (i j : Int) : Bool := (decide (-(2 ^ 64) < i) && decide (i < 2 ^ 64)) || (decide (-(2 ^ 64) < j) && decide (j < 2 ^ 64))
theorem cMul_ok (i j : Int) (h : cMul i j = true) : CMul i j := by
  simp only [cMul, Bool.or_eq_true, Bool.and_eq_true, decide_eq_true_eq] at h
  exact h
def dRepL : D → D → Option D
  | .lst a, .int k => match D.pureL a && decide (-(2 ^ 63) ≤ k) && decide (k < 2 ^ 63) && fullLen (a.length * k.toNat) with
    | true => some (.lst (List.replicate k.toNat a).flatten)
    | false => none
  | _, _ => none
theorem RepL.rep {H : Hp} {a : List D} {xs : List V} (h : RepL K H a xs []) : ∀ n : Nat, RepL K H (List.replicate n a).flatten (List.replicate n xs).flatten []
  | 0 => by simp [RepL]
  | n + 1 => by
    rw [List.replicate_succ, List.replicate_succ, List.flatten_cons, List.flatten_cons]
    exact h.app (RepL.rep h n)
theorem rop_repL : ROp K rRep dRepL := by
  intro d1 d2 d e H v w F G r1 r2 Q h
  unfold dRepL at e
  split at e
  · rename_i a k
    split at e
    · rename_i hc
      cases e
      simp only [Bool.and_eq_true, decide_eq_true_eq] at hc
      simp only [Rep] at r1 r2
      obtain ⟨p, xs, G1, rfl, q1, e1, rfl⟩ := r1
      have := RepL.pure a xs G1 q1 hc.1.1.1; subst this
      refine ⟨p, k, xs, rfl, r2.1, e1, hc.1.1.2, hc.1.2, by rw [← q1.length]; exact fullLen_ok hc.2, fun n hn => ?_⟩
      exact h (.ref n) _ [n] (New.one hn) (Rep.lst_of upd_same ((RepL.rep q1 k.toNat).same (same_upd hn)))
    · cases e
  · cases e
def dMul : D → D → Option D := d2or (i2c cMul fun i j => .int (i * j)) dRepL
def rMulU : R2 := fun x y H Q => rI CMul (fun i j => .int (i * j)) x y H Q ∨ rRep x y H Q
theorem rop_mul : ROp K rMulU dMul := rop_or (rop_i2c cMul_ok fun i j H => by simp [Rep]) rop_repL
theorem op_mulU {X : Cx} : OpR X (binaryOp .Mult) rMulU := OpR.or op_mul op_rep
def cDiv (i j : Int) : Bool := decide (0 < j) && decide (j < 1073741824)
theorem cDiv_ok (i j : Int) (h : cDiv i j = true) : CDiv i j := by
  simp only [cDiv, Bool.and_eq_true, decide_eq_true_eq] at h
  exact h
def dFdiv : D → D → Option D := i2c cDiv fun i j => .int (i / j)
theorem rop_fdiv : ROp K (rI CDiv fun i j => .int (i / j)) dFdiv := rop_i2c cDiv_ok fun i j H => by simp [Rep]
def dMod : D → D → Option D := i2c (fun _ j => decide (0 < j)) fun i j => .int (i % j)
theorem rop_mod : ROp K (rI (fun _ j => 0 < j) fun i j => .int (i % j)) dMod := rop_i2c (fun i j h => of_decide_eq_true h) fun i j H => by simp [Rep]
def cPow (i j : Int) : Bool := decide (0 ≤ j) && decide (j ≤ 1000000) && decide (i.natAbs < 2 ^ 64)
theorem cPow_ok (i j : Int) (h : cPow i j = true) : CPow i j := by
  simp only [cPow, Bool.and_eq_true, decide_eq_true_eq] at h
  exact ⟨h.1.1, h.1.2, h.2⟩
def dPow : D → D → Option D := i2c cPow fun i j => .int (i ^ j.toNat)
theorem rop_pow : ROp K (rI CPow fun i j => .int (i ^ j.toNat)) dPow := rop_i2c cPow_ok fun i j H => by simp [Rep]
def dShl : D → D → Option D := i2c cPow fun i j => .int (i * 2 ^ j.toNat)
theorem rop_shl : ROp K (rI CPow fun i j => .int (i * 2 ^ j.toNat)) dShl := rop_i2c cPow_ok fun i j H => by simp [Rep]
def dShr : D → D → Option D := i2c (fun _ j => decide (0 ≤ j)) fun i j => .int (i / 2 ^ j.toNat)
theorem rop_shr : ROp K (rI (fun _ j => 0 ≤ j) fun i j => .int (i / 2 ^ j.toNat)) dShr := rop_i2c (fun i j h => of_decide_eq_true h) fun i j H => by simp [Rep]
def dAnd : D → D → Option D := i2 fun i j => .int (Builtin.bitAnd i j)
theorem rop_and : ROp K (rI0 fun i j => .int (Builtin.bitAnd i j)) dAnd := rop_i2 fun i j H => by simp [Rep]
def dOr : D → D → Option D := i2 fun i j => .int (Builtin.bitOr i j)
theorem rop_bor : ROp K (rI0 fun i j => .int (Builtin.bitOr i j)) dOr := rop_i2 fun i j H => by simp [Rep]
def dXor : D → D → Option D := i2 fun i j => .int (Builtin.bitXor i j)
theorem rop_xor : ROp K (rI0 fun i j => .int (Builtin.bitXor i j)) dXor := rop_i2 fun i j H => by simp [Rep]
def dLt : D → D → Option D := i2 fun i j => .bl (decide (i < j))
theorem rop_lt : ROp K (rI0 fun i j => .bl (decide (i < j))) dLt := rop_i2 fun i j H => by simp [Rep]
def dLe : D → D → Option D := i2 fun i j => .bl (decide (i ≤ j))
theorem rop_le : ROp K (rI0 fun i j => .bl (decide (i ≤ j))) dLe := rop_i2 fun i j H => by simp [Rep]
def dGt : D → D → Option D := i2 fun i j => .bl (decide (j < i))
theorem rop_gt : ROp K (rI0 fun i j => .bl (decide (j < i))) dGt := rop_i2 fun i j H => by simp [Rep]
def dGe : D → D → Option D := i2 fun i j => .bl (decide (j ≤ i))
theorem rop_ge : ROp K (rI0 fun i j => .bl (decide (j ≤ i))) dGe := rop_i2 fun i j H => by simp [Rep]

/-! ### ==, != , is -/
mutual
def D.py : D → PyData
  | .non => .none
  | .bl b => .bool b
  | .int i => .int i
  | .str x => .str x
  | .lst xs => .list (D.pys xs)
  | .tup xs => .tuple (D.pys xs)
  | .fz xs => .list (D.pys xs)
  | _ => .none
def D.pys : List D → List PyData
  | [] => []
  | d :: ds => d.py :: D.pys ds
end
mutual
def D.ok : D → Bool
  | .ty _ => false
  | .dct _ _ => false
  | .lk _ _ => false
  | .fz xs => D.oks xs
  | .lst xs => D.oks xs
  | .tup xs => D.oks xs
  | _ => true
def D.oks : List D → Bool
  | [] => true
  | d :: ds => d.ok && D.oks ds
end
mutual
theorem Rep.dp {H : Hp} : ∀ (d : D) (v : V) (F : List Addr), Rep K H d v F → d.ok = true → Dp K H v d.py
  | .non, v, F, h, _ => by simp only [Rep] at h; rw [h.1]; exact .non
  | .bl b, v, F, h, _ => by simp only [Rep] at h; rw [h.1]; exact .bl b
  | .int i, v, F, h, _ => by simp only [Rep] at h; rw [h.1]; exact .int i
  | .str x, v, F, h, _ => by simp only [Rep] at h; rw [h.1]; exact .str x
  | .ty n, v, F, h, o => by cases o
  | .dct ks ds, v, F, h, o => by cases o
  | .lk ks ds, v, F, h, o => by cases o
  | .fz ds, v, F, h, o => by
    simp only [Rep] at h
    obtain ⟨a, xs, rfl, e, q⟩ := h
    exact .lst e.sq (RepL.dps ds xs F q (by simpa [D.ok] using o))
  | .lst ds, v, F, h, o => by
    simp only [Rep] at h
    obtain ⟨a, xs, G, rfl, q, e, rfl⟩ := h
    exact .lst (.inl (.inl e)) (RepL.dps ds xs G q (by simpa [D.ok] using o))
  | .tup ds, v, F, h, o => by
    simp only [Rep] at h
    obtain ⟨a, xs, rfl, e, q⟩ := h
    exact .tup (.inl (.inl e)) (RepL.dps ds xs F q (by simpa [D.ok] using o))
theorem RepL.dps {H : Hp} : ∀ (ds : List D) (xs : List V) (F : List Addr), RepL K H ds xs F → D.oks ds = true → DpAll K H xs (D.pys ds)
  | [], xs, F, h, _ => by simp only [RepL] at h; rw [h.1]; exact .nil
  | d :: ds, xs, F, h, o => by
    simp only [RepL] at h
    obtain ⟨v, vs, F1, F2, rfl, rfl, h1, h2⟩ := h
    simp only [D.oks, Bool.and_eq_true] at o
    exact .cons (Rep.dp d v F1 h1 o.1) (RepL.dps ds vs F2 h2 o.2)
end
/-- two data are one for Python, at a depth below 64 -/
def eqD (d e : D) : Option Bool := match d.ok && e.ok && SeqAt.shaped d.py && SeqAt.shaped e.py with
  | true => some (PyData.eqv d.py e.py)
  | false => none
def dEq : D → D → Option D
  | .int i, .int j => some (.bl (decide (i = j)))
  | .bl i, .bl j => some (.bl (decide (i = j)))
  | .str i, .str j => some (.bl (decide (i = j)))
  | .non, .non => some (.bl true)
  | d, e => (eqD d e).map .bl
def dNe : D → D → Option D
  | .int i, .int j => some (.bl (!decide (i = j)))
  | .bl i, .bl j => some (.bl (!decide (i = j)))
  | .str i, .str j => some (.bl (!decide (i = j)))
  | .non, .non => some (.bl false)
  | d, e => (eqD d e).map fun b => .bl (!b)
def rEqU (K : PySem.W.Frag) : R2 := fun x y H Q => rEq x y H Q ∨ rEqD K x y H Q
def rNeU (K : PySem.W.Frag) : R2 := fun x y H Q => rNe x y H Q ∨ rNeD K x y H Q
theorem op_eqU {X : Cx} (hu : X.A.units + 64 < cLine) : OpR X (compareOp .Eq) (rEqU X.K) := OpR.or op_eq (op_eqD hu)
theorem op_neU {X : Cx} (hu : X.A.units + 64 < cLine) : OpR X (compareOp .NotEq) (rNeU X.K) := OpR.or op_ne (op_neD hu)
theorem eqD_some {d e : D} {b : Bool} (h : eqD d e = some b) : d.ok = true ∧ e.ok = true ∧ SeqAt.shaped d.py = true ∧ SeqAt.shaped e.py = true ∧ b = PyData.eqv d.py e.py := by
  unfold eqD at h
  split at h
  · rename_i hc
    cases h
    simp only [Bool.and_eq_true] at hc
    exact ⟨hc.1.1.1, hc.1.1.2, hc.1.2, hc.2, rfl⟩
  · cases h
theorem rop_eq : ROp K (rEqU K) dEq := by
  intro d1 d2 d e H v w F G r1 r2 Q h
  unfold dEq at e
  split at e
  · cases e; simp only [Rep] at r1 r2
    obtain ⟨rfl, _⟩ := r1; obtain ⟨rfl, _⟩ := r2
    exact .inl ⟨rfl, h _ H [] (New.nil H) (by simp [Rep])⟩
  · cases e; simp only [Rep] at r1 r2
    obtain ⟨rfl, _⟩ := r1; obtain ⟨rfl, _⟩ := r2
    exact .inl ⟨rfl, h _ H [] (New.nil H) (by simp [Rep])⟩
  · cases e; simp only [Rep] at r1 r2
    obtain ⟨rfl, _⟩ := r1; obtain ⟨rfl, _⟩ := r2
    exact .inl ⟨rfl, h _ H [] (New.nil H) (by simp [Rep])⟩
  · cases e; simp only [Rep] at r1 r2
    obtain ⟨rfl, _⟩ := r1; obtain ⟨rfl, _⟩ := r2
    exact .inl ⟨rfl, h _ H [] (New.nil H) (by simp [Rep])⟩
  · simp only [Option.map_eq_some_iff] at e
    obtain ⟨b, e, rfl⟩ := e
    obtain ⟨o1, o2, s1, s2, rfl⟩ := eqD_some e
    exact .inr ⟨_, _, Rep.dp _ v F r1 o1, Rep.dp _ w G r2 o2, s1, s2, h _ H [] (New.nil H) (by simp [Rep])⟩
theorem rop_ne : ROp K (rNeU K) dNe := by
  intro d1 d2 d e H v w F G r1 r2 Q h
  unfold dNe at e
  split at e
  · cases e; simp only [Rep] at r1 r2
    obtain ⟨rfl, _⟩ := r1; obtain ⟨rfl, _⟩ := r2
    exact .inl ⟨rfl, h _ H [] (New.nil H) (by simp [Rep])⟩
  · cases e; simp only [Rep] at r1 r2
    obtain ⟨rfl, _⟩ := r1; obtain ⟨rfl, _⟩ := r2
    exact .inl ⟨rfl, h _ H [] (New.nil H) (by simp [Rep])⟩
  · cases e; simp only [Rep] at r1 r2
    obtain ⟨rfl, _⟩ := r1; obtain ⟨rfl, _⟩ := r2
    exact .inl ⟨rfl, h _ H [] (New.nil H) (by simp [Rep])⟩
  · cases e; simp only [Rep] at r1 r2
    obtain ⟨rfl, _⟩ := r1; obtain ⟨rfl, _⟩ := r2
    exact .inl ⟨rfl, h _ H [] (New.nil H) (by simp [Rep])⟩
  · simp only [Option.map_eq_some_iff] at e
    obtain ⟨b, e, rfl⟩ := e
    obtain ⟨o1, o2, s1, s2, rfl⟩ := eqD_some e
    exact .inr ⟨_, _, Rep.dp _ v F r1 o1, Rep.dp _ w G r2 o2, s1, s2, h _ H [] (New.nil H) (by simp [Rep])⟩
def D.isNon : D → Bool
  | .non => true
  | _ => false
def dIs : D → D → Option D
  | d, .non => some (.bl d.isNon)
  | _, _ => none
def dIsNot : D → D → Option D
  | d, .non => some (.bl (!d.isNon))
  | _, _ => none
theorem Rep.isNon {H : Hp} {d : D} {v : V} {F : List Addr} (h : Rep K H d v F) : decide (v = .non) = d.isNon := by
  cases d with
  | non => simp only [Rep] at h; rw [h.1]; rfl
  | bl b => simp only [Rep] at h; rw [h.1]; rfl
  | int i => simp only [Rep] at h; rw [h.1]; rfl
  | str x => simp only [Rep] at h; rw [h.1]; rfl
  | ty n => simp only [Rep] at h; rw [h.1]; rfl
  | lst ds => simp only [Rep] at h; obtain ⟨a, xs, G, rfl, _⟩ := h; rfl
  | tup ds => simp only [Rep] at h; obtain ⟨a, xs, rfl, _⟩ := h; rfl
  | fz ds => simp only [Rep] at h; obtain ⟨a, xs, rfl, _⟩ := h; rfl
  | dct ks ds => simp only [Rep] at h; obtain ⟨a, xs, G, rfl, _⟩ := h; rfl
  | lk ks ds => simp only [Rep] at h; obtain ⟨a, o, xs, rfl, _⟩ := h; rfl
theorem rop_is : ROp K (fun x y H Q => y = .non ∧ Q (.bl (decide (x = .non))) H) dIs := by
  intro d1 d2 d e H v w F G r1 r2 Q h
  unfold dIs at e
  split at e
  · cases e
    simp only [Rep] at r2
    rw [Rep.isNon r1]
    exact ⟨r2.1, h _ H [] (New.nil H) (by simp [Rep])⟩
  · cases e
theorem rop_isnot : ROp K (fun x y H Q => y = .non ∧ Q (.bl (!decide (x = .non))) H) dIsNot := by
  intro d1 d2 d e H v w F G r1 r2 Q h
  unfold dIsNot at e
  split at e
  · cases e
    simp only [Rep] at r2
    rw [Rep.isNon r1]
    exact ⟨r2.1, h _ H [] (New.nil H) (by simp [Rep])⟩
  · cases e
def dNeg : D → Option D
  | .int i => some (.int (-i))
  | _ => none
theorem run_neg : RUn K (rU fun i => .int (-i)) dNeg := by
  intro d1 d e H v F r Q h
  unfold dNeg at e
  split at e
  · cases e; simp only [Rep] at r
    exact ⟨_, r.1, h _ H [] (New.nil H) (by simp [Rep])⟩
  · cases e
end
end U

namespace U
open PySem L2

section
variable {K : PySem.W.Frag}
theorem Reps.one {H : Hp} {d : D} {vs : List V} (h : Reps K H [d] vs) : ∃ v F, vs = [v] ∧ Rep K H d v F := by
  obtain ⟨v, ws, F, rfl, r, h⟩ := h
  have h : ws = [] := h
  subst h
  exact ⟨v, F, rfl, r⟩
theorem Reps.two {H : Hp} {d e : D} {vs : List V} (h : Reps K H [d, e] vs) : ∃ v w F G, vs = [v, w] ∧ Rep K H d v F ∧ Rep K H e w G := by
  obtain ⟨v, ws, F, rfl, r, h⟩ := h
  obtain ⟨w, G, rfl, r2⟩ := h.one
  exact ⟨v, w, F, G, rfl, r, r2⟩
/-! ### built-in functions -/
def cor (f f' : List D → Option D) : List D → Option D := fun ds => match f ds with
  | some d => some d
  | none => f' ds
theorem rc_or {r r' : List V → Hp → VK → Prop} {f f' : List D → Option D} (h : RCall K r f) (h' : RCall K r' f') : RCall K (fun vs H Q => r vs H Q ∨ r' vs H Q) (cor f f') := by
  intro ds d e H vs rs Q q
  unfold cor at e
  split at e
  · rename_i d' e'
    cases e
    exact .inl (h ds d e' H vs rs Q q)
  · exact .inr (h' ds d e H vs rs Q q)
theorem CallR.or {X : Cx} {f : Value} {r r' : List V → Hp → VK → Prop} (h : CallR X f r) (h' : CallR X f r') : CallR X f (fun vs H Q => r vs H Q ∨ r' vs H Q) := fun pins s σ H xs us Q I rv q => q.elim (h pins s σ H xs us Q I rv) (h' pins s σ H xs us Q I rv)
def cLen : List D → Option D
  | [.lst ds] => some (.int ds.length)
  | [.tup ds] => some (.int ds.length)
  | [.fz ds] => some (.int ds.length)
  | [.str z] => match fullLen z.length with
    | true => some (.int z.length)
    | false => none
  | _ => none
def rLenU (K : PySem.W.Frag) : List V → Hp → VK → Prop := fun xs H Q => ∃ x n, xs = [x] ∧ LenV K x H n ∧ Q (.int (n : Nat)) H
theorem rc_len : RCall K (rLenU K) cLen := by
  intro ds d e H vs rs Q q
  unfold cLen at e
  split at e
  · rename_i ds
    cases e
    obtain ⟨v, F, rfl, r⟩ := rs.one
    obtain ⟨a, xs, G, rfl, sq, rl, _⟩ := RepL.sql r
    exact ⟨_, _, rfl, .inl ⟨xs, sq, rfl⟩, by rw [← rl.length]; exact q _ H [] (New.nil H) (by simp [Rep])⟩
  · rename_i ds
    cases e
    obtain ⟨v, F, rfl, r⟩ := rs.one
    simp only [Rep] at r
    obtain ⟨a, xs, rfl, sq, rl⟩ := r
    exact ⟨_, _, rfl, .inr ⟨xs, .inl (.inl sq), rfl⟩, by rw [← rl.length]; exact q _ H [] (New.nil H) (by simp [Rep])⟩
  · rename_i ds
    cases e
    obtain ⟨v, F, rfl, r⟩ := rs.one
    simp only [Rep] at r
    obtain ⟨a, xs, rfl, sq, rl⟩ := r
    exact ⟨_, _, rfl, .inl ⟨xs, sq.sq, rfl⟩, by rw [← rl.length]; exact q _ H [] (New.nil H) (by simp [Rep])⟩
  · rename_i z
    split at e
    · rename_i hz
      cases e
      obtain ⟨v, F, rfl, r⟩ := rs.one
      simp only [Rep] at r
      obtain ⟨rfl, _⟩ := r
      exact ⟨_, z.length, rfl, ⟨fullLen_ok hz, rfl⟩, q _ H [] (New.nil H) (by simp [Rep])⟩
    · cases e
  · cases e
def cAbs : List D → Option D
  | [.int i] => some (.int (if i < 0 then -i else i))
  | _ => none
theorem rc_abs : RCall K (fun xs H Q => ∃ i, xs = [.int i] ∧ Q (.int (if i < 0 then -i else i)) H) cAbs := by
  intro ds d e H vs rs Q q
  unfold cAbs at e
  split at e
  · cases e
    obtain ⟨v, F, rfl, r⟩ := rs.one
    simp only [Rep] at r
    obtain ⟨rfl, _⟩ := r
    exact ⟨_, rfl, q _ H [] (New.nil H) (by simp [Rep])⟩
  · cases e
def cMin2 : List D → Option D
  | [.int i, .int j] => some (.int (if j < i then j else i))
  | _ => none
theorem rc_min2 : RCall K (fun xs H Q => ∃ i j, xs = [.int i, .int j] ∧ Q (.int (if j < i then j else i)) H) cMin2 := by
  intro ds d e H vs rs Q q
  unfold cMin2 at e
  split at e
  · cases e
    obtain ⟨v, w, F, G, rfl, r, r2⟩ := rs.two
    simp only [Rep] at r r2
    obtain ⟨rfl, _⟩ := r; obtain ⟨rfl, _⟩ := r2
    exact ⟨_, _, rfl, q _ H [] (New.nil H) (by simp [Rep])⟩
  · cases e
def cMax2 : List D → Option D
  | [.int i, .int j] => some (.int (if j > i then j else i))
  | _ => none
theorem rc_max2 : RCall K (fun xs H Q => ∃ i j, xs = [.int i, .int j] ∧ Q (.int (if j > i then j else i)) H) cMax2 := by
  intro ds d e H vs rs Q q
  unfold cMax2 at e
  split at e
  · cases e
    obtain ⟨v, w, F, G, rfl, r, r2⟩ := rs.two
    simp only [Rep] at r r2
    obtain ⟨rfl, _⟩ := r; obtain ⟨rfl, _⟩ := r2
    exact ⟨_, _, rfl, q _ H [] (New.nil H) (by simp [Rep])⟩
  · cases e
def cInt : List D → Option D
  | [.int i] => some (.int i)
  | [.bl b] => some (.int (if b then 1 else 0))
  | _ => none
theorem rc_int : RCall K (fun xs H Q => (∃ i, xs = [.int i] ∧ Q (.int i) H) ∨ ∃ k, xs = [.bl k] ∧ Q (.int (if k then 1 else 0)) H) cInt := by
  intro ds d e H vs rs Q q
  unfold cInt at e
  split at e
  · cases e
    obtain ⟨v, F, rfl, r⟩ := rs.one
    simp only [Rep] at r
    obtain ⟨rfl, _⟩ := r
    exact .inl ⟨_, rfl, q _ H [] (New.nil H) (by simp [Rep])⟩
  · cases e
    obtain ⟨v, F, rfl, r⟩ := rs.one
    simp only [Rep] at r
    obtain ⟨rfl, _⟩ := r
    exact .inr ⟨_, rfl, q _ H [] (New.nil H) (by simp [Rep])⟩
  · cases e
def cDivmod : List D → Option D
  | [.int i, .int j] => match cDiv i j with
    | true => some (.tup [.int (i / j), .int (i % j)])
    | false => none
  | _ => none
theorem rc_divmod : RCall K (fun xs H Q => ∃ i j, xs = [.int i, .int j] ∧ CDiv i j ∧ ∀ p, H p = none → Q (.ref p) (upd H p (.tup [.int (i / j), .int (i % j)]))) cDivmod := by
  intro ds d e H vs rs Q q
  unfold cDivmod at e
  split at e
  · split at e
    · rename_i hc
      cases e
      obtain ⟨v, w, F, G, rfl, r, r2⟩ := rs.two
      simp only [Rep] at r r2
      obtain ⟨rfl, _⟩ := r; obtain ⟨rfl, _⟩ := r2
      refine ⟨_, _, rfl, cDiv_ok _ _ hc, fun p hp => q (.ref p) _ [] (New.one0 hp) (Rep.tup_of upd_same ?_)⟩
      exact RepL.ints [_, _]
    · cases e
  · cases e
/-- the items of a list or a tuple, nothing changeable in them -/
def seqP : D → Option (List D)
  | .lst ds => match D.pureL ds with
    | true => some ds
    | false => none
  | .fz ds => match D.pureL ds with
    | true => some ds
    | false => none
  | .tup ds => match D.pureL ds with
    | true => some ds
    | false => none
  | _ => none
theorem seqP_ok {H : Hp} {d : D} {ds : List D} {v : V} {F : List Addr} (e : seqP d = some ds) (r : Rep K H d v F) : ∃ a xs, v = .ref a ∧ RepL K H ds xs [] ∧ (((d = .lst ds ∨ d = .fz ds) ∧ SqL K H a xs) ∨ (d = .tup ds ∧ SqT K H a xs ∧ H a = some (.tup xs))) := by
  unfold seqP at e
  split at e
  · split at e
    · rename_i hp
      cases e
      obtain ⟨a, xs, G, rfl, sq, rl, _⟩ := RepL.sql r
      have := RepL.pure _ xs G rl hp; subst this
      exact ⟨a, xs, rfl, rl, .inl ⟨.inl rfl, sq⟩⟩
    · cases e
  · split at e
    · rename_i hp
      cases e
      simp only [Rep] at r
      obtain ⟨a, xs, rfl, sq, rl⟩ := r
      have := RepL.pure _ xs F rl hp; subst this
      exact ⟨a, xs, rfl, rl, .inl ⟨.inr rfl, sq.sq⟩⟩
    · cases e
  · split at e
    · rename_i hp
      cases e
      simp only [Rep] at r
      obtain ⟨a, xs, rfl, sq, rl⟩ := r
      have := RepL.pure _ xs F rl hp; subst this
      exact ⟨a, xs, rfl, rl, .inr ⟨rfl, .inl (.inl sq), sq⟩⟩
    · cases e
  · cases e
def cList : List D → Option D
  | [d] => (seqP d).map .lst
  | _ => none
theorem rc_list : RCall K (fun xs H Q => ∃ p ys, xs = [.ref p] ∧ (SqL K H p ys ∨ SqT K H p ys) ∧ ∀ l, H l = none → Q (.ref l) (upd H l (.lst ys))) cList := by
  intro ds d e H vs rs Q q
  unfold cList at e
  split at e
  · simp only [Option.map_eq_some_iff] at e
    obtain ⟨xs', e, rfl⟩ := e
    obtain ⟨v, F, rfl, r⟩ := rs.one
    obtain ⟨a, xs, rfl, rl, h⟩ := seqP_ok e r
    exact ⟨a, xs, rfl, h.imp (·.2) (·.2.1), fun l hl => q (.ref l) _ [l] (New.one hl) (Rep.lst_of upd_same (rl.same (same_upd hl)))⟩
  · cases e
def cTuple : List D → Option D
  | [d] => (seqP d).map .tup
  | _ => none
theorem rc_tuple : RCall K (fun xs H Q => ∃ p ys, xs = [.ref p] ∧ ((SqL K H p ys ∧ ∀ l, H l = none → Q (.ref l) (upd H l (.tup ys))) ∨ (SqT K H p ys ∧ Q (.ref p) H))) cTuple := by
  intro ds d e H vs rs Q q
  unfold cTuple at e
  split at e
  · simp only [Option.map_eq_some_iff] at e
    obtain ⟨xs', e, rfl⟩ := e
    obtain ⟨v, F, rfl, r⟩ := rs.one
    obtain ⟨a, xs, rfl, rl, ⟨_, h⟩ | ⟨rfl, h, h2⟩⟩ := seqP_ok e r
    · exact ⟨a, xs, rfl, .inl ⟨h, fun l hl => q (.ref l) _ [] (New.one0 hl) (Rep.tup_of upd_same (rl.same (same_upd hl)))⟩⟩
    · exact ⟨a, xs, rfl, .inr ⟨h, q _ H [] (New.nil H) (Rep.tup_of h2 rl)⟩⟩
  · cases e
/-- a list of bools, of ints, of texts -/
def blsOf : List D → Option (List Bool)
  | [] => some []
  | .bl b :: ds => (blsOf ds).map (b :: ·)
  | _ => none
def intsOf : List D → Option (List Int)
  | [] => some []
  | .int b :: ds => (intsOf ds).map (b :: ·)
  | _ => none
theorem blsOf_ok {H : Hp} : ∀ {ds : List D} {bs : List Bool} {xs : List V} {F : List Addr}, blsOf ds = some bs → RepL K H ds xs F → xs = bs.map V.bl ∧ F = []
  | [], bs, xs, F, e, r => by cases e; simp only [RepL] at r; exact ⟨r.1, r.2⟩
  | d :: ds, bs, xs, F, e, r => by
    cases d with
    | bl b =>
      simp only [blsOf, Option.map_eq_some_iff] at e
      obtain ⟨cs, e, rfl⟩ := e
      simp only [RepL] at r
      obtain ⟨v, vs, F1, F2, rfl, rfl, h1, h2⟩ := r
      obtain ⟨rfl, rfl⟩ := blsOf_ok e h2
      simp only [Rep] at h1
      exact ⟨by rw [h1.1]; rfl, by rw [h1.2]; rfl⟩
    | _ => cases e
theorem intsOf_ok {H : Hp} : ∀ {ds : List D} {bs : List Int} {xs : List V} {F : List Addr}, intsOf ds = some bs → RepL K H ds xs F → xs = bs.map V.int ∧ F = []
  | [], bs, xs, F, e, r => by cases e; simp only [RepL] at r; exact ⟨r.1, r.2⟩
  | d :: ds, bs, xs, F, e, r => by
    cases d with
    | int b =>
      simp only [intsOf, Option.map_eq_some_iff] at e
      obtain ⟨cs, e, rfl⟩ := e
      simp only [RepL] at r
      obtain ⟨v, vs, F1, F2, rfl, rfl, h1, h2⟩ := r
      obtain ⟨rfl, rfl⟩ := intsOf_ok e h2
      simp only [Rep] at h1
      exact ⟨by rw [h1.1]; rfl, by rw [h1.2]; rfl⟩
    | _ => cases e
def cAll : List D → Option D
  | [.lst ds] => (blsOf ds).map fun bs => .bl (bs.all id)
  | _ => none
theorem rc_all : RCall K (rAll K) cAll := by
  intro ds d e H vs rs Q q
  unfold cAll at e
  split at e
  · simp only [Option.map_eq_some_iff] at e
    obtain ⟨bs, e, rfl⟩ := e
    obtain ⟨v, F, rfl, r⟩ := rs.one
    obtain ⟨a, xs, G, rfl, sq, rl, _⟩ := RepL.sql r
    obtain ⟨rfl, _⟩ := blsOf_ok e rl
    exact ⟨a, bs, rfl, sq, q _ H [] (New.nil H) (by simp [Rep])⟩
  · cases e
def cAny : List D → Option D
  | [.lst ds] => (blsOf ds).map fun bs => .bl (bs.any id)
  | _ => none
theorem rc_any : RCall K (rAny K) cAny := by
  intro ds d e H vs rs Q q
  unfold cAny at e
  split at e
  · simp only [Option.map_eq_some_iff] at e
    obtain ⟨bs, e, rfl⟩ := e
    obtain ⟨v, F, rfl, r⟩ := rs.one
    obtain ⟨a, xs, G, rfl, sq, rl, _⟩ := RepL.sql r
    obtain ⟨rfl, _⟩ := blsOf_ok e rl
    exact ⟨a, bs, rfl, sq, q _ H [] (New.nil H) (by simp [Rep])⟩
  · cases e
def cSum : List D → Option D
  | [.lst ds] => (intsOf ds).map fun bs => .int bs.sum
  | _ => none
theorem rc_sum : RCall K (rSum K) cSum := by
  intro ds d e H vs rs Q q
  unfold cSum at e
  split at e
  · simp only [Option.map_eq_some_iff] at e
    obtain ⟨bs, e, rfl⟩ := e
    obtain ⟨v, F, rfl, r⟩ := rs.one
    obtain ⟨a, xs, G, rfl, sq, rl, _⟩ := RepL.sql r
    obtain ⟨rfl, _⟩ := intsOf_ok e rl
    exact ⟨a, bs, rfl, sq, q _ H [] (New.nil H) (by simp [Rep])⟩
  · cases e
/-! ### isinstance -/
def D.tyN : D → Option String
  | .non => some "NoneType"
  | .bl _ => some "bool"
  | .int _ => some "int"
  | .str _ => some "str"
  | .lst _ => some "list"
  | .tup _ => some "tuple"
  | .fz _ => some "list"
  | .dct _ _ => some "dict"
  | _ => none
theorem Rep.tyX {H : Hp} {d : D} {v : V} {F : List Addr} {n : String} (r : Rep K H d v F) (e : d.tyN = some n) : TyX K H v (.type n) := by
  cases d with
  | non => cases e; simp only [Rep] at r; rw [r.1]; exact .base .non
  | bl b => cases e; simp only [Rep] at r; rw [r.1]; exact .base (.bl b)
  | int i => cases e; simp only [Rep] at r; rw [r.1]; exact .base (.int i)
  | str x => cases e; simp only [Rep] at r; rw [r.1]; exact .base (.str x)
  | ty n => cases e
  | lst ds => cases e; simp only [Rep] at r; obtain ⟨a, xs, G, rfl, _, h, _⟩ := r; exact .base (.lst h)
  | tup ds => cases e; simp only [Rep] at r; obtain ⟨a, xs, rfl, h, _⟩ := r; exact .base (.tup h)
  | fz ds =>
    cases e; simp only [Rep] at r; obtain ⟨a, xs, rfl, h, _⟩ := r
    rcases h with ⟨o, h⟩ | ⟨o, its, n, h, hc, _⟩
    · exact .base (.frz h)
    · exact .kList h hc
  | dct ks ds => cases e; simp only [Rep] at r; obtain ⟨a, xs, G, rfl, h, _⟩ := r; exact .base (.dK h)
  | lk ks ds => cases e
def cIsi : List D → Option D
  | [d, .ty c] => match d.tyN with
    | some n => (kitB n c).map .bl
    | none => none
  | _ => none
theorem rc_isi : RCall K (rIsi K) cIsi := by
  intro ds d e H vs rs Q q
  unfold cIsi at e
  split at e
  · split at e
    · rename_i hn
      simp only [Option.map_eq_some_iff] at e
      obtain ⟨b, e, rfl⟩ := e
      obtain ⟨v, w, F, G, rfl, r, r2⟩ := rs.two
      have ty := Rep.tyX r hn
      simp only [Rep] at r2
      obtain ⟨rfl, _⟩ := r2
      exact ⟨v, _, _, _, b, rfl, .ty _, ty, kit_ty e, q _ H [] (New.nil H) (by simp [Rep])⟩
    · cases e
  · cases e
def tys : List D → Bool
  | [] => true
  | .ty _ :: cs => tys cs
  | _ => false
theorem tys_ok {H : Hp} : ∀ {cs : List D} {vs : List V} {F : List Addr}, tys cs = true → RepL K H cs vs F → ∃ us, Paired ClsV vs us
  | [], vs, F, e, r => by simp only [RepL] at r; rw [r.1]; exact ⟨[], .nil⟩
  | d :: cs, vs, F, e, r => by
    cases d with
    | ty c =>
      simp only [RepL] at r
      obtain ⟨v, ws, F1, F2, rfl, rfl, h1, h2⟩ := r
      simp only [Rep] at h1
      obtain ⟨rfl, _⟩ := h1
      obtain ⟨us, p⟩ := tys_ok (by simpa [tys] using e) h2
      exact ⟨_, .cons (.ty c) p⟩
    | _ => cases e
def kitBs (n : String) : List D → Option Bool
  | [] => some false
  | .ty c :: cs => match kitB n c, tys cs with
    | some true, true => some true
    | some false, true => kitBs n cs
    | _, _ => none
  | _ => none
def cIsiT : List D → Option D
  | [d, .tup cs] => match d.tyN with
    | some n => (kitBs n cs).map .bl
    | none => none
  | _ => none
theorem kitBs_ok {H : Hp} {n : String} : ∀ {cs : List D} {vs : List V} {F : List Addr} {b : Bool}, kitBs n cs = some b → RepL K H cs vs F → ∃ us, Paired ClsV vs us ∧ PySem.W.kitAny K (.type n) us = some b
  | [], vs, F, b, e, r => by
    cases e
    simp only [RepL] at r
    rw [r.1]
    exact ⟨[], .nil, rfl⟩
  | d :: cs, vs, F, b, e, r => by
    cases d with
    | ty c =>
      simp only [RepL] at r
      obtain ⟨v, ws, F1, F2, rfl, rfl, h1, h2⟩ := r
      simp only [Rep] at h1
      obtain ⟨rfl, _⟩ := h1
      simp only [kitBs] at e
      split at e
      · rename_i hk ht
        cases e
        -- the rest is not looked at
        obtain ⟨us, p⟩ := tys_ok ht h2
        exact ⟨.type c :: us, .cons (.ty c) p, by unfold PySem.W.kitAny; rw [kit_ty hk]⟩
      · rename_i hk ht
        obtain ⟨us, p, q⟩ := kitBs_ok e h2
        exact ⟨.type c :: us, .cons (.ty c) p, by unfold PySem.W.kitAny; rw [kit_ty hk]; exact q⟩
      · cases e
    | _ => cases e
theorem rc_isiT : RCall K (rIsiT K) cIsiT := by
  intro ds d e H vs rs Q q
  unfold cIsiT at e
  split at e
  · split at e
    · rename_i hn
      simp only [Option.map_eq_some_iff] at e
      obtain ⟨b, e, rfl⟩ := e
      obtain ⟨v, w, F, G, rfl, r, r2⟩ := rs.two
      have ty := Rep.tyX r hn
      simp only [Rep] at r2
      obtain ⟨a, xs, rfl, h2, rl⟩ := r2
      obtain ⟨us, p, k⟩ := kitBs_ok e rl
      exact ⟨v, a, xs, _, us, b, rfl, h2, p, ty, k, q _ H [] (New.nil H) (by simp [Rep])⟩
    · cases e
  · cases e
def cIsiU : List D → Option D := cor cIsi cIsiT
def rIsiU (K : PySem.W.Frag) : List V → Hp → VK → Prop := fun vs H Q => rIsi K vs H Q ∨ rIsiT K vs H Q
theorem rc_isiU : RCall K (rIsiU K) cIsiU := rc_or rc_isi rc_isiT
theorem call_isiU {X : Cx} : CallR X (.builtin "isinstance") (rIsiU X.K) := CallR.or call_isi call_isiT

/-! ### slices -/
abbrev MO := Env → Option (Option Int × Env)
def SPt (K : PySem.W.Frag) (t : TO) (m : MO) : Prop :=
  ∀ ρ b ρ', m ρ = some (b, ρ') → ∀ T σ H fp, Rel K T ρ σ H fp → ∀ Q : Option Int → Hp → Prop,
    (∀ H' fp', Rel K T ρ' σ H' fp' → Pin T H H' → Nog T fp fp' → Fix ρ σ fp ρ' σ fp' → Q b H') → t σ H Q
def mNoPart : MO := fun ρ => some (none, ρ)
theorem sp_none : SPt K tNoPart mNoPart := by
  intro ρ b ρ' e T σ H fp R Q h
  cases e
  exact h H fp R (Pin.refl _ _) (Nog.refl _ _) (Fix.refl _ _ _)
def mPart (m : M) : MO := fun ρ => match m ρ with
  | some (o, ρ1) => match opD ρ1 o with
    | some (.int i) => some (some i, ρ1)
    | _ => none
  | none => none
theorem sp_some {t : TE} {m : M} (hm : SO K t m) : SPt K (tPart t) (mPart m) := by
  intro ρ b ρ' e T σ H fp R Q h
  unfold mPart at e
  split at e
  · rename_i o ρ1 e1
    split at e
    · rename_i i hi
      simp only [Option.some.injEq, Prod.mk.injEq] at e
      obtain ⟨rfl, rfl⟩ := e
      refine hm ρ o _ e1 T σ H fp R _ fun v H1 fp1 F R1 p1 n1 f1 r1 => ?_
      obtain ⟨G, q⟩ := r1.rep R1 hi
      simp only [Rep] at q
      exact ⟨i, q.1, h H1 fp1 R1.subF p1 n1 f1⟩
    · cases e
  · cases e
def cutD (xs : List D) (lo hi : Option Int) : List D := (xs.drop (HT.sIx xs.length 0 lo)).take (HT.sIx xs.length xs.length hi - HT.sIx xs.length 0 lo)
def slD : D → Option Int → Option Int → Option D
  | .lst ds, lo, hi => match D.pureL ds with
    | true => some (.lst (cutD ds lo hi))
    | false => none
  | .fz ds, lo, hi => match D.pureL ds with
    | true => some (.lst (cutD ds lo hi))
    | false => none
  | .tup ds, lo, hi => match D.pureL ds with
    | true => some (.tup (cutD ds lo hi))
    | false => none
  | .str z, lo, hi => match fullLen z.length with
    | true => some (.str (cutS z lo hi))
    | false => none
  | _, _, _ => none
def rSlU (K : PySem.W.Frag) : V → Option Int → Option Int → Hp → VK → Prop := fun x lo hi H Q => rSlL K x lo hi H Q ∨ (fun x lo hi H Q => rSlA K x lo hi H Q ∨ rSlS x lo hi H Q) x lo hi H Q
theorem sl_U {X : Cx} : SlR X (rSlU X.K) := SlR.or sl_list (SlR.or sl_tupA sl_str)
theorem RepL.take0 {H : Hp} {ds : List D} {xs : List V} (h : RepL K H ds xs []) (n : Nat) : RepL K H (ds.take n) (xs.take n) [] := by
  rw [RepL.nil_iff] at h ⊢
  refine ⟨by simp [h.1], fun i d v e1 e2 => ?_⟩
  rw [List.getElem?_take] at e1 e2
  split at e1
  · rename_i hi
    rw [if_pos hi] at e2
    exact h.2 i d v e1 e2
  · cases e1
theorem RepL.drop0 {H : Hp} {ds : List D} {xs : List V} (h : RepL K H ds xs []) (n : Nat) : RepL K H (ds.drop n) (xs.drop n) [] := by
  rw [RepL.nil_iff] at h ⊢
  refine ⟨by simp [h.1], fun i d v e1 e2 => ?_⟩
  rw [List.getElem?_drop] at e1 e2
  exact h.2 _ d v e1 e2
theorem RepL.rev0 {H : Hp} {ds : List D} {xs : List V} (h : RepL K H ds xs []) : RepL K H ds.reverse xs.reverse [] := by
  have hl := h.length
  rw [RepL.nil_iff] at h ⊢
  refine ⟨by simp [h.1], fun i d v e1 e2 => ?_⟩
  have hi : i < ds.length := by have := (List.getElem?_eq_some_iff.mp e1).1; simpa using this
  rw [List.getElem?_reverse hi] at e1
  rw [List.getElem?_reverse (by omega), ← hl] at e2
  exact h.2 _ d v e1 e2
theorem RepL.cut0 {H : Hp} {ds : List D} {xs : List V} (h : RepL K H ds xs []) (lo hi : Option Int) : RepL K H (cutD ds lo hi) (cutV xs lo hi) [] := by
  unfold cutD cutV
  rw [← h.length]
  exact (h.drop0 _).take0 _
theorem sl_ok {H : Hp} {d1 d : D} {lo hi : Option Int} {v : V} {F : List Addr} (e : slD d1 lo hi = some d) (r : Rep K H d1 v F) (Q : VK) (q : ∀ x H' N, New H H' N → Rep K H' d x N → Q x H') : rSlU K v lo hi H Q := by
  cases d1 with
  | lst ds =>
    simp only [slD] at e
    split at e
    · rename_i hp
      cases e
      obtain ⟨a, xs, G, rfl, sq, rl, _⟩ := RepL.sql r
      have := RepL.pure _ xs G rl hp; subst this
      exact .inl ⟨a, xs, rfl, sq, fun p hn => q (.ref p) _ [p] (New.one hn) (Rep.lst_of upd_same ((rl.cut0 _ _).same (same_upd hn)))⟩
    · cases e
  | fz ds =>
    simp only [slD] at e
    split at e
    · rename_i hp
      cases e
      simp only [Rep] at r
      obtain ⟨a, xs, rfl, fz, rl⟩ := r
      have := RepL.pure _ xs F rl hp; subst this
      exact .inl ⟨a, xs, rfl, fz.sq, fun p hn => q (.ref p) _ [p] (New.one hn) (Rep.lst_of upd_same ((rl.cut0 _ _).same (same_upd hn)))⟩
    · cases e
  | tup ds =>
    simp only [slD] at e
    split at e
    · rename_i hp
      cases e
      simp only [Rep] at r
      obtain ⟨a, xs, rfl, sq, rl⟩ := r
      have := RepL.pure _ xs F rl hp; subst this
      refine .inr (.inl ⟨a, xs, rfl, .inl (.inl sq), fun hh => ?_, fun _ p hn => q (.ref p) _ [] (New.one0 hn) (Rep.tup_of upd_same ((rl.cut0 _ _).same (same_upd hn)))⟩)
      refine q (.ref a) H [] (New.nil H) (Rep.tup_of sq ?_)
      have e1 : cutD ds lo hi = ds := by
        unfold cutD
        rw [rl.length, hh.1, hh.2, List.drop_zero, Nat.sub_zero, ← rl.length, List.take_length]
      rw [e1]
      exact rl
    · cases e
  | str z =>
    simp only [slD] at e
    split at e
    · rename_i hz
      cases e
      simp only [Rep] at r
      exact .inr (.inr ⟨_, r.1, fullLen_ok hz, q _ H [] (New.nil H) (by simp [Rep])⟩)
    · cases e
  | non => cases e
  | bl b => cases e
  | int i => cases e
  | ty n => cases e
  | dct ks ds => cases e
  | lk ks ds => cases e
def mSl (m : M) (ml mh : MO) : M := fun ρ => match m ρ with
  | none => none
  | some (o, ρ1) => match ml ρ1 with
    | none => none
    | some (lo, ρ2) => match mh ρ2 with
      | none => none
      | some (hi, ρ3) => match opD ρ3 o with
        | none => none
        | some d1 => (slD d1 lo hi).map fun d => (.tm true d, ρ3)
theorem so_sl {te : TE} {tl th : TO} {m : M} {ml mh : MO} (hm : SO K te m) (hl : SPt K tl ml) (hh : SPt K th mh) : SO K (tSl (rSlU K) te tl th) (mSl m ml mh) := by
  intro ρ o ρ' e T σ H fp R Q h
  unfold mSl at e
  split at e
  · cases e
  · rename_i o1 ρ1 e1
    split at e
    · cases e
    · rename_i lo ρ2 e2
      split at e
      · cases e
      · rename_i hi ρ3 e3
        split at e
        · cases e
        · rename_i d1 k1
          simp only [Option.map_eq_some_iff] at e
          obtain ⟨d, k, e⟩ := e
          cases e
          refine hm ρ o1 ρ1 e1 T σ H fp R _ fun v H1 fp1 F R1 p1 n1 f1 r1 => ?_
          refine hl ρ1 lo ρ2 e2 _ σ H1 fp1 R1 _ fun H2 fp2 R2 p2 n2 f2 => ?_
          refine hh ρ2 hi _ e3 _ σ H2 fp2 R2 _ fun H3 fp3 R3 p3 n3 f3 => ?_
          have r3 := (r1.later p2 n2).later p3 n3
          obtain ⟨F3, q3⟩ := r3.rep R3 k1
          refine sl_ok k q3 Q fun x H4 N nw q => ?_
          obtain ⟨R4, r4⟩ := R3.subF.new nw q
          exact h x H4 fp3 N R4 (((p1.trans (p2.mono fun a t => .inl t)).trans (p3.mono fun a t => .inl t)).trans (Pin.same nw.same)) ((n1.trans (n2.mono fun a t => .inl t)).trans (n3.mono fun a t => .inl t)) ((f1.trans f2).trans f3) r4
def dRev : D → Option D
  | .lst ds => match D.pureL ds with
    | true => some (.lst ds.reverse)
    | false => none
  | .fz ds => match D.pureL ds with
    | true => some (.lst ds.reverse)
    | false => none
  | _ => none
theorem so_rev {te : TE} {m : M} (hm : SO K te m) : SO K (tRevL K te) (mUn dRev m) := by
  refine so_unary (r := fun x H1 Q => ∃ a xs, x = .ref a ∧ SqL K H1 a xs ∧ ∀ p, H1 p = none → Q (.ref p) (upd H1 p (.lst xs.reverse))) (fun d1 d e H v F r Q h => ?_) hm
  unfold dRev at e
  split at e
  · split at e
    · rename_i hp
      cases e
      obtain ⟨a, xs, G, rfl, sq, rl, _⟩ := RepL.sql r
      have := RepL.pure _ xs G rl hp; subst this
      exact ⟨a, xs, rfl, sq, fun p hn => h (.ref p) _ [p] (New.one hn) (Rep.lst_of upd_same (rl.rev0.same (same_upd hn)))⟩
    · cases e
  · split at e
    · rename_i hp
      cases e
      simp only [Rep] at r
      obtain ⟨a, xs, rfl, sq, rl⟩ := r
      have := RepL.pure _ xs F rl hp; subst this
      exact ⟨a, xs, rfl, sq.sq, fun p hn => h (.ref p) _ [p] (New.one hn) (Rep.lst_of upd_same (rl.rev0.same (same_upd hn)))⟩
    · cases e
  · cases e
def dBits : D → Option D
  | .int i => some (.int (Builtin.Int.intBits i : Nat))
  | _ => none
theorem so_bits {te : TE} {m : M} (hm : SO K te m) : SO K (tBits te) (mUn dBits m) := by
  refine so_unary (r := fun x H1 Q => ∃ i, x = .int i ∧ Q (.int (Builtin.Int.intBits i : Nat)) H1) (fun d1 d e H v F r Q h => ?_) hm
  unfold dBits at e
  split at e
  · cases e
    simp only [Rep] at r
    exact ⟨_, r.1, h _ H [] (New.nil H) (by simp [Rep])⟩
  · cases e

/-! ### methods of lists -/
def xAppend : List D → List D → Option (D × List D)
  | ds, [d] => match fullLen ds.length with
    | true => some (.non, ds ++ [d])
    | false => none
  | _, _ => none
theorem fullLen_lt {n : Nat} (h : fullLen n = true) : n < sizeLine := Nat.lt_of_le_of_lt (of_decide_eq_true h) (by decide)
theorem rm_append : RMut K rAppend xAppend := by
  intro ds as d ds' e H a xs vs G Fa he rl ra Q h
  unfold xAppend at e
  split at e
  · rename_i d'
    split at e
    · rename_i hl
      cases e
      have ra' := ra
      simp only [RepL] at ra
      obtain ⟨v, ws, F1, F2, rfl, rfl, h1, rfl, rfl⟩ := ra
      refine ⟨a, xs, v, rfl, rfl, he, by rw [← rl.length]; exact fullLen_lt hl, h .non (xs ++ [v]) [] (G ++ F1) (by simp [Rep]) (rl.app (RepL.one h1)) ?_⟩
      simp only [List.nil_append, List.append_nil]
      exact Sb.refl _
    · cases e
  · cases e
theorem RepL.split {H : Hp} : ∀ {ds : List D} {xs : List V} {F : List Addr} (n : Nat), RepL K H ds xs F → ∃ F1 F2, F = F1 ++ F2 ∧ RepL K H (ds.take n) (xs.take n) F1 ∧ RepL K H (ds.drop n) (xs.drop n) F2
  | ds, xs, F, 0, h => ⟨[], F, rfl, by simp [RepL], by simpa using h⟩
  | [], xs, F, n + 1, h => by
    simp only [RepL] at h
    obtain ⟨rfl, rfl⟩ := h
    exact ⟨[], [], rfl, by simp [RepL], by simp [RepL]⟩
  | d :: ds, xs, F, n + 1, h => by
    simp only [RepL] at h
    obtain ⟨v, vs, F1, F2, rfl, rfl, h1, h2⟩ := h
    obtain ⟨G1, G2, rfl, a, b⟩ := RepL.split n h2
    refine ⟨F1 ++ G1, G2, by rw [List.append_assoc], ?_, by simpa using b⟩
    simp only [List.take_succ_cons, RepL]
    exact ⟨v, _, F1, G1, rfl, rfl, h1, a⟩
def xInsert : List D → List D → Option (D × List D)
  | ds, [.int i, d] => match fullLen ds.length && decide (0 ≤ i) && decide (i < 2 ^ 63) with
    | true => some (.non, ds.take i.toNat ++ [d] ++ ds.drop i.toNat)
    | false => none
  | _, _ => none
theorem rm_insert : RMut K (fun x vs H Q => ∃ (l : Addr) (xs : List V) (i : Int) (y : V), x = .ref l ∧ vs = [.int i, y] ∧ H l = some (.lst xs) ∧ xs.length < sizeLine ∧ 0 ≤ i ∧ i < 2 ^ 63 ∧ Q .non (upd H l (.lst (xs.take i.toNat ++ [y] ++ xs.drop i.toNat)))) xInsert := by
  intro ds as d ds' e H a xs vs G Fa he rl ra Q h
  unfold xInsert at e
  split at e
  · rename_i i d'
    split at e
    · rename_i hl
      cases e
      simp only [Bool.and_eq_true, decide_eq_true_eq] at hl
      simp only [RepL] at ra
      obtain ⟨v0, ws0, F0, F00, rfl, rfl, h0, v, ws, F1, F2, rfl, rfl, h1, rfl, rfl⟩ := ra
      simp only [Rep] at h0
      obtain ⟨rfl, rfl⟩ := h0
      obtain ⟨G1, G2, rfl, s1, s2⟩ := RepL.split i.toNat rl
      refine ⟨a, xs, i, v, rfl, rfl, he, by rw [← rl.length]; exact fullLen_lt hl.1.1, hl.1.2, hl.2, h .non _ [] (G1 ++ F1 ++ G2) (by simp [Rep]) ((s1.app (RepL.one h1)).app s2) ?_⟩
      simp only [List.nil_append, List.append_nil]
      refine Sb.of_perm ?_
      rw [List.append_assoc, List.append_assoc]
      exact (List.perm_append_comm).append_left G1
    · cases e
  · cases e
def xPop : List D → List D → Option (D × List D)
  | ds, [] => (ds[ds.length - 1]?).map fun d => (d, ds.dropLast)
  | _, _ => none
theorem rm_pop : RMut K rPop xPop := by
  intro ds as d ds' e H a xs vs G Fa he rl ra Q h
  unfold xPop at e
  split at e
  · simp only [Option.map_eq_some_iff] at e
    obtain ⟨d', e, q⟩ := e
    cases q
    simp only [RepL] at ra
    obtain ⟨rfl, rfl⟩ := ra
    obtain ⟨F1, F2, rfl, s1, s2⟩ := RepL.split (ds.length - 1) rl
    have hl := rl.length
    have hpos : ds.length - 1 < ds.length := (List.getElem?_eq_some_iff.mp e).1
    have ed : ds.drop (ds.length - 1) = [d] := by
      rw [List.drop_eq_getElem_cons hpos, List.drop_eq_nil_of_le (by omega)]
      rw [List.getElem?_eq_getElem hpos] at e
      cases e
      rfl
    have hpos2 : xs.length - 1 < xs.length := by omega
    have ex : xs.drop (ds.length - 1) = [xs[xs.length - 1]] := by
      rw [hl, List.drop_eq_getElem_cons hpos2, List.drop_eq_nil_of_le (by omega)]
    rw [ed, ex] at s2
    simp only [RepL] at s2
    obtain ⟨v, ws, Fd, Fr, q1, rfl, rd, rfl, rfl⟩ := s2
    cases q1
    refine ⟨a, xs, xs[xs.length - 1], rfl, rfl, he, List.getElem?_eq_getElem hpos2, h _ _ Fd F1 rd ?_ ?_⟩
    · rw [List.dropLast_eq_take, List.dropLast_eq_take, ← hl]
      exact s1
    · simp only [List.append_nil]
      exact Sb.of_perm List.perm_append_comm
  · cases e
def xReverse : List D → List D → Option (D × List D)
  | ds, [] => match D.pureL ds with
    | true => some (.non, ds.reverse)
    | false => none
  | _, _ => none
theorem rm_reverse : RMut K rReverse xReverse := by
  intro ds as d ds' e H a xs vs G Fa he rl ra Q h
  unfold xReverse at e
  split at e
  · split at e
    · rename_i hp
      cases e
      have := RepL.pure _ xs G rl hp; subst this
      simp only [RepL] at ra
      obtain ⟨rfl, rfl⟩ := ra
      exact ⟨a, xs, rfl, rfl, he, h .non _ [] [] (by simp [Rep]) rl.rev0 (Sb.refl _)⟩
    · cases e
  · cases e
def xClear : List D → List D → Option (D × List D)
  | _, [] => some (.non, [])
  | _, _ => none
theorem rm_clear : RMut K rClear xClear := by
  intro ds as d ds' e H a xs vs G Fa he rl ra Q h
  unfold xClear at e
  split at e
  · cases e
    simp only [RepL] at ra
    obtain ⟨rfl, rfl⟩ := ra
    exact ⟨a, xs, rfl, rfl, he, h .non [] [] [] (by simp [Rep]) (by simp [RepL]) ⟨fun _ => List.nodup_nil, (fun _ z => nomatch z)⟩⟩
  · cases e
end
end U

namespace U
open PySem L2

section
variable {K : PySem.W.Frag}
/-! ### what a for walks -/
def itemsP : D → Bool
  | .lst ds => D.pureL ds
  | _ => false
/-- the slots that are held while this is walked -/
def holdOk (ρ : Env) (o : Opd) (d : D) : Option (List Nat) := match o with
  | .tm _ _ => some []
  | .sl i => match d.pure, look ρ i with
    | true, _ => some []
    | false, some (.s, _) => some []
    | false, some (.h, _) => some []
    | false, some _ => match itemsP d with
      | true => some [i]
      | false => none
    | false, none => none
theorem src_hold {T T' : Addr → Prop} {ρ : Env} {σ : L2.St} {H : Hp} {fp : Fp} {o : Opd} {d : D} {v : V} {F F0 : List Addr} {is : List Nat} (R : Rel K (addF T F0) ρ σ H fp) (r : OR K T' σ H fp o v F) (hF : ∀ a ∈ F, a ∈ F0) (hd : opD ρ o = some d) (hh : holdOk ρ o d = some is) :
    ∃ TF, Rel K (addF T (F0 ++ TF)) ρ σ H fp ∧ (∀ a ∈ TF, a ∈ F0 ∨ ∃ i, a ∈ fp i) ∧ ∀ F1 : List Addr, (∀ a ∈ F0 ++ TF, a ∈ F1) → ∀ js : List Nat, (∀ i ∈ is, i ∈ js) → ∀ ρ' σ' H' fp', Rel K (addF T F1) ρ' σ' H' fp' → Fix (fzs js ρ) σ fp ρ' σ' fp' → Pin (addF T F1) H H' → ∃ F', Rep K H' d v F' ∧ (itemsP d = true ∨ ∀ a ∈ F', a ∈ F1) := by
  cases o with
  | tm u d' =>
    cases hd
    refine ⟨[], R.mono fun a t => t.imp id (by simp), (fun _ z => nomatch z), fun F1 hF1 js _ ρ' σ' H' fp' R' f' p' => ⟨F, Rep.pin p' d v F r.1 fun a ha => .inr (hF1 a (by simpa using hF a ha)), .inr fun a ha => hF1 a (by simpa using hF a ha)⟩⟩
  | sl i =>
    simp only [opD] at hd
    cases q : look ρ i with
    | none => rw [q] at hd; cases hd
    | some x =>
      obtain ⟨fl, d'⟩ := x
      rw [q] at hd
      simp only [Option.map_some, Option.some.injEq] at hd
      subst hd
      have rp := R.at_ q r.1
      simp only [holdOk, q] at hh
      split at hh
      · rename_i hp
        cases hh
        have e0 := Rep.pure d' v _ rp hp
        rw [e0] at rp
        exact ⟨[], R.mono fun a t => t.imp id (by simp), (fun _ z => nomatch z), fun F1 hF1 js _ ρ' σ' H' fp' R' f' p' => ⟨[], Rep.pin p' d' v [] rp (fun _ z => nomatch z), .inr (fun _ z => nomatch z)⟩⟩
      · rename_i d2 hp hs
        cases hs
        cases hh
        refine ⟨fp i, ?_, fun a ha => .inr ⟨i, ha⟩, fun F1 hF1 js _ ρ' σ' H' fp' R' f' p' => ⟨fp i, Rep.pin p' d' v _ rp fun a ha => .inr (hF1 a (List.mem_append_right _ ha)), .inr fun a ha => hF1 a (List.mem_append_right _ ha)⟩⟩
        refine (R.pinF (F := fp i) (fun a ha => rp.fresh ha) fun a ha j fl' d' e' u => ?_).mono fun a t => ?_
        · by_cases hj : j = i
          · subst hj; rw [q] at e'; cases e'; cases u
          · exact R.not_uq q e' u hj ha
        · rcases t with t | t
          · exact .inl (.inl t)
          · rcases List.mem_append.mp t with t | t
            · exact .inl (.inr t)
            · exact .inr t
      · rename_i d2 hp hs
        cases hs
        cases hh
        refine ⟨fp i, ?_, fun a ha => .inr ⟨i, ha⟩, fun F1 hF1 js _ ρ' σ' H' fp' R' f' p' => ⟨fp i, Rep.pin p' d' v _ rp fun a ha => .inr (hF1 a (List.mem_append_right _ ha)), .inr fun a ha => hF1 a (List.mem_append_right _ ha)⟩⟩
        refine (R.pinF (F := fp i) (fun a ha => rp.fresh ha) fun a ha j fl' d' e' u => ?_).mono fun a t => ?_
        · by_cases hj : j = i
          · subst hj; rw [q] at e'; cases e'; cases u
          · exact R.not_uq q e' u hj ha
        · rcases t with t | t
          · exact .inl (.inl t)
          · rcases List.mem_append.mp t with t | t
            · exact .inl (.inr t)
            · exact .inr t
      · rename_i x2 hns hnh hp hs
        split at hh
        · rename_i hi
          cases hh
          refine ⟨[], R.mono fun a t => t.imp id (by simp), (fun _ z => nomatch z), fun F1 hF1 js hjs ρ' σ' H' fp' R' f' p' => ?_⟩
          have hk : look (fzs js ρ) i = some (.b, d') := by
            rw [look_fzs, if_pos (hjs i (by simp)), q]
            cases fl with
            | o => rfl
            | l => rfl
            | b => rfl
            | s => exact (hns d' (Option.some.inj hs).symm).elim
            | h => exact (hnh d' (Option.some.inj hs).symm).elim
          obtain ⟨q1, q2, q3⟩ := (f' i _ _ hk).2 rfl
          exact ⟨fp' i, R'.at_ q1 (q3.trans r.1), .inl hi⟩
        · cases hh
      · rename_i hs
        cases hs
/-- the items of what is walked -/
def walkD : D → Option (List D)
  | .lst ds => some ds
  | .tup ds => some ds
  | .fz ds => some ds
  | .str z => some (z.cps.toList.map fun c => .str ⟨#[c]⟩)
  | _ => none
theorem wk_lst {a : Addr} {ds : List D} {TF : List Addr} {I : Hp → Prop} (h : ∀ H, I H → ∃ xs G, SqL K H a xs ∧ RepL K H ds xs G ∧ ∀ b ∈ G, b ∈ TF) : Wk K (Itl K a) ds TF I where
  go := fun i H hI hi => by
    obtain ⟨xs, G, sq, rl, _⟩ := h H hI
    have : i < xs.length := by rw [← rl.length]; exact hi
    exact ⟨xs, xs[i], sq, List.getElem?_eq_getElem this⟩
  stop := fun H hI => by
    obtain ⟨xs, G, sq, rl, _⟩ := h H hI
    exact ⟨xs, sq, by rw [← rl.length]; exact Nat.le_refl _⟩
  yld := fun i H x H' d hI hd hy => by
    obtain ⟨xs, G, sq, rl, hG⟩ := h H hI
    obtain ⟨rfl, hx⟩ := hy
    obtain ⟨v, G', e, r, s⟩ := rl.get hd
    rw [hx xs sq] at e
    cases e
    exact ⟨Same.refl _, G', r, fun b hb => hG b (s.subset hb)⟩
theorem wk_tup {a : Addr} {ds : List D} {TF : List Addr} {I : Hp → Prop} (h : ∀ H, I H → ∃ xs G, SqT K H a xs ∧ RepL K H ds xs G ∧ ∀ b ∈ G, b ∈ TF) : Wk K (Itt K a) ds TF I where
  go := fun i H hI hi => by
    obtain ⟨xs, G, sq, rl, _⟩ := h H hI
    have : i < xs.length := by rw [← rl.length]; exact hi
    exact ⟨xs, xs[i], sq, List.getElem?_eq_getElem this⟩
  stop := fun H hI => by
    obtain ⟨xs, G, sq, rl, _⟩ := h H hI
    exact ⟨xs, sq, by rw [← rl.length]; exact Nat.le_refl _⟩
  yld := fun i H x H' d hI hd hy => by
    obtain ⟨xs, G, sq, rl, hG⟩ := h H hI
    obtain ⟨rfl, hx⟩ := hy
    obtain ⟨v, G', e, r, s⟩ := rl.get hd
    rw [hx xs sq] at e
    cases e
    exact ⟨Same.refl _, G', r, fun b hb => hG b (s.subset hb)⟩
theorem wk_str {z : Str} {TF : List Addr} {I : Hp → Prop} : Wk K (Its z) (z.cps.toList.map fun c => .str ⟨#[c]⟩) TF I where
  go := fun i H hI hi => by show i < z.cps.size; simpa using hi
  stop := fun H hI => by show z.cps.size ≤ _; simp
  yld := fun i H x H' d hI hd hy => by
    obtain ⟨rfl, c, hc, rfl⟩ := hy
    rw [List.getElem?_map] at hd
    rw [show z.cps.toList[i]? = z.cps[i]? from Array.getElem?_toList, hc] at hd
    cases hd
    exact ⟨Same.refl _, [], by simp [Rep], (fun _ q => nomatch q)⟩
theorem lst_at {H : Hp} {a : Addr} {ds : List D} {F TF : List Addr} (r : Rep K H (.lst ds) (.ref a) F) (h : itemsP (.lst ds) = true ∨ ∀ b ∈ F, b ∈ TF) : ∃ xs G, SqL K H a xs ∧ RepL K H ds xs G ∧ ∀ b ∈ G, b ∈ TF := by
  obtain ⟨a', xs, G, e, sq, rl, sb⟩ := RepL.sql r
  cases e
  rcases h with h | h
  · have := RepL.pure _ xs G rl h; subst this
    exact ⟨xs, [], sq, rl, (fun _ z => nomatch z)⟩
  · exact ⟨xs, G, sq, rl, fun b hb => h b (sb.subset hb)⟩
theorem tup_at {H : Hp} {a : Addr} {ds : List D} {F TF : List Addr} (r : Rep K H (.tup ds) (.ref a) F) (h : itemsP (.tup ds) = true ∨ ∀ b ∈ F, b ∈ TF) : ∃ xs G, SqT K H a xs ∧ RepL K H ds xs G ∧ ∀ b ∈ G, b ∈ TF := by
  simp only [Rep] at r
  obtain ⟨a', xs, e, sq, rl⟩ := r
  cases e
  rcases h with h | h
  · cases h
  · exact ⟨xs, F, .inl (.inl sq), rl, h⟩
theorem fz_at {H : Hp} {a : Addr} {ds : List D} {F TF : List Addr} (r : Rep K H (.fz ds) (.ref a) F) (h : itemsP (.fz ds) = true ∨ ∀ b ∈ F, b ∈ TF) : ∃ xs G, SqL K H a xs ∧ RepL K H ds xs G ∧ ∀ b ∈ G, b ∈ TF := by
  simp only [Rep] at r
  obtain ⟨a', xs, e, sq, rl⟩ := r
  cases e
  rcases h with h | h
  · cases h
  · exact ⟨xs, F, sq.sq, rl, h⟩
def iSeqU (K : PySem.W.Frag) (t : TE) : TI := fun σ H R => iList K t σ H R ∨ (fun σ H R => iTup K t σ H R ∨ iStr t σ H R) σ H R
theorem PI.or {X : Cx} {tg it : Expr} {w w' : TI} (h : PI X tg it w) (h' : PI X tg it w') : PI X tg it (fun σ H R => w σ H R ∨ w' σ H R) := ⟨fun pins s σ H R I q => q.elim (h.run pins s σ H R I) (h'.run pins s σ H R I)⟩
theorem pi_seqU {X : Cx} {tg l : Expr} {t : TE} (h : PE X l t) : PI X tg l (iSeqU X.K t) := PI.or (pi_list h) (PI.or (pi_tup h) (pi_str h))
def mSrc (m : M) : MI := fun ρ => match m ρ with
  | none => none
  | some (o, ρ1) => match opD ρ1 o with
    | none => none
    | some d => match walkD d, holdOk ρ1 o d with
      | some ds, some is => some (ds, ρ1, is)
      | _, _ => none
theorem si_seq {t : TE} {m : M} (hm : SO K t m) : SI K (iSeqU K t) (mSrc m) := by
  intro ρ ds ρ0 is e T σ H fp R Q h
  unfold mSrc at e
  split at e
  · cases e
  · rename_i o ρ1 e1
    split at e
    · cases e
    · rename_i d k1
      split at e
      · rename_i ds' is' hw hh
        simp only [Option.some.injEq, Prod.mk.injEq] at e
        obtain ⟨rfl, rfl, rfl⟩ := e
        have main : ∀ (v : V) (H1 : Hp) (fp1 : Fp) (F : List Addr), Rel K (addF T F) ρ1 σ H1 fp1 → Pin T H H1 → Nog T fp fp1 → Fix ρ σ fp ρ1 σ fp1 → OR K T σ H1 fp1 o v F → ∃ (TF : List Addr) (I : Hp → Prop), I H1 ∧ (∀ H', I H' → ∃ F', Rep K H' d v F' ∧ (itemsP d = true ∨ ∀ a ∈ F', a ∈ TF)) ∧ ∀ J, Wk K J ds' TF I → Q J H1 := by
          intro v H1 fp1 F R1 p1 n1 f1 r1
          obtain ⟨TF, R2, hTF, hI⟩ := src_hold R1 r1 (fun _ h => h) k1 hh
          refine ⟨F ++ TF, fun H' => ∃ F', Rep K H' d v F' ∧ (itemsP d = true ∨ ∀ a ∈ F', a ∈ F ++ TF), ?_, fun H' z => z, fun J W => ?_⟩
          · exact hI (F ++ TF) (fun _ h => h) is' (fun _ h => h) _ σ H1 fp1 (R2.held is') (Fix.refl _ _ _) (Pin.refl _ _)
          · exact h J H1 fp1 (F ++ TF) _ R2 p1 n1 f1 W fun ρ' σ' H' fp' R' f' p' => hI (F ++ TF) (fun _ h => h) is' (fun _ h => h) ρ' σ' H' fp' R' f' p'
        cases d with
        | lst ds =>
          cases hw
          refine .inl (hm ρ o ρ1 e1 T σ H fp R _ fun v H1 fp1 F R1 p1 n1 f1 r1 => ?_)
          obtain ⟨TF, I, hI1, hI, go⟩ := main v H1 fp1 F R1 p1 n1 f1 r1
          obtain ⟨F', rF, hF'⟩ := hI H1 hI1
          have rF0 := rF
          simp only [Rep] at rF
          obtain ⟨a, xs, G, rfl, _, _, _⟩ := rF
          obtain ⟨xs, G, sq, _⟩ := lst_at rF0 hF'
          exact ⟨a, rfl, ⟨xs, sq⟩, go _ (wk_lst fun H' hI' => let ⟨F2, r2, h2⟩ := hI H' hI'; lst_at r2 h2)⟩
        | tup ds =>
          cases hw
          refine .inr (.inl (hm ρ o ρ1 e1 T σ H fp R _ fun v H1 fp1 F R1 p1 n1 f1 r1 => ?_))
          obtain ⟨TF, I, hI1, hI, go⟩ := main v H1 fp1 F R1 p1 n1 f1 r1
          obtain ⟨F', rF, hF'⟩ := hI H1 hI1
          have rF0 := rF
          simp only [Rep] at rF
          obtain ⟨a, xs, rfl, _, _⟩ := rF
          obtain ⟨xs, G, sq, _⟩ := tup_at rF0 hF'
          exact ⟨a, rfl, ⟨xs, sq⟩, go _ (wk_tup fun H' hI' => let ⟨F2, r2, h2⟩ := hI H' hI'; tup_at r2 h2)⟩
        | str z =>
          cases hw
          refine .inr (.inr (hm ρ o ρ1 e1 T σ H fp R _ fun v H1 fp1 F R1 p1 n1 f1 r1 => ?_))
          obtain ⟨TF, I, hI1, hI, go⟩ := main v H1 fp1 F R1 p1 n1 f1 r1
          obtain ⟨F', rF, hF'⟩ := hI H1 hI1
          simp only [Rep] at rF
          exact ⟨z, rF.1, go _ wk_str⟩
        | non => cases hw
        | bl b => cases hw
        | int i => cases hw
        | ty n => cases hw
        | fz ds =>
          cases hw
          refine .inl (hm ρ o ρ1 e1 T σ H fp R _ fun v H1 fp1 F R1 p1 n1 f1 r1 => ?_)
          obtain ⟨TF, I, hI1, hI, go⟩ := main v H1 fp1 F R1 p1 n1 f1 r1
          obtain ⟨F', rF, hF'⟩ := hI H1 hI1
          have rF0 := rF
          simp only [Rep] at rF
          obtain ⟨a, xs, rfl, _, _⟩ := rF
          obtain ⟨xs, G, sq, _⟩ := fz_at rF0 hF'
          exact ⟨a, rfl, ⟨xs, sq⟩, go _ (wk_lst fun H' hI' => let ⟨F2, r2, h2⟩ := hI H' hI'; fz_at r2 h2)⟩
        | dct ks ds => cases hw
        | lk ks ds => cases hw
      · cases e
/-! ### range -/
def upTo (lo : Int) (n : Nat) : List D := (List.range n).map fun i => .int (lo + (i : Nat))
def rangeD : List D → Option (List D)
  | [.int j] => match decide (-(2 ^ 62) ≤ j) && decide (j < 2 ^ 62) with
    | true => some (upTo 0 j.toNat)
    | false => none
  | _ => none
def rangeD2 : List D → Option (List D)
  | [.int i, .int j] => match decide (-(2 ^ 62) ≤ i) && decide (i < 2 ^ 62) && decide (-(2 ^ 62) ≤ j) && decide (j < 2 ^ 62) with
    | true => some (upTo i (j - i).toNat)
    | false => none
  | _ => none
def downBy (lo : Int) (n : Nat) : List D := (List.range n).map fun i => .int (lo - (i : Nat))
def rangeD3 : List D → Option (List D)
  | [.int i, .int j, .int (-1)] => match decide (-(2 ^ 62) ≤ i) && decide (i < 2 ^ 62) && decide (-(2 ^ 62) ≤ j) && decide (j < 2 ^ 62) with
    | true => some (downBy i (i - j).toNat)
    | false => none
  | _ => none
def mRange (f : List D → Option (List D)) (ma : MA) : MI := fun ρ => match ma ρ with
  | none => none
  | some (os, ρ1) => match opDs ρ1 os with
    | none => none
    | some ds => (f ds).map fun xs => (xs, ρ1, [])
theorem wk_range {lo : Int} {n : Nat} {TF : List Addr} {I : Hp → Prop} : Wk K (Itr lo n) (upTo lo n) TF I where
  go := fun i H hI hi => by show i < n; simpa [upTo] using hi
  stop := fun H hI => by show n ≤ _; simp [upTo]
  yld := fun i H x H' d hI hd hy => by
    obtain ⟨rfl, rfl⟩ := hy
    have hi : i < n := by have := (List.getElem?_eq_some_iff.mp hd).1; simpa [upTo] using this
    simp only [upTo, List.getElem?_map, List.getElem?_range hi, Option.map_some] at hd
    cases hd
    exact ⟨Same.refl _, [], by simp [Rep], (fun _ q => nomatch q)⟩
theorem wk_down {lo : Int} {n : Nat} {TF : List Addr} {I : Hp → Prop} : Wk K (Itc lo (-1) n) (downBy lo n) TF I where
  go := fun i H hI hi => by show i < n; simpa [downBy] using hi
  stop := fun H hI => by show n ≤ _; simp [downBy]
  yld := fun i H x H' d hI hd hy => by
    obtain ⟨rfl, rfl⟩ := hy
    have hi : i < n := by have := (List.getElem?_eq_some_iff.mp hd).1; simpa [downBy] using this
    simp only [downBy, List.getElem?_map, List.getElem?_range hi, Option.map_some] at hd
    cases hd
    refine ⟨Same.refl _, [], ?_, (fun _ q => nomatch q)⟩
    simp only [Rep, and_true]
    congr 1
    omega
theorem si_of {wi : List V → Hp → (It → Hp → Prop) → Prop} {f : List D → Option (List D)} {ta : TA} {ma : MA} (ha : SA K ta ma)
    (hr : ∀ ds xs, f ds = some xs → ∀ H vs, Reps K H ds vs → ∀ Q : It → Hp → Prop, (∀ J, Wk K J xs [] (fun _ => True) → Q J H) → wi vs H Q) : SI K (fun σ H R => ta σ H fun vs H1 => wi vs H1 R) (mRange f ma) := by
  intro ρ ds ρ0 is e T σ H fp R Q h
  unfold mRange at e
  split at e
  · cases e
  · rename_i os ρ1 e1
    split at e
    · cases e
    · rename_i ds' k
      simp only [Option.map_eq_some_iff] at e
      obtain ⟨xs, e2, e⟩ := e
      simp only [Prod.mk.injEq] at e
      obtain ⟨rfl, rfl, rfl⟩ := e
      refine ha ρ os ρ1 e1 T σ H fp R _ fun vs H1 fp1 G R1 p1 n1 f1 r1 => ?_
      exact hr ds' xs e2 H1 vs (ORs.reps R1 r1 k) Q fun J W => h J H1 fp1 [] (fun _ => True) R1.subF.addNil p1 n1 f1 W fun _ _ _ _ _ _ _ => trivial
theorem si_range1 {ta : TA} {ma : MA} (ha : SA K ta ma) : SI K (iRng1 ta) (mRange rangeD ma) := by
  refine si_of (wi := fun vs H1 R => ∃ j : Int, vs = [.int j] ∧ -(2 ^ 62) ≤ j ∧ j < 2 ^ 62 ∧ R (Itr 0 j.toNat) H1) ha fun ds xs e H vs rs Q q => ?_
  unfold rangeD at e
  split at e
  · split at e
    · rename_i hc
      cases e
      simp only [Bool.and_eq_true, decide_eq_true_eq] at hc
      obtain ⟨v, F, rfl, r⟩ := rs.one
      simp only [Rep] at r
      obtain ⟨rfl, _⟩ := r
      exact ⟨_, rfl, hc.1, hc.2, q _ wk_range⟩
    · cases e
  · cases e
theorem si_range2 {ta : TA} {ma : MA} (ha : SA K ta ma) : SI K (iRng2 ta) (mRange rangeD2 ma) := by
  refine si_of (wi := fun vs H1 R => ∃ i j : Int, vs = [.int i, .int j] ∧ (-(2 ^ 62) ≤ i ∧ i < 2 ^ 62 ∧ -(2 ^ 62) ≤ j ∧ j < 2 ^ 62) ∧ R (Itr i (j - i).toNat) H1) ha fun ds xs e H vs rs Q q => ?_
  unfold rangeD2 at e
  split at e
  · split at e
    · rename_i hc
      cases e
      simp only [Bool.and_eq_true, decide_eq_true_eq] at hc
      obtain ⟨v, w, F, G, rfl, r, r2⟩ := rs.two
      simp only [Rep] at r r2
      obtain ⟨rfl, _⟩ := r; obtain ⟨rfl, _⟩ := r2
      exact ⟨_, _, rfl, ⟨hc.1.1.1, hc.1.1.2, hc.1.2, hc.2⟩, q _ wk_range⟩
    · cases e
  · cases e
theorem si_range3 {ta : TA} {ma : MA} (ha : SA K ta ma) : SI K (iRng3 ta) (mRange rangeD3 ma) := by
  refine si_of (wi := fun vs H1 R => ∃ (i j c : Int) (n : Nat), vs = [.int i, .int j, .int c] ∧ RgC i j c n ∧ R (Itc i c n) H1) ha fun ds xs e H vs rs Q q => ?_
  unfold rangeD3 at e
  split at e
  · split at e
    · rename_i hc
      cases e
      simp only [Bool.and_eq_true, decide_eq_true_eq] at hc
      obtain ⟨v, ws, F, rfl, r, rs⟩ := rs
      obtain ⟨v2, w2, F2, G2, rfl, r2, r3⟩ := Reps.two rs
      simp only [Rep] at r r2 r3
      obtain ⟨rfl, _⟩ := r; obtain ⟨rfl, _⟩ := r2; obtain ⟨rfl, _⟩ := r3
      exact ⟨_, _, _, _, rfl, RgC.neg hc.1.1.1 hc.1.1.2 hc.1.2 hc.2, q _ wk_down⟩
    · cases e
  · cases e
end
end U

/-! U12: enumerate(tuple), which the layer has of lists alone. -/
namespace U
open PySem PySem.Spec PyProof.Rows L2
section
theorem meets_enumerate_one {v : Value} {o : Obj} {H : Heap → Prop} (B : Begins v o H) :
    Meets (Builtin.«enumerate.__new__» ⟨[.type "enumerate", v], []⟩) (fun _ R s => H s.heap ∧
      R (.ok (.ret (.ref (s.heap.push o).objs.size))) { s with heap := (s.heap.push o).push { cls := .type "enumerate", data := .fields #[.none, .bool false, .ref s.heap.objs.size, rawInt 0, .none, .none] } }) :=
  .of_wp fun prog w A R s h => by
    obtain ⟨hp, g, d, tk, os⟩ := s; obtain ⟨h1, h⟩ := h
    have hsub := sub_enumerate
    have q1 : ∀ {A' : Around} {E : Value → Shared → Prop} {Q : Value → Shared → Prop}, Q (.ref hp.objs.size) ⟨hp.push o, g, d, tk, os⟩ → wpAny (model prog w) A' (pyIter v) Q E ⟨hp, g, d, tk, os⟩ :=
      fun q => B.iter prog w _ _ ⟨hp, g, d, tk, os⟩ _ h1 q
    wp_walk using q1
    refine wpAny_stack_any fun st => wpAny_pure ?_
    split
    · rename_i c _ _ _ _ _
      cases (c == Value.type "enumerate")
      · wp_walk using q1
        exact ⟨_, rfl, h⟩
      · wp_walk using q1
        exact ⟨_, rfl, h⟩
    · wp_walk using q1
      exact ⟨_, rfl, h⟩
theorem call_enumerate_B {prog : Program} {w : World} {A : Around} {E : Value → Shared → Prop} {s : Shared} {v : Value} {o : Obj} {H : Heap → Prop} {Q : Value → Shared → Prop} (B : Begins v o H) (h1 : H s.heap)
    (h : ∀ h', IsEnum h' (s.heap.objs.size + 1) s.heap.objs.size 0 .none → h'.get? s.heap.objs.size = some o → h'.objs.size = s.heap.objs.size + 2 →
      (∀ b o, s.heap.get? b = some o → h'.get? b = some o) → Q (.ref (s.heap.objs.size + 1)) { s with heap := h' }) :
    wpAny (model prog w) A (call (.type "enumerate") [v]) Q E s := by
  refine callType_new F.called_enumerate (by decide) (F.typeCall_enumerate_1 _) (F.newCall_enumerate_1 _) (fun obj => F.args_object_init_2 obj _) F.entry_enumerate_new
    (meets_enumerate_one B) ⟨h1, ?_⟩
  have hz : (s.heap.push o).objs.size = s.heap.objs.size + 1 := Heap.size_push ..
  show _ ∧ _
  rw [hz]
  have he : IsEnum ((s.heap.push o).push { cls := .type "enumerate", data := .fields #[.none, .bool false, .ref s.heap.objs.size, rawInt 0, .none, .none] }) (s.heap.objs.size + 1) s.heap.objs.size 0 .none := by
    have := Heap.get?_push_size (s.heap.push o) (o := { cls := .type "enumerate", data := .fields #[.none, .bool false, .ref s.heap.objs.size, rawInt 0, .none, .none] }) rfl
    rw [hz] at this; exact this
  refine ⟨⟨_, he, rfl⟩, h _ he (Heap.get?_push_of_some _ (Heap.get?_push_size _ B.free)) (by rw [Heap.size_push, hz]) fun b o x => Heap.get?_push_of_some _ (Heap.get?_push_of_some _ x)⟩
/-- the tuple at a, each item in a new pair -/
def IteT (K : PySem.W.Frag) (a : Addr) : It :=
  ⟨fun i H => ∃ (xs : List V) (x : V), SqT K H a xs ∧ xs[i]? = some x, fun i H v H' => ∃ T x, v = .ref T ∧ H T = none ∧ H' = upd H T (.tup [.int (i : Nat), x]) ∧ ∀ xs, SqT K H a xs → xs[i]? = some x, fun i H => ∃ xs : List V, SqT K H a xs ∧ xs.length = i⟩
theorem turn_enumT {P : Program} {w : World} {K : PySem.W.Frag} {elts : List Expr} {kk : Nat} {tpos : Pos} (a e it : Addr) :
    Turn P w K (.Tuple elts kk tpos) (IteT K a) [e, it] e (fun i h => (∃ old, IsEnum h e it ((i : Nat) : Int) old) ∧ h.IsTupleIter it a i ∧ e ≠ it) where
  mem := by simp
  obj := fun i h st b hb => by
    obtain ⟨⟨old, he⟩, ⟨o, ho, hc, hd⟩, _⟩ := st
    have e' : b = e ∨ b = it := by simpa using hb
    rcases e' with z | z
    · rw [z]; exact ⟨_, he, fun v q => nomatch q⟩
    · rw [z]; exact ⟨o, ho, fun v q => by rw [hd] at q; cases q⟩
  keep := fun i h h' st k => let ⟨⟨old, he⟩, hi, hne⟩ := st; ⟨⟨old, k e (by simp) _ he⟩, hi.at fun o q => k it (by simp) o q, hne⟩
  item := by
    intro X hP hw hK hc i pins s σ H E I hf st hg
    subst hP hw hK
    obtain ⟨⟨old, he⟩, hit, hne⟩ := st
    obtain ⟨xs, x, hq, hx⟩ := hg
    obtain ⟨its, rv, p, hz⟩ := I.tuple hq
    obtain ⟨u, hu, ru⟩ := rv.get hx
    have hel : e < s.heap.objs.size := Heap.lt_size he
    have hil : it < s.heap.objs.size := by obtain ⟨_, q, _⟩ := hit; exact Heap.lt_size q
    have pt : s.heap.IsTuple a its.toArray := p
    have hae : a ≠ e := fun z => by
      obtain ⟨o, ho, hc', _⟩ := pt
      rw [z] at ho
      have he' : s.heap.get? e = some _ := he
      rw [ho] at he'
      cases he'
      exact absurd (show Value.type "enumerate" = Value.type "tuple" from hc') (by decide)
    have hait : a ≠ it := fun z => by
      obtain ⟨o, ho, hc', _⟩ := pt
      obtain ⟨o2, ho2, hc2, _⟩ := id hit
      rw [z, ho2] at ho
      cases ho
      rw [hc2] at hc'
      exact absurd hc' (by decide)
    have hi : i < its.toArray.size := by
      have := (List.getElem?_eq_some_iff.mp hu).1
      simpa using this
    refine wpAny_pyNext_enum_itemD (Draws.tuple (A := X.A.in1) (I.ok.hd hc) it a hait its.toArray) he ⟨hit, pt⟩ hi hne (fun z => (List.mem_cons.mp z).elim hne fun z => hae (List.mem_singleton.mp z).symm) fun y h' tk hy ho hst' hT hsz hk => ?_
    have ey : y = u := by
      have hy' : its.toArray[i]? = some y := hy
      rw [show its.toArray[i]? = its[i]? from by simp, hu] at hy'
      exact (Option.some.inj hy').symm
    subst ey
    refine ⟨_, rfl, wpAny_letOwnedTupleGo_enum (s := { s with heap := h', toks := tk + 1 }) ho fun h'' he' sb => ?_⟩
    have hT2 : h''.get? s.heap.objs.size = some { cls := .type "tuple", data := .seq #[.int i tk, y] } := (sb.2 _ (Nat.ne_of_gt hel)).trans hT
    have new : ObjOk X.prog X.w (upd H s.heap.objs.size (.tup [.int (i : Nat), x])) h'' s.heap.objs.size (.tup [.int (i : Nat), x]) :=
      ⟨by show 2 ≤ sizeLine; decide, [.int i tk, y], .cons ⟨_, rfl⟩ (.cons ru .nil), ⟨_, hT2, rfl, _, rfl⟩⟩
    have I1 : Inv X pins σ (upd H s.heap.objs.size (.tup [.int (i : Nat), x])) { s with heap := h'', toks := tk + 1 } :=
      I.turnedNew (ch := [e, it]) (fun b ob hb q => (sb.2 b (fun z => hb (by simp [z]))).trans (hk b ob (fun z => hb (by simp [z])) (fun z => hb (by simp [z])) q)) hf (Nat.le_refl _) new
    refine ⟨.ref s.heap.objs.size, _, I1, rfl, ⟨_, x, rfl, I.hok.fresh (Nat.le_refl _), rfl, fun ys hy => by rw [I.tuple_inj hy hq]; exact hx⟩, ⟨⟨y, ?_⟩, hst'.1.at fun o q => (sb.2 it (Ne.symm hne)).trans q, hne⟩, fun b hb => ?_⟩
    · have e1 : ((i + 1 : Nat) : Int) = (i : Int) + 1 := by omega
      rw [e1]; exact he'
    · have hb' : b < s.heap.objs.size := by
        have e' : b = e ∨ b = it := by simpa using hb
        rcases e' with z | z
        · rw [z]; exact hel
        · rw [z]; exact hil
      rw [upd_ne (Nat.ne_of_lt hb')]
      exact (hf b hb).1
  done := by
    intro X hP hw hK hc i pins s σ H E I hf st hg
    subst hP hw hK
    obtain ⟨⟨old, he⟩, hit, hne⟩ := st
    obtain ⟨xs, hq, hx⟩ := hg
    obtain ⟨its, rv, p, hz⟩ := I.tuple hq
    obtain ⟨f0, f1, f2, f3, f4, f5⟩ := hf it (by simp)
    have hl := rv.length
    have pt : s.heap.IsTuple a its.toArray := p
    have hait : a ≠ it := fun z => by
      obtain ⟨o, ho, hc', _⟩ := pt
      obtain ⟨o2, ho2, hc2, _⟩ := id hit
      rw [z, ho2] at ho
      cases ho
      rw [hc2] at hc'
      exact absurd hc' (by decide)
    have hn : i = its.toArray.size := by simp; omega
    subst hn
    exact wpAny_pyNext_enum_endD (Draws.tuple (A := X.A.in1) (I.ok.hd hc) it a hait its.toArray) he ⟨hit, pt⟩ fun h' eb => ⟨rfl, I.turned (t' := s.toks) (fun b o hb q => eb b o hb q) f0 f1 f3 f4 f5⟩
  self := fun A i s Q E st h => let ⟨⟨_, he⟩, _⟩ := st; wpAny_pyIter_enum he h
def iEnumT (K : PySem.W.Frag) (ta : TA) : TI := fun σ H R => ta σ H fun vs H1 => ∃ a xs, vs = [.ref a] ∧ SqT K H1 a xs ∧ R (IteT K a) H1
theorem pi_enumT {X : Cx} {e : Expr} {ta : TA} {p pos tpos : Pos} {elts : List Expr} {kk : Nat} (hg : Gl X "enumerate") (hm : X.mg "enumerate" = none) (ha : PA X [e] ta) (hs : starEach [e] X.env = [(false, eval e X.env)] := by rfl) :
    PI X (.Tuple elts kk tpos) (.Call (.Name "enumerate" p) [e] [] pos) (iEnumT X.K ta) := by
  refine ⟨fun pins s σ H R I h => ?_⟩
  refine Call_ (ld_blt I hg hm boot_enumerate (PyProof.Rows.callWith_type1 (thn (ha.run pos pins s σ H _ I h) fun us s1 ⟨vs, H1, I1, r1, q1⟩ => ?_) hs rfl))
  obtain ⟨a, xs, ex, hq, q⟩ := q1
  subst ex
  cases r1 with
  | cons r rr =>
    cases rr
    cases r
    obtain ⟨its, rv, p', hz⟩ := I1.tuple hq
    refine call_enumerate_B (begins_tuple a its.toArray) (show s1.heap.IsTuple a its.toArray from p') fun h' he hit hsz hk => wpAny_pyIter_enum he ?_
    have I2 : Inv X pins σ H1 { s1 with heap := h' } := I1.kept (t' := s1.toks) hk
    refine ⟨s1.heap.objs.size + 1, [s1.heap.objs.size + 1, s1.heap.objs.size], _, _, H1, rfl, I2, turn_enumT a (s1.heap.objs.size + 1) s1.heap.objs.size, ⟨⟨.none, he⟩, ⟨_, hit, rfl, rfl⟩, Nat.succ_ne_self _⟩, fun b hb => ?_, q⟩
    have e' : b = s1.heap.objs.size + 1 ∨ b = s1.heap.objs.size := by simpa using hb
    have hle : s1.heap.objs.size ≤ b := by
      rcases e' with z | z
      · rw [z]; exact Nat.le_add_right _ _
      · rw [z]; exact Nat.le_refl _
    exact I1.fpOk hle (I1.hok.fresh hle)
/-- enumerate of a list or a tuple -/
def iEnumU (K : PySem.W.Frag) (ta : TA) : TI := fun σ H R => iEnum K ta σ H R ∨ iEnumT K ta σ H R
theorem pi_enumU {X : Cx} {e : Expr} {ta : TA} {p pos tpos : Pos} {elts : List Expr} {kk : Nat} (hg : Gl X "enumerate") (hm : X.mg "enumerate" = none) (ha : PA X [e] ta) (hs : starEach [e] X.env = [(false, eval e X.env)] := by rfl) :
    PI X (.Tuple elts kk tpos) (.Call (.Name "enumerate" p) [e] [] pos) (iEnumU X.K ta) := PI.or (pi_enum hg hm ha hs) (pi_enumT hg hm ha hs)
end

section
variable {K : PySem.W.Frag}
def enumD (ds : List D) : List D := ds.zipIdx.map fun (d, i) => .tup [.int (i : Nat), d]
theorem enumD_len (ds : List D) : (enumD ds).length = ds.length := by simp [enumD]
theorem enumD_get {ds : List D} {i : Nat} {d : D} (h : (enumD ds)[i]? = some d) : ∃ e, ds[i]? = some e ∧ d = .tup [.int (i : Nat), e] := by
  simp only [enumD, List.getElem?_map, List.getElem?_zipIdx, Option.map_map, Option.map_eq_some_iff] at h
  obtain ⟨e, h1, h2⟩ := h
  exact ⟨e, h1, by simpa using h2.symm⟩
theorem pair_rep {H : Hp} {T : Addr} {x : V} {i : Nat} {e : D} {G : List Addr} (hT : H T = none) (r : Rep K H e x G) : Same H (upd H T (.tup [.int (i : Nat), x])) ∧ Rep K (upd H T (.tup [.int (i : Nat), x])) (.tup [.int (i : Nat), e]) (.ref T) G := by
  have s := same_upd (o := .tup [.int (i : Nat), x]) hT
  refine ⟨s, Rep.tup_of upd_same ?_⟩
  have := (RepL.one (K := K) (H := upd H T (.tup [.int (i : Nat), x])) (d := .int (i : Nat)) (v := .int (i : Nat)) (F := []) (by simp [Rep])).app (RepL.one (r.same s))
  simpa using this
theorem wk_enum {a : Addr} {ds : List D} {TF : List Addr} {I : Hp → Prop} (h : ∀ H, I H → ∃ xs G, SqL K H a xs ∧ RepL K H ds xs G ∧ ∀ b ∈ G, b ∈ TF) : Wk K (Ite K a) (enumD ds) TF I where
  go := fun i H hI hi => by
    obtain ⟨xs, G, sq, rl, _⟩ := h H hI
    have : i < xs.length := by rw [← rl.length, ← enumD_len]; exact hi
    exact ⟨xs, xs[i], sq, List.getElem?_eq_getElem this⟩
  stop := fun H hI => by
    obtain ⟨xs, G, sq, rl, _⟩ := h H hI
    exact ⟨xs, sq, by rw [← rl.length, enumD_len]; exact Nat.le_refl _⟩
  yld := fun i H x H' d hI hd hy => by
    obtain ⟨xs, G, sq, rl, hG⟩ := h H hI
    obtain ⟨T, y, rfl, hT, rfl, hx⟩ := hy
    obtain ⟨e, he, rfl⟩ := enumD_get hd
    obtain ⟨v, G', e', r, s⟩ := rl.get he
    rw [hx xs sq] at e'
    cases e'
    obtain ⟨s1, r1⟩ := pair_rep (i := i) hT r
    exact ⟨s1, G', r1, fun b hb => hG b (s.subset hb)⟩
theorem wk_enumT {a : Addr} {ds : List D} {TF : List Addr} {I : Hp → Prop} (h : ∀ H, I H → ∃ xs G, SqT K H a xs ∧ RepL K H ds xs G ∧ ∀ b ∈ G, b ∈ TF) : Wk K (IteT K a) (enumD ds) TF I where
  go := fun i H hI hi => by
    obtain ⟨xs, G, sq, rl, _⟩ := h H hI
    have : i < xs.length := by rw [← rl.length, ← enumD_len]; exact hi
    exact ⟨xs, xs[i], sq, List.getElem?_eq_getElem this⟩
  stop := fun H hI => by
    obtain ⟨xs, G, sq, rl, _⟩ := h H hI
    exact ⟨xs, sq, by rw [← rl.length, enumD_len]⟩
  yld := fun i H x H' d hI hd hy => by
    obtain ⟨xs, G, sq, rl, hG⟩ := h H hI
    obtain ⟨T, y, rfl, hT, rfl, hx⟩ := hy
    obtain ⟨e, he, rfl⟩ := enumD_get hd
    obtain ⟨v, G', e', r, s⟩ := rl.get he
    rw [hx xs sq] at e'
    cases e'
    obtain ⟨s1, r1⟩ := pair_rep (i := i) hT r
    exact ⟨s1, G', r1, fun b hb => hG b (s.subset hb)⟩
/-- the one operand of an argument list -/
def mOne (ma : MA) : M := fun ρ => match ma ρ with
  | some ([o], ρ1) => some (o, ρ1)
  | _ => none
theorem so_one {ta : TA} {ma : MA} (ha : SA K ta ma) : SO K (fun σ H Q => ta σ H fun vs H1 => ∀ v, vs = [v] → Q v H1) (mOne ma) := by
  intro ρ o ρ' e T σ H fp R Q h
  unfold mOne at e
  split at e
  · rename_i o1 ρ1 e1
    simp only [Option.some.injEq, Prod.mk.injEq] at e
    obtain ⟨rfl, rfl⟩ := e
    refine ha ρ _ ρ1 e1 T σ H fp R _ fun vs H1 fp1 G R1 p1 n1 f1 r1 v hv => ?_
    subst hv
    obtain ⟨v', ws, F, G', e2, rfl, r, rs⟩ := r1
    cases e2
    obtain ⟨_, rfl⟩ := rs
    exact h v H1 fp1 F (by simpa using R1) p1 n1 f1 r
  · cases e
/-- what is walked by one operand -/
theorem src_main {o : Opd} {d : D} {is : List Nat} {ρ ρ1 : Env} {T : Addr → Prop} {σ : L2.St} {H : Hp} {fp : Fp} {Q : It → Hp → Prop} {ds' : List D} (k1 : opD ρ1 o = some d) (hh : holdOk ρ1 o d = some is)
    (h : ∀ J H1 fp1 TF I, Rel K (addF T TF) ρ1 σ H1 fp1 → Pin T H H1 → Nog T fp fp1 → Fix ρ σ fp ρ1 σ fp1 → Wk K J ds' TF I →
      (∀ ρ' σ' H' fp', Rel K (addF T TF) ρ' σ' H' fp' → Fix (fzs is ρ1) σ fp1 ρ' σ' fp' → Pin (addF T TF) H1 H' → I H') → Q J H1)
    (v : V) (H1 : Hp) (fp1 : Fp) (F : List Addr) (R1 : Rel K (addF T F) ρ1 σ H1 fp1) (p1 : Pin T H H1) (n1 : Nog T fp fp1) (f1 : Fix ρ σ fp ρ1 σ fp1) (r1 : OR K T σ H1 fp1 o v F) :
    ∃ (TF : List Addr) (I : Hp → Prop), I H1 ∧ (∀ H', I H' → ∃ F', Rep K H' d v F' ∧ (itemsP d = true ∨ ∀ a ∈ F', a ∈ TF)) ∧ ∀ J, Wk K J ds' TF I → Q J H1 := by
  obtain ⟨TF, R2, hTF, hI⟩ := src_hold R1 r1 (fun _ h => h) k1 hh
  refine ⟨F ++ TF, fun H' => ∃ F', Rep K H' d v F' ∧ (itemsP d = true ∨ ∀ a ∈ F', a ∈ F ++ TF), ?_, fun H' z => z, fun J W => ?_⟩
  · exact hI (F ++ TF) (fun _ h => h) is (fun _ h => h) _ σ H1 fp1 (R2.held is) (Fix.refl _ _ _) (Pin.refl _ _)
  · exact h J H1 fp1 (F ++ TF) _ R2 p1 n1 f1 W fun ρ' σ' H' fp' R' f' p' => hI (F ++ TF) (fun _ h => h) is (fun _ h => h) ρ' σ' H' fp' R' f' p'
def seqD : D → Option (List D)
  | .lst ds => some ds
  | .tup ds => some ds
  | .fz ds => some ds
  | _ => none
def mEnum (ma : MA) : MI := fun ρ => match ma ρ with
  | some ([o], ρ1) => match opD ρ1 o with
    | some d => match seqD d, holdOk ρ1 o d with
      | some ds, some is => some (enumD ds, ρ1, is)
      | _, _ => none
    | none => none
  | _ => none
theorem si_enum {ta : TA} {ma : MA} (ha : SA K ta ma) : SI K (iEnumU K ta) (mEnum ma) := by
  intro ρ ds ρ0 is e T σ H fp R Q h
  unfold mEnum at e
  split at e
  · rename_i o ρ1 e1
    split at e
    · rename_i d k1
      split at e
      · rename_i ds' is' hw hh
        simp only [Option.some.injEq, Prod.mk.injEq] at e
        obtain ⟨rfl, rfl, rfl⟩ := e
        have one : ∀ {vs : List V} {H1 : Hp} {fp1 : Fp} {G : List Addr}, ORs K σ H1 fp1 T [o] vs G → ∃ v, vs = [v] ∧ OR K T σ H1 fp1 o v G := fun {vs H1 fp1 G} r1 => by
          obtain ⟨v', ws, F, G', rfl, rfl, r, rfl, rfl⟩ := r1
          exact ⟨v', rfl, by simpa using r⟩
        cases d with
        | lst ds =>
          cases hw
          refine .inl (ha ρ _ ρ1 e1 T σ H fp R _ fun vs H1 fp1 F R1 p1 n1 f1 r1 => ?_)
          obtain ⟨v, rfl, r1'⟩ := one r1
          obtain ⟨TF, I, hI1, hI, go⟩ := src_main k1 hh h v H1 fp1 F R1 p1 n1 f1 r1'
          obtain ⟨F', rF, hF'⟩ := hI H1 hI1
          have rF0 := rF
          simp only [Rep] at rF
          obtain ⟨a, xs, G, rfl, _, _, _⟩ := rF
          obtain ⟨xs, G, sq, _⟩ := lst_at rF0 hF'
          exact ⟨a, xs, rfl, sq, go _ (wk_enum fun H' hI' => let ⟨F2, r2, h2⟩ := hI H' hI'; lst_at r2 h2)⟩
        | tup ds =>
          cases hw
          refine .inr (ha ρ _ ρ1 e1 T σ H fp R _ fun vs H1 fp1 F R1 p1 n1 f1 r1 => ?_)
          obtain ⟨v, rfl, r1'⟩ := one r1
          obtain ⟨TF, I, hI1, hI, go⟩ := src_main k1 hh h v H1 fp1 F R1 p1 n1 f1 r1'
          obtain ⟨F', rF, hF'⟩ := hI H1 hI1
          have rF0 := rF
          simp only [Rep] at rF
          obtain ⟨a, xs, rfl, _, _⟩ := rF
          obtain ⟨xs, G, sq, _⟩ := tup_at rF0 hF'
          exact ⟨a, xs, rfl, sq, go _ (wk_enumT fun H' hI' => let ⟨F2, r2, h2⟩ := hI H' hI'; tup_at r2 h2)⟩
        | str z => cases hw
        | non => cases hw
        | bl b => cases hw
        | int i => cases hw
        | ty n => cases hw
        | fz ds =>
          cases hw
          refine .inl (ha ρ _ ρ1 e1 T σ H fp R _ fun vs H1 fp1 F R1 p1 n1 f1 r1 => ?_)
          obtain ⟨v, rfl, r1'⟩ := one r1
          obtain ⟨TF, I, hI1, hI, go⟩ := src_main k1 hh h v H1 fp1 F R1 p1 n1 f1 r1'
          obtain ⟨F', rF, hF'⟩ := hI H1 hI1
          have rF0 := rF
          simp only [Rep] at rF
          obtain ⟨a, xs, rfl, _, _⟩ := rF
          obtain ⟨xs, G, sq, _⟩ := fz_at rF0 hF'
          exact ⟨a, xs, rfl, sq, go _ (wk_enum fun H' hI' => let ⟨F2, r2, h2⟩ := hI H' hI'; fz_at r2 h2)⟩
        | dct ks ds => cases hw
        | lk ks ds => cases hw
      · cases e
    · cases e
  · cases e

/-! ### zip -/
def zipD (xs ys : List D) : List D := List.zipWith (fun a b => .tup [a, b]) xs ys
theorem zipD_get {xs ys : List D} {i : Nat} {d : D} (h : (zipD xs ys)[i]? = some d) : ∃ a b, xs[i]? = some a ∧ ys[i]? = some b ∧ d = .tup [a, b] := by
  simp only [zipD, List.getElem?_zipWith] at h
  split at h
  · rename_i a b h1 h2
    cases h
    exact ⟨a, b, h1, h2, rfl⟩
  · cases h
theorem pair2_rep {H : Hp} {T : Addr} {x y : V} {d e : D} {G G' : List Addr} (hT : H T = none) (r : Rep K H d x G) (r' : Rep K H e y G') : Same H (upd H T (.tup [x, y])) ∧ Rep K (upd H T (.tup [x, y])) (.tup [d, e]) (.ref T) (G ++ G') := by
  have s := same_upd (o := .tup [x, y]) hT
  exact ⟨s, Rep.tup_of upd_same ((RepL.one (r.same s)).app (RepL.one (r'.same s)))⟩
theorem wk_zip {a b : Addr} {xs ys : List D} {TF : List Addr} {I : Hp → Prop} (h : ∀ H, I H → ∃ us G, SqL K H a us ∧ RepL K H xs us G ∧ ∀ b ∈ G, b ∈ TF) (h' : ∀ H, I H → ∃ us G, SqL K H b us ∧ RepL K H ys us G ∧ ∀ b ∈ G, b ∈ TF) : Wk K (Itz K a b) (zipD xs ys) TF I where
  go := fun i H hI hi => by
    obtain ⟨us, G, sq, rl, _⟩ := h H hI
    obtain ⟨ws, G', sq', rl', _⟩ := h' H hI
    have hi' : i < xs.length ∧ i < ys.length := by simp [zipD] at hi; omega
    have h1 : i < us.length := by rw [← rl.length]; exact hi'.1
    have h2 : i < ws.length := by rw [← rl'.length]; exact hi'.2
    exact ⟨us, ws, us[i], ws[i], sq, sq', List.getElem?_eq_getElem h1, List.getElem?_eq_getElem h2⟩
  stop := fun H hI => by
    obtain ⟨us, G, sq, rl, _⟩ := h H hI
    obtain ⟨ws, G', sq', rl', _⟩ := h' H hI
    refine ⟨us, ws, sq, sq', ?_⟩
    rw [← rl.length, ← rl'.length]
    simp [zipD]
    omega
  yld := fun i H x H' d hI hd hy => by
    obtain ⟨us, G, sq, rl, hG⟩ := h H hI
    obtain ⟨ws, G', sq', rl', hG'⟩ := h' H hI
    obtain ⟨T, y1, y2, rfl, hT, rfl, hx, hy⟩ := hy
    obtain ⟨p, q, hp, hq, rfl⟩ := zipD_get hd
    obtain ⟨v, G1, e1, r1, s1⟩ := rl.get hp
    obtain ⟨w, G2, e2, r2, s2⟩ := rl'.get hq
    rw [hx us sq] at e1
    rw [hy ws sq'] at e2
    cases e1; cases e2
    obtain ⟨s3, r3⟩ := pair2_rep hT r1 r2
    exact ⟨s3, _, r3, fun b hb => (List.mem_append.mp hb).elim (fun z => hG b (s1.subset z)) fun z => hG' b (s2.subset z)⟩
theorem wk_zipT {a b : Addr} {xs ys : List D} {TF : List Addr} {I : Hp → Prop} (h : ∀ H, I H → ∃ us G, SqT K H a us ∧ RepL K H xs us G ∧ ∀ b ∈ G, b ∈ TF) (h' : ∀ H, I H → ∃ us G, SqT K H b us ∧ RepL K H ys us G ∧ ∀ b ∈ G, b ∈ TF) : Wk K (RZ.ItzT K a b) (zipD xs ys) TF I where
  go := fun i H hI hi => by
    obtain ⟨us, G, sq, rl, _⟩ := h H hI
    obtain ⟨ws, G', sq', rl', _⟩ := h' H hI
    have hi' : i < xs.length ∧ i < ys.length := by simp [zipD] at hi; omega
    have h1 : i < us.length := by rw [← rl.length]; exact hi'.1
    have h2 : i < ws.length := by rw [← rl'.length]; exact hi'.2
    exact ⟨us, ws, us[i], ws[i], sq, sq', List.getElem?_eq_getElem h1, List.getElem?_eq_getElem h2⟩
  stop := fun H hI => by
    obtain ⟨us, G, sq, rl, _⟩ := h H hI
    obtain ⟨ws, G', sq', rl', _⟩ := h' H hI
    refine ⟨us, ws, sq, sq', ?_⟩
    rw [← rl.length, ← rl'.length]
    simp [zipD]
    omega
  yld := fun i H x H' d hI hd hy => by
    obtain ⟨us, G, sq, rl, hG⟩ := h H hI
    obtain ⟨ws, G', sq', rl', hG'⟩ := h' H hI
    obtain ⟨T, y1, y2, rfl, hT, rfl, hx, hy⟩ := hy
    obtain ⟨p, q, hp, hq, rfl⟩ := zipD_get hd
    obtain ⟨v, G1, e1, r1, s1⟩ := rl.get hp
    obtain ⟨w, G2, e2, r2, s2⟩ := rl'.get hq
    rw [hx us sq] at e1
    rw [hy ws sq'] at e2
    cases e1; cases e2
    obtain ⟨s3, r3⟩ := pair2_rep hT r1 r2
    exact ⟨s3, _, r3, fun b hb => (List.mem_append.mp hb).elim (fun z => hG b (s1.subset z)) fun z => hG' b (s2.subset z)⟩
def sameSeq : D → D → Option (List D × List D)
  | .lst a, .lst b => some (a, b)
  | .tup a, .tup b => some (a, b)
  | .fz a, .lst b => some (a, b)
  | .lst a, .fz b => some (a, b)
  | .fz a, .fz b => some (a, b)
  | _, _ => none
def mZip (ma : MA) : MI := fun ρ => match ma ρ with
  | some ([o, o'], ρ1) => match opD ρ1 o, opD ρ1 o' with
    | some d, some d' => match sameSeq d d', holdOk ρ1 o d, holdOk ρ1 o' d' with
      | some (xs, ys), some is, some js => some (zipD xs ys, ρ1, is ++ js)
      | _, _, _ => none
    | _, _ => none
  | _ => none
theorem si_zip {ta : TA} {ma : MA} (ha : SA K ta ma) : SI K (RZ.iZipA K ta) (mZip ma) := by
  intro ρ ds ρ0 is e T σ H fp R Q h
  unfold mZip at e
  split at e
  · rename_i o o' ρ1 e1
    split at e
    · rename_i d d' k1 k2
      split at e
      · rename_i xs ys is1 js1 hw hh hh'
        simp only [Option.some.injEq, Prod.mk.injEq] at e
        obtain ⟨rfl, rfl, rfl⟩ := e
        refine ha ρ _ ρ1 e1 T σ H fp R _ fun vs H1 fp1 F R1 p1 n1 f1 r1 => ?_
        obtain ⟨v, ws, F1, G1, rfl, rfl, r, v', ws', F2, G2, rfl, rfl, r', rfl, rfl⟩ := r1
        obtain ⟨TF, R2, hTF, hI⟩ := src_hold R1 r (F0 := F1 ++ (F2 ++ [])) (fun a h => List.mem_append_left _ h) k1 hh
        obtain ⟨TF', R3, hTF', hI'⟩ := src_hold (F0 := F1 ++ (F2 ++ []) ++ TF) R2 r' (fun a h => List.mem_append_left _ (List.mem_append_right _ (by simpa using h))) k2 hh'
        have key : ∀ ρ' σ' H' fp', Rel K (addF T (F1 ++ (F2 ++ []) ++ TF ++ TF')) ρ' σ' H' fp' → Fix (fzs (is1 ++ js1) ρ1) σ fp1 ρ' σ' fp' → Pin (addF T (F1 ++ (F2 ++ []) ++ TF ++ TF')) H1 H' →
            (∃ F', Rep K H' d v F' ∧ (itemsP d = true ∨ ∀ a ∈ F', a ∈ F1 ++ (F2 ++ []) ++ TF ++ TF')) ∧ ∃ F', Rep K H' d' v' F' ∧ (itemsP d' = true ∨ ∀ a ∈ F', a ∈ F1 ++ (F2 ++ []) ++ TF ++ TF') := fun ρ' σ' H' fp' R' f' p' =>
          ⟨hI _ (fun a ha => List.mem_append_left _ ha) (is1 ++ js1) (fun i hi => List.mem_append_left _ hi) ρ' σ' H' fp' R' f' p', hI' _ (fun a ha => ha) (is1 ++ js1) (fun i hi => List.mem_append_right _ hi) ρ' σ' H' fp' R' f' p'⟩
        have now := key _ σ H1 fp1 (R3.held (is1 ++ js1)) (Fix.refl _ _ _) (Pin.refl _ _)
        obtain ⟨⟨Fa, ra, ha'⟩, ⟨Fb, rb, hb'⟩⟩ := now
        cases d with
        | lst a =>
          cases d' with
          | lst b =>
            cases hw
            have ra0 := ra; have rb0 := rb
            simp only [Rep] at ra rb
            obtain ⟨p, us, G, rfl, _, _, _⟩ := ra
            obtain ⟨p', us', G', rfl, _, _, _⟩ := rb
            obtain ⟨us, G, sq, _⟩ := lst_at ra0 ha'
            obtain ⟨us', G', sq', _⟩ := lst_at rb0 hb'
            refine ⟨p, p', us, us', rfl, .inl ⟨sq, sq', h _ H1 fp1 _ _ R3 p1 n1 f1 (wk_zip (I := fun H' => (∃ F', Rep K H' (.lst xs) (.ref p) F' ∧ (itemsP (.lst xs) = true ∨ ∀ a ∈ F', a ∈ F1 ++ (F2 ++ []) ++ TF ++ TF')) ∧ ∃ F', Rep K H' (.lst ys) (.ref p') F' ∧ (itemsP (.lst ys) = true ∨ ∀ a ∈ F', a ∈ F1 ++ (F2 ++ []) ++ TF ++ TF')) (fun H' hI' => let ⟨F2, r2, h2⟩ := hI'.1; lst_at r2 h2) fun H' hI' => let ⟨F2, r2, h2⟩ := hI'.2; lst_at r2 h2) key⟩⟩
          | fz b =>
            cases hw
            have ra0 := ra; have rb0 := rb
            simp only [Rep] at ra rb
            obtain ⟨p, us, G, rfl, _, _, _⟩ := ra
            obtain ⟨p', us', rfl, _, _⟩ := rb
            obtain ⟨us, G, sq, _⟩ := lst_at ra0 ha'
            obtain ⟨us', G', sq', _⟩ := fz_at rb0 hb'
            refine ⟨p, p', us, us', rfl, .inl ⟨sq, sq', h _ H1 fp1 _ _ R3 p1 n1 f1 (wk_zip (I := fun H' => (∃ F', Rep K H' (.lst xs) (.ref p) F' ∧ (itemsP (.lst xs) = true ∨ ∀ a ∈ F', a ∈ F1 ++ (F2 ++ []) ++ TF ++ TF')) ∧ ∃ F', Rep K H' (.fz ys) (.ref p') F' ∧ (itemsP (.fz ys) = true ∨ ∀ a ∈ F', a ∈ F1 ++ (F2 ++ []) ++ TF ++ TF')) (fun H' hI' => let ⟨F2, r2, h2⟩ := hI'.1; lst_at r2 h2) fun H' hI' => let ⟨F2, r2, h2⟩ := hI'.2; fz_at r2 h2) key⟩⟩
          | _ => cases hw
        | fz a =>
          cases d' with
          | lst b =>
            cases hw
            have ra0 := ra; have rb0 := rb
            simp only [Rep] at ra rb
            obtain ⟨p, us, rfl, _, _⟩ := ra
            obtain ⟨p', us', G', rfl, _, _, _⟩ := rb
            obtain ⟨us, G, sq, _⟩ := fz_at ra0 ha'
            obtain ⟨us', G', sq', _⟩ := lst_at rb0 hb'
            refine ⟨p, p', us, us', rfl, .inl ⟨sq, sq', h _ H1 fp1 _ _ R3 p1 n1 f1 (wk_zip (I := fun H' => (∃ F', Rep K H' (.fz xs) (.ref p) F' ∧ (itemsP (.fz xs) = true ∨ ∀ a ∈ F', a ∈ F1 ++ (F2 ++ []) ++ TF ++ TF')) ∧ ∃ F', Rep K H' (.lst ys) (.ref p') F' ∧ (itemsP (.lst ys) = true ∨ ∀ a ∈ F', a ∈ F1 ++ (F2 ++ []) ++ TF ++ TF')) (fun H' hI' => let ⟨F2, r2, h2⟩ := hI'.1; fz_at r2 h2) fun H' hI' => let ⟨F2, r2, h2⟩ := hI'.2; lst_at r2 h2) key⟩⟩
          | fz b =>
            cases hw
            have ra0 := ra; have rb0 := rb
            simp only [Rep] at ra rb
            obtain ⟨p, us, rfl, _, _⟩ := ra
            obtain ⟨p', us', rfl, _, _⟩ := rb
            obtain ⟨us, G, sq, _⟩ := fz_at ra0 ha'
            obtain ⟨us', G', sq', _⟩ := fz_at rb0 hb'
            refine ⟨p, p', us, us', rfl, .inl ⟨sq, sq', h _ H1 fp1 _ _ R3 p1 n1 f1 (wk_zip (I := fun H' => (∃ F', Rep K H' (.fz xs) (.ref p) F' ∧ (itemsP (.fz xs) = true ∨ ∀ a ∈ F', a ∈ F1 ++ (F2 ++ []) ++ TF ++ TF')) ∧ ∃ F', Rep K H' (.fz ys) (.ref p') F' ∧ (itemsP (.fz ys) = true ∨ ∀ a ∈ F', a ∈ F1 ++ (F2 ++ []) ++ TF ++ TF')) (fun H' hI' => let ⟨F2, r2, h2⟩ := hI'.1; fz_at r2 h2) fun H' hI' => let ⟨F2, r2, h2⟩ := hI'.2; fz_at r2 h2) key⟩⟩
          | _ => cases hw
        | tup a =>
          cases d' with
          | tup b =>
            cases hw
            have ra0 := ra; have rb0 := rb
            simp only [Rep] at ra rb
            obtain ⟨p, us, rfl, _, _⟩ := ra
            obtain ⟨p', us', rfl, _, _⟩ := rb
            obtain ⟨us, G, sq, _⟩ := tup_at ra0 ha'
            obtain ⟨us', G', sq', _⟩ := tup_at rb0 hb'
            refine ⟨p, p', us, us', rfl, .inr ⟨sq, sq', h _ H1 fp1 _ _ R3 p1 n1 f1 (wk_zipT (I := fun H' => (∃ F', Rep K H' (.tup xs) (.ref p) F' ∧ (itemsP (.tup xs) = true ∨ ∀ a ∈ F', a ∈ F1 ++ (F2 ++ []) ++ TF ++ TF')) ∧ ∃ F', Rep K H' (.tup ys) (.ref p') F' ∧ (itemsP (.tup ys) = true ∨ ∀ a ∈ F', a ∈ F1 ++ (F2 ++ []) ++ TF ++ TF')) (fun H' hI' => let ⟨F2, r2, h2⟩ := hI'.1; tup_at r2 h2) fun H' hI' => let ⟨F2, r2, h2⟩ := hI'.2; tup_at r2 h2) key⟩⟩
          | _ => cases hw
        | _ => cases hw
      · cases e
    · cases e
  · cases e
end
end U

/-! U12g: the promise of a def that is called where no repr is under way (str() of lists wants this). -/
namespace U
open PySem PySem.Spec PyProof.Rows L2
/-- no repr is under way -/
abbrev Still (A : Around) : Prop := A.guards = some []
theorem Still.deeper {A : Around} (h : Still A) (env : PySem.Env) : Still (A.deeper env) := by
  first
    | exact h
    | (show pushGuards _ A.guards = some []; rw [h]; rfl)
structure FnOkG (Pr : Program) (ww : World) (K : PySem.W.Frag) (mg : Str → Option Value) (base : Heap) (CX : CXT) (k : Nat) (f : Addr) (fd : FuncData) (ps : List Str) (sp : Sp) : Prop where
  len : ∀ vs H Q E, sp vs H Q E → vs.length = ps.length
  run : ∀ (Ar : Around) (outer : List PySem.Env) (st : Shared) (H : Hp) (args : Args) (us : List Value) (vs : List V) (Q : VK) (E : XK), Room k Ar → Still Ar → Env0 Pr ww K mg base Ar outer st H → BindsTo st fd args (ps.zip us) → Vals vs us → sp vs H Q E → codeAny (model Pr ww) Ar (.call (.ref f) args) (CR CX outer Pr ww H st Q E) st
section
variable {X : Cx} {CX : CXT} {k : Nat} {f : Addr} {fd : FuncData} {ps : List Str} {sp : Sp} {dvs : List V} {ds : List Value} {E : XK} {x : Str} {p pos : Pos} {e : Expr} {es : List Expr} {t : TA}
theorem run_fnG {pins : List (Addr × Obj)} {σ : L2.St} {H : Hp} {st : Shared} {Q : VK} {us : List Value} {vs : List V} (F : FnOkG X.prog X.w X.K X.mg X.base CX k f fd ps sp) (hr : Room k X.A) (hst : Still X.A) (hb : Binds X.K fd ps ds) (hd : Vals dvs ds) (hx : Passes CX X E)
    (I : Inv X pins σ H st) (r : Vals vs us) (h : sp (vs ++ dvs) H Q E) : wpAny (model X.prog X.w) X.A (call (.ref f) us) (EP X pins σ Q) X.xe st := by
  have r2 : Vals (vs ++ dvs) (us ++ ds) := r.append hd
  have hl : (us ++ ds).length = ps.length := by rw [← r2.length]; exact F.len _ _ _ _ h
  refine wpAny_call (codeAny_mono (F.run X.A X.stack st H ⟨us, []⟩ (us ++ ds) (vs ++ dvs) Q E hr hst I.env0 (hb st us I.kIn hl) r2 h) fun r s' hq => ?_)
  match r, hq with
  | .error e, hq => exact hx pins σ H st e s' I hq
  | .ok (.ret u), hq => exact I.after hq
  | .ok .next, hq => exact hq.elim
  | .ok .brk, hq => exact hq.elim
  | .ok .cont, hq => exact hq.elim
theorem pe_callG (F : FnOkG X.prog X.w X.K X.mg X.base CX k f fd ps sp) (hr : Room k X.A) (hst : Still X.A) (hg : Gl X x) (hm : X.mg x = some (.ref f)) (hk : PySem.W.keepIn X.K (.ref f) = true) (hb : Binds X.K fd ps ds) (hd : Vals dvs ds) (hx : Passes CX X E)
    (ha : PA X (e :: es) t) (hdb : (x == ("__debug__" : Str)) = false) (he : starEach (e :: es) X.env = (false, eval e X.env) :: starEach es X.env) (hpl : (backTo pos (starEach es X.env)).any (·.1) = false) :
    PE X (.Call (.Name x p) (e :: es) [] pos) (tCall sp dvs E t) := by
  refine ⟨fun pins st σ H Q I h => ?_⟩
  refine wpAny_Call_Name_kw (ld_glob I hg hm ?_ hdb)
  refine PySem.W.callWith_K (h₀ := X.base) I.ok.mod.kin hk (thn (ha.run pos pins st σ H _ I h) fun us s1 ⟨vs, H1, I1, r, q⟩ => ⟨I1.kIn, ?_⟩) he hpl
  exact run_fnG F hr hst hb hd hx I1 r q
end
theorem fn_ofG {CX : CXT} {Pr : Program} {ww : World} {K : PySem.W.Frag} {mg : Str → Option Value} {base : Heap} {k : Nat} {f : Addr} {name qual : Str} {params : Arguments} {body : List Stmt} {scope : Scope} {dV kV doc pm cdv ct oc : Value} {an od : Option Addr}
    {osl : Array (Option Value)} {N ps : List Str} {sp : Sp} (lk : K.lookup f = some ⟨oc, od, .func (PySem.W.fnOf name qual params body scope dV kV doc pm an cdv ct), osl⟩) (hcd : PySem.W.codeIn K cdv qual = true) (S : FnScope N ps scope) (len : ∀ vs H Q E, sp vs H Q E → vs.length = ps.length)
    (hbody : ∀ (Ar : Around) (outer : List PySem.Env) (st : Shared) (H : Hp) (vs : List V) (Q : VK) (E : XK), Room k (Ar.deeper (envOfC qual scope st.heap.objs.size f cdv)) → Still (Ar.deeper (envOfC qual scope st.heap.objs.size f cdv)) → sp vs H Q E →
      ∃ t, PSs (cxOf CX Pr ww K mg base N qual scope f cdv Ar outer st H E) body t ∧ t { nx := fun _ H' => Q .non H', rt := Q } (start N vs) H) :
    FnOkG Pr ww K mg base CX (k + 1) f (PySem.W.fnOf name qual params body scope dV kV doc pm an cdv ct) ps sp := by
  refine ⟨len, fun Ar outer st H args us vs Q E hr hst e0 hb r hsp => ?_⟩
  have hl := len _ _ _ _ hsp
  have KX : K.In st.heap := e0.mod.kin.keeps fun b o e => (e0.bs b o e).1
  have lim : st.heap.NoLimit := e0.mod.nolimit.keeps fun b o e => (e0.bs b o e).1
  have hkind : ∀ y ∈ ps.zip us, scope.names.lookup y.1 = some .local ∨ (scope.names.lookup y.1 = some .cell ∧ ((cellsFrom (st.heap.objs.size + 1) scope.names []).lookup y.1).isSome = true) := fun ⟨n, v⟩ hy =>
    (S.par n (List.of_mem_zip hy).1).elim .inl fun q => .inr ⟨q, PySem.W.cellsFrom_some _ _ _ (.inl q)⟩
  refine codeAny_call_function hr.depth (KX _ _ lk) rfl S.co S.gen rfl (PySem.W.codeRec_of KX hcd) (hb _ _ _ _ ?_)
  refine wpAny_newFunctionEnv_cells S.kind hkind fun env he s1 x => ?_
  subst he
  refine ⟨lim.keeps x.toInCall.keep, codeAny_func ?_⟩
  obtain ⟨t, ht, hq⟩ := hbody Ar outer st H vs Q E (hr.deeper _) (hst.deeper _) hsp
  have I : Inv (cxOf CX Pr ww K mg base N qual scope f cdv Ar outer st H E) [] (start N vs) H s1 := inv_start S hr.hd e0 hl r x
  refine wpAny_mono (ht.run [] s1 (start N vs) H _ I hq) (fun fl s' hs => ?_) fun e s' hs => hs
  match fl, hs with
  | .ret u, hs =>
    obtain ⟨v, σ', H', J, rv, q⟩ := hs
    exact ⟨v, H', J.os, J.bare, J.base, J.hok, rv, q⟩
  | .next, hs =>
    obtain ⟨σ', H', J, q⟩ := hs
    exact ⟨V.non, H', J.os, J.bare, J.base, J.hok, rfl, q⟩
  | .brk, hs => obtain ⟨_, _, _, q⟩ := hs; exact q.elim
  | .cont, hs => obtain ⟨_, _, _, q⟩ := hs; exact q.elim
theorem FunD.okG {Pr : Program} {ww : World} {K : PySem.W.Frag} {mg : Str → Option Value} {base : Heap} {x qual : Str} {params : Arguments} {body : List Stmt} {scope : Scope} {dvs : List V} {kws : List (Str × V)} {f : Addr} {fd : FuncData} {CX : CXT} {N ps : List Str} {k : Nat} {sp : Sp} (F : FunD K x qual params body scope dvs kws f fd) (S : FnScope N ps scope) (len : ∀ vs H Q E, sp vs H Q E → vs.length = ps.length)
    (hbody : ∀ (cdv : Value) (Ar : Around) (outer : List PySem.Env) (st : Shared) (H : Hp) (vs : List V) (Q : VK) (E : XK), Room k (Ar.deeper (envOfC qual scope st.heap.objs.size f cdv)) → Still (Ar.deeper (envOfC qual scope st.heap.objs.size f cdv)) → sp vs H Q E →
      ∃ t, PSs (cxOf CX Pr ww K mg base N qual scope f cdv Ar outer st H E) body t ∧ t { nx := fun _ H' => Q .non H', rt := Q } (start N vs) H) : FnOkG Pr ww K mg base CX (k + 1) f fd ps sp := by
  obtain ⟨oc, od, dV, kV, doc, pm, an, cdv, ct, osl, rfl, lk, hcd, _, _⟩ := F.ex
  exact fn_ofG lk hcd S len fun Ar outer st H vs Q E hr hs hsp => hbody cdv Ar outer st H vs Q E hr hs hsp
end U
namespace U
open PySem PySem.Spec PyProof.Rows L2
/-- the law is called: by the promise of its def, from a heap in which the script alone is tracked -/
theorem law_callG {Pr : Program} {ww : World} {K : PySem.W.Frag} {mg mb : Str → Option Value} {CX : CXT} {k : Nat} {fa a : Addr} {fd : FuncData} {x : Str} {sp : Sp} {st : Shared} {vs : List Value} {ns : List Int}
    (KX : K.In st.heap) (hns : st.heap.Ns mainGlobals mg) (hnb : st.heap.Ns builtinsNs mb) (hbb : ∀ x : Str, x ≠ "__name__" → mb x = bootBuiltins x) (hlim : st.heap.NoLimit) (hgen : st.gens = #[])
    (ha : st.heap.get? a = some { cls := .type "list", data := .seq vs.toArray }) (hi : IntsAre vs ns) (hl : ns.length ≤ sizeLine) (hr : Room k callerA)
    (F : ∀ base : Heap, K.In base → base.Ns mainGlobals mg → FnOkG Pr ww K mg base CX k fa fd [x] sp) (hbind : ∀ (s : Shared) (u : Value), BindsTo s fd ⟨[u], []⟩ [(x, u)])
    (hsp : ∀ H : Hp, Only H → FzL K H a (ns.map V.int) → sp [.ref a] H (fun v _ => v = .bl true) fun _ _ _ => False) (hCX : ∀ H e s', CX [] H st (fun _ _ _ => False) e s' → False) :
    codeAny (model Pr ww) callerA (.call (.ref fa) ⟨[.ref a], []⟩) (fun r s' => r = .ok (.ret (.bool true)) ∧ OldK st.heap s'.heap ∧ s'.os = st.os ∧ AllBare s'.gens) st := by
  have rv := vals_ints hi
  have core : ∀ Hx : Hp, Only Hx → FzL K Hx a (ns.map V.int) → HOk Pr ww Hx st.heap → (∀ c, Hx c ≠ none → c = a) → (Hx a ≠ none → K.lookup a = none) → codeAny (model Pr ww) callerA (.call (.ref fa) ⟨[.ref a], []⟩) (fun r s' => r = .ok (.ret (.bool true)) ∧ OldK st.heap s'.heap ∧ s'.os = st.os ∧ AllBare s'.gens) st := by
    intro Hx hOn hSq hok hA hK
    have noA : ∀ {c : Addr} {oc : Obj} {es : Array DictEntry} {ep : Nat}, st.heap.get? c = some oc → oc.data = .dict es ep → Hx c = none := fun {c oc es ep} ec dc => by
      cases qc : Hx c with
      | none => rfl
      | some u =>
        obtain rfl : c = a := hA c (by rw [qc]; exact fun z => nomatch z)
        rw [ha] at ec; cases ec
        cases (show Data.seq vs.toArray _ = Data.dict es ep from dc)
    have nsK : ∀ {c : Addr} {m : Str → Option Value}, st.heap.Ns c m → (hidT st.heap Hx).Ns c m := fun {c m} ⟨oc, es, ep, ec, dc, rc⟩ => ⟨oc, es, ep, hidT_get ec (noA ec dc), dc, rc⟩
    have hKb : K.In (hidT st.heap Hx) := fun c oc ec => hidT_get (KX c oc ec) (by
      cases qc : Hx c with
      | none => rfl
      | some u =>
        obtain rfl : c = a := hA c (by rw [qc]; exact fun z => nomatch z)
        rw [hK (by rw [qc]; exact fun z => nomatch z)] at ec; cases ec)
    have hM : Mod K mg (hidT st.heap Hx) := ⟨hKb, nsK hns, ⟨mb, nsK hnb, hbb⟩, let ⟨mc, h1, h2⟩ := hlim; ⟨mc, nsK h1, h2⟩⟩
    have e0 : Env0 Pr ww K mg (hidT st.heap Hx) callerA [] st Hx := ⟨rfl, hM, fun c oc ec => of_hidT ec, Nat.le_of_eq (hidT_size _ _), trivial, fun c hc => (nomatch (show c ∈ ([] : List Addr) from hc)), hok, .of_eq hgen⟩
    refine codeAny_mono ((F _ hKb (nsK hns)).run callerA [] st Hx ⟨[.ref a], []⟩ [.ref a] [.ref a] _ _ hr rfl e0 (hbind st (.ref a)) (.cons rfl .nil) (hsp Hx hOn hSq)) fun r s' hq => ?_
    match r, hq with
    | .error e, hq => exact (hCX Hx e s' hq).elim
    | .ok .next, hq => exact hq.elim
    | .ok .brk, hq => exact hq.elim
    | .ok .cont, hq => exact hq.elim
    | .ok (.ret u), hq =>
      obtain ⟨v, Hy, os, bare, un, hoky, rr, (rfl : v = .bl true)⟩ := hq
      obtain rfl : u = Value.bool true := rr
      refine ⟨rfl, OldK.of_keep fun c oc ec => ?_, os, bare⟩
      rcases hOn c with z | ⟨ob, xs, z⟩
      · exact un.keep c oc ec z (fun q => nomatch (show c ∈ ([] : List Addr) from q)) (by simp)
      · obtain ⟨e1, _⟩ := hok c _ z
        obtain ⟨e2, _⟩ := hoky c _ (un.frzs c ob _ z)
        rw [ec] at e1; cases e1
        exact e2
  cases hk : K.lookup a with
  | some oa =>
    have ec := KX a oa hk
    rw [ha] at ec; cases ec
    exact core (fun _ => none) (fun _ => .inl rfl) (.inr ⟨_, vs.toArray, _, hk, rfl, rfl, rfl, by rw [List.size_toArray, hi.length]; exact hl, by simpa using rv, rfl⟩) (fun c u z => nomatch (show (none : Option HO) = some u from z)) (fun c z => absurd rfl z) fun z => absurd rfl z
  | none =>
    refine core (fun c => if c = a then some (.frz { cls := .type "list", data := .seq vs.toArray } (.lst (ns.map V.int))) else none) (fun c => ?_) (.inl ⟨_, if_pos rfl⟩) (fun c u z => ?_) (fun c z => ?_) fun _ => hk
    · exact if hc : c = a then .inr ⟨_, _, if_pos hc⟩ else .inl (if_neg hc)
    · by_cases hc : c = a
      · cases (if_pos hc).symm.trans z
        subst hc
        exact ⟨ha, by rw [List.length_map]; exact hl, vs, _, rv, ha⟩
      · cases (if_neg hc).symm.trans z
    · by_cases hc : c = a
      · exact hc
      · exact absurd (if_neg hc) z
theorem walk_ofG {l : PySem.W.OpenLaw} {n k : Nat} {q : Program} {loose : List Str} {XP : (Str → Option Value) → Heap → Prop} {YP : World → Heap → Prop} {d : DefRec} {CX : CXT} {x : Str}
    (hn : l.most = some n) (hn2 : n ≤ sizeLine) (hdf : d.params.defaults = []) (hr : Room k callerA)
    (F : ∀ (ww : World) (mg : Str → Option Value) (fa : Addr) (h : Heap), YP ww h → h.Ns mainGlobals mg → mg d.name = some (.ref fa) →
      ∃ (K : PySem.W.Frag) (fd : FuncData) (sp : Sp), K.In h ∧ (∀ (s : Shared) (u : Value), BindsTo s fd ⟨[u], []⟩ [(x, u)]) ∧ (∀ (H : Hp) (a : Addr) (ns : List Int), ns.length ≤ n → Only H → FzL K H a (ns.map V.int) → sp [.ref a] H (fun v _ => v = .bl true) fun _ _ _ => False) ∧
        ∀ base : Heap, K.In base → base.Ns mainGlobals mg → FnOkG l.prog ww K mg base CX k fa fd [x] sp)
    (hCX : ∀ (H : Hp) (s : Shared) (e : Value) (s' : Shared), CX [] H s (fun _ _ _ => False) e s' → False) : PySem.W.WalkO q loose XP YP l.row.toRowW d [] (fun f vs => PySem.call f vs) := by
  refine Att.attach_call hn hdf fun ww s₀ st mg mb fa o pm cd doc a vs ns G Y ho hd hcd hmg hobj hints hlen hg => ?_
  obtain ⟨K, fd, sp, KX, hb, hsp, hF⟩ := F ww mg fa _ Y G.T.g hmg
  exact law_callG KX G.T.g G.T.b G.T.builtins G.T.nolimit hg hobj hints (Nat.le_trans hlen hn2) hr hF hb (fun H hO hS => hsp H a ns hlen hO hS) fun H e s' => hCX H st e s'
end U

/-! U13: the text and its reading together. -/
namespace U
open PySem L2

/-- what stands around a whole program -/
structure Gb where
  P : Program
  w : World
  K : PySem.W.Frag
  mg : Str → Option Value
  base : Heap
  k : Nat
/-- a def's names -/
structure Sc where
  N : List Str
  sc : Scope
  fn : Str → Bool
structure Good (G : Gb) (S : Sc) (X : Cx) : Prop where
  prog : X.prog = G.P
  w : X.w = G.w
  K : X.K = G.K
  mg : X.mg = G.mg
  base : X.base = G.base
  N : X.N = S.N
  sc : X.env.scope = S.sc
  fn : X.fn = S.fn
  calm : X.calm = true
  room : Room G.k X.A
  still : Still X.A
  never : X.xe = fun _ _ => False
/-- the names within a comprehension -/
def Sc.blk (S : Sc) (scope : Scope) : Sc := ⟨S.N, relS scope S.sc, fun x => scope.names.lookup x == some .cell⟩
theorem Good.blk {G : Gb} {S : Sc} {X : Cx} (g : Good G S X) (scope : Scope) (s : Shared) (H : Hp) (C : Addr) (cl : List (Str × Addr)) (fp : List Addr) : Good G (S.blk scope) (X.blk s H scope (compEnvC scope cl C X.env) fp) :=
  ⟨g.prog, g.w, g.K, g.mg, g.base, g.N, by show relabel scope X.env = relS scope S.sc; rw [← g.sc]; rfl, rfl, g.calm, g.room, g.still, rfl⟩
theorem Good.own {G : Gb} {S : Sc} {X : Cx} (g : Good G S X) : PassesOwn (model X.prog X.w) X.A X.env X.xe := by rw [g.never]; exact PassesOwn.never

section
variable {G : Gb} {S : Sc}
structure BE (G : Gb) (S : Sc) (e : Expr) (t : TE) (m : M) : Prop where
  pe : ∀ X, Good G S X → PE X e t
  so : SO G.K t m
structure BA (G : Gb) (S : Sc) (es : List Expr) (t : TA) (m : MA) : Prop where
  pa : ∀ X, Good G S X → PA X es t
  sa : SA G.K t m
structure BT (G : Gb) (S : Sc) (e : Expr) (t : TT) (m : MT) : Prop where
  pt : ∀ X, Good G S X → PT X e t
  st : ST G.K t m
structure BW (G : Gb) (S : Sc) (e : Expr) (t : TT) (m : MT) : Prop where
  pw : ∀ X, Good G S X → PW X e t
  st : ST G.K t m
structure BTs (G : Gb) (S : Sc) (es : List Expr) (t : TT) (m : MT) : Prop where
  pt : ∀ X, Good G S X → PTs X es t
  st : ST G.K t m
structure BP (G : Gb) (S : Sc) (e : Option Expr) (t : TO) (m : MO) : Prop where
  po : ∀ X, Good G S X → PO X e t
  sp : SPt G.K t m
structure BG (G : Gb) (S : Sc) (e : Expr) (t : TG) (m : MG) (is : List Nat) : Prop where
  pg : ∀ X, Good G S X → PG X e t
  sg : SG G.K t m is
structure BGs (G : Gb) (S : Sc) (es : List Expr) (t : TGs) (m : MGs) (is : List Nat) : Prop where
  pg : ∀ X, Good G S X → PGs X es t
  sg : SGs G.K t m is
structure BI (G : Gb) (S : Sc) (tg e : Expr) (t : TI) (m : MI) : Prop where
  pi : ∀ X, Good G S X → PI X tg e t
  si : SI G.K t m
structure BS (G : Gb) (S : Sc) (st : Stmt) (t : TS) (m : MS) : Prop where
  ps : ∀ X, Good G S X → PS X st t
  ss : SS G.K t m
structure BSs (G : Gb) (S : Sc) (sts : List Stmt) (t : TS) (m : MS) : Prop where
  ps : ∀ X, Good G S X → PSs X sts t
  ss : SS G.K t m

/-! ### expressions -/
def nameOk (S : Sc) (i : Nat) (x : Str) : Bool := decide (S.N[i]? = some x) && (decide (S.sc.names.lookup x = some .local) || decide (S.sc.names.lookup x = some .cell) || decide (S.sc.names.lookup x = some .free)) && !(x == ("__debug__" : Str)) && !(x == ("__classdict__" : Str))
theorem b_name {i : Nat} {x : Str} {pos : Pos} (h : nameOk S i x = true) : BE G S (.Name x pos) (tVar i) (mName i) := by
  simp only [nameOk, Bool.and_eq_true, Bool.or_eq_true, decide_eq_true_eq, Bool.not_eq_true'] at h
  refine ⟨fun X g => pe_var (by rw [g.N]; exact h.1.1.1) ?_ h.1.2 h.2, so_name⟩
  unfold Vis
  rw [g.sc]
  rcases h.1.1.2 with (q | q) | q
  · exact .inl q
  · exact .inr (.inl q)
  · exact .inr (.inr q)
theorem b_int {i : Int} {j : Nat} {pos : Pos} : BE G S (.Constant (.int i) j pos) (tC (.int i)) (mC (.int i)) := ⟨fun _ _ => pe_int, so_int⟩
theorem b_bl {b : Bool} {j : Nat} {pos : Pos} : BE G S (.Constant (.bool b) j pos) (tC (.bl b)) (mC (.bl b)) := ⟨fun _ _ => pe_bl, so_bl⟩
theorem b_non {j : Nat} {pos : Pos} : BE G S (.Constant .none j pos) (tC .non) (mC .non) := ⟨fun _ _ => pe_non, so_non⟩
theorem b_str {x : Str} {j : Nat} {pos : Pos} : BE G S (.Constant (.str x) j pos) (tC (.str x)) (mC (.str x)) := ⟨fun _ _ => pe_str, so_str⟩
def globOk (S : Sc) (x : Str) : Bool := decide (S.sc.names.lookup x = some .globalImplicit) && !(x == ("__debug__" : Str)) && !decide (x = "__name__")
theorem globOk_gl {X : Cx} {x : Str} (g : Good G S X) (h : globOk S x = true) : Gl X x ∧ (x == ("__debug__" : Str)) = false ∧ x ≠ "__name__" := by
  simp only [globOk, Bool.and_eq_true, decide_eq_true_eq, Bool.not_eq_true', decide_eq_false_iff_not] at h
  refine ⟨?_, h.1.2, h.2⟩
  unfold Gl Env.kindOf
  rw [g.sc]
  exact h.1.1
/-- a name of a built-in type -/
theorem b_ty {x : Str} {n : String} {pos : Pos} (h : globOk S x = true) (hm : G.mg x = none) (hv : bootBuiltins x = some (.type n)) : BE G S (.Name x pos) (tC (.ty n)) (mC (.ty n)) :=
  ⟨fun X g => pe_bltn (globOk_gl g h).1 (by rw [g.mg]; exact hm) hv rfl (globOk_gl g h).2.2 (globOk_gl g h).2.1, so_ty⟩
/-- a constant of the module -/
theorem b_gint {x : Str} {i : Int} {t : Tok} {pos : Pos} (h : globOk S x = true) (hm : G.mg x = some (.int i t)) : BE G S (.Name x pos) (tC (.int i)) (mC (.int i)) :=
  ⟨fun X g => pe_glob (globOk_gl g h).1 (by rw [g.mg]; exact hm) ⟨_, rfl⟩ (globOk_gl g h).2.1, so_int⟩
theorem b_val {e : Expr} {t : TE} {m : M} (mv : Bool) (h : BE G S e t m) : BE G S e t (mVal mv m) := ⟨h.pe, so_val mv h.so⟩

theorem b_op {a b : Expr} {op : Operator} {pos : Pos} {r : R2} {f : D → D → Option D} {ta tb : TE} {ma mb : M} (ho : ∀ X, Good G S X → OpR X (binaryOp op) r) (hr : ROp G.K r f) (ha : BE G S a ta ma) (hb : BE G S b tb mb) : BE G S (.BinOp a op b pos) (tOp r ta tb) (mOp f ma mb) :=
  ⟨fun X g => pe_op (ho X g) (ha.pe X g) (hb.pe X g), so_op hr ha.so hb.so⟩
section
variable {a b : Expr} {pos : Pos} {ta tb : TE} {ma mb : M} (ha : BE G S a ta ma) (hb : BE G S b tb mb)
include ha hb
theorem b_add : BE G S (.BinOp a .Add b pos) (tOp (rAddU G.K) ta tb) (mOp dAdd ma mb) := b_op (fun X g => by rw [← g.K]; exact op_addU) rop_add ha hb
theorem b_sub : BE G S (.BinOp a .Sub b pos) (tOp (rI0 fun i j => .int (i - j)) ta tb) (mOp dSub ma mb) := b_op (fun X g => op_sub) rop_sub ha hb
theorem b_mul : BE G S (.BinOp a .Mult b pos) (tOp rMulU ta tb) (mOp dMul ma mb) := b_op (fun X g => op_mulU) rop_mul ha hb
theorem b_fdiv : BE G S (.BinOp a .FloorDiv b pos) (tOp (rI CDiv fun i j => .int (i / j)) ta tb) (mOp dFdiv ma mb) := b_op (fun X g => op_fdiv) rop_fdiv ha hb
theorem b_mod : BE G S (.BinOp a .Mod b pos) (tOp (rI (fun _ j => 0 < j) fun i j => .int (i % j)) ta tb) (mOp dMod ma mb) := b_op (fun X g => op_mod) rop_mod ha hb
theorem b_pow : BE G S (.BinOp a .Pow b pos) (tOp (rI CPow fun i j => .int (i ^ j.toNat)) ta tb) (mOp dPow ma mb) := b_op (fun X g => op_pow) rop_pow ha hb
theorem b_shl : BE G S (.BinOp a .LShift b pos) (tOp (rI CPow fun i j => .int (i * 2 ^ j.toNat)) ta tb) (mOp dShl ma mb) := b_op (fun X g => op_shl) rop_shl ha hb
theorem b_shr : BE G S (.BinOp a .RShift b pos) (tOp (rI (fun _ j => 0 ≤ j) fun i j => .int (i / 2 ^ j.toNat)) ta tb) (mOp dShr ma mb) := b_op (fun X g => op_shr) rop_shr ha hb
theorem b_band : BE G S (.BinOp a .BitAnd b pos) (tOp (rI0 fun i j => .int (Builtin.bitAnd i j)) ta tb) (mOp dAnd ma mb) := b_op (fun X g => op_and) rop_and ha hb
theorem b_bor : BE G S (.BinOp a .BitOr b pos) (tOp (rI0 fun i j => .int (Builtin.bitOr i j)) ta tb) (mOp dOr ma mb) := b_op (fun X g => op_or) rop_bor ha hb
theorem b_xor : BE G S (.BinOp a .BitXor b pos) (tOp (rI0 fun i j => .int (Builtin.bitXor i j)) ta tb) (mOp dXor ma mb) := b_op (fun X g => op_xor) rop_xor ha hb
end
theorem so_un {K : PySem.W.Frag} {r : V → Hp → VK → Prop} {f : D → Option D} {ta : TE} {ma : M} (hr : RUn K r f) (ha : SO K ta ma) : SO K (tUn r ta) (mUn f ma) := fun ρ o ρ' e T σ H fp R Q h => so_unary hr ha ρ o ρ' e T σ H fp R Q h
theorem b_neg {a : Expr} {pos : Pos} {ta : TE} {ma : M} (ha : BE G S a ta ma) : BE G S (.UnaryOp .USub a pos) (tUn (rU fun i => .int (-i)) ta) (mUn dNeg ma) := ⟨fun X g => pe_un un_neg (ha.pe X g), so_un run_neg ha.so⟩

/-! comparisons: as a value (b), as a test (t) -/
structure CmpK (G : Gb) (S : Sc) (c : CmpOp) (r : R2) (f : D → D → Option D) : Prop where
  op : ∀ X, Good G S X → OpR X (compareOp c) r
  r : ROp G.K r f
  m : ∀ b, behindInMarks c b = false
theorem k_eq : CmpK G S .Eq (rEqU G.K) dEq := ⟨fun X g => by rw [← g.K]; exact op_eqU g.room.units, rop_eq, fun b => nomark b⟩
theorem k_ne : CmpK G S .NotEq (rNeU G.K) dNe := ⟨fun X g => by rw [← g.K]; exact op_neU g.room.units, rop_ne, fun b => nomark b⟩
theorem k_lt : CmpK G S .Lt (rI0 fun i j => .bl (decide (i < j))) dLt := ⟨fun X g => op_lt, rop_lt, fun b => nomark b⟩
theorem k_le : CmpK G S .LtE (rI0 fun i j => .bl (decide (i ≤ j))) dLe := ⟨fun X g => op_le, rop_le, fun b => nomark b⟩
theorem k_gt : CmpK G S .Gt (rI0 fun i j => .bl (decide (j < i))) dGt := ⟨fun X g => op_gt, rop_gt, fun b => nomark b⟩
theorem k_ge : CmpK G S .GtE (rI0 fun i j => .bl (decide (j ≤ i))) dGe := ⟨fun X g => op_ge, rop_ge, fun b => nomark b⟩
theorem k_is : CmpK G S .Is (fun x y H Q => y = .non ∧ Q (.bl (decide (x = .non))) H) dIs := ⟨fun X g => op_isN, rop_is, fun b => nomark b⟩
theorem k_isnot : CmpK G S .IsNot (fun x y H Q => y = .non ∧ Q (.bl (!decide (x = .non))) H) dIsNot := ⟨fun X g => op_notN, rop_isnot, fun b => nomark b⟩
theorem b_cmp {op : CmpOp} {r : R2} {f : D → D → Option D} {a b : Expr} {pos : Pos} {ta tb : TE} {ma mb : M} (k : CmpK G S op r f) (ha : BE G S a ta ma) (hb : BE G S b tb mb) : BE G S (.Compare a [op] [b] pos) (tOp r ta tb) (mOp f ma mb) :=
  ⟨fun X g => pe_cmpR (k.op X g) (ha.pe X g) (hb.pe X g) (k.m b), so_op k.r ha.so hb.so⟩
theorem t_cmp {op : CmpOp} {r : R2} {f : D → D → Option D} {a b : Expr} {pos : Pos} {ta tb : TE} {ma mb : M} (k : CmpK G S op r f) (ha : BE G S a ta ma) (hb : BE G S b tb mb) : BT G S (.Compare a [op] [b] pos) (tTest (tOp r ta tb)) (mB (mOp f ma mb)) :=
  ⟨fun X g => pt_cmpR (k.op X g) (ha.pe X g) (hb.pe X g) (k.m b), st_val (so_op k.r ha.so hb.so)⟩
theorem b_chain {op op' : CmpOp} {r r' : R2} {f f' : D → D → Option D} {a b c : Expr} {pos : Pos} {ta tb tc : TE} {ma mb mc : M} (k : CmpK G S op r f) (k' : CmpK G S op' r' f') (ha : BE G S a ta ma) (hb : BE G S b tb mb) (hc : BE G S c tc mc) (hl : lastMarks [op, op'] [b, c] = false := by rfl) :
    BE G S (.Compare a [op, op'] [b, c] pos) (tChain r r' ta tb tc) (mChain f f' ma mb mc) := ⟨fun X g => pe_chain (k.op X g) (k'.op X g) (ha.pe X g) (hb.pe X g) (hc.pe X g) hl, so_chain k.r k'.r ha.so hb.so hc.so⟩
theorem t_chain {op op' : CmpOp} {r r' : R2} {f f' : D → D → Option D} {a b c : Expr} {pos : Pos} {ta tb tc : TE} {ma mb mc : M} (k : CmpK G S op r f) (k' : CmpK G S op' r' f') (ha : BE G S a ta ma) (hb : BE G S b tb mb) (hc : BE G S c tc mc) (hl : lastMarks [op, op'] [b, c] = false := by rfl) :
    BT G S (.Compare a [op, op'] [b, c] pos) (tTest (tChain r r' ta tb tc)) (mB (mChain f f' ma mb mc)) := ⟨fun X g => pt_chain (k.op X g) (k'.op X g) (ha.pe X g) (hb.pe X g) (hc.pe X g) hl, st_val (so_chain k.r k'.r ha.so hb.so hc.so)⟩
theorem t_val {e : Expr} {t : TE} {m : M} (h : BE G S e t m) (he : ∀ env whole, isTrue e env whole = (do let v ← whole; standAt e.pos; holding [v] (truthy v)) := by intro _ _; rfl) : BT G S e (tB t) (mB m) := ⟨fun X g => pt_val (h.pe X g) fun whole => he X.env whole, st_val h.so⟩
theorem t_not {a : Expr} {pos : Pos} {t : TT} {m : MT} (h : BT G S a t m) : BT G S (.UnaryOp .Not a pos) (tNot t) (mNot m) := ⟨fun X g => pt_not (h.pt X g), st_not h.st⟩
theorem t_w {e : Expr} {t : TT} {m : MT} (h : BW G S e t m) : BT G S e t m := ⟨fun X g => (h.pw X g).pt, h.st⟩
theorem w_and1 {a : Expr} {pos : Pos} {t : TT} {m : MT} (h : BT G S a t m) : BW G S (.BoolOp .And [a] pos) t m := ⟨fun X g => pw_and1 (h.pt X g), h.st⟩
theorem w_or1 {a : Expr} {pos : Pos} {t : TT} {m : MT} (h : BT G S a t m) : BW G S (.BoolOp .Or [a] pos) t m := ⟨fun X g => pw_or1 (h.pt X g), h.st⟩
theorem w_and {a b : Expr} {rest : List Expr} {pos : Pos} {t u : TT} {m n : MT} (h : BT G S a t m) (h' : BW G S (.BoolOp .And (b :: rest) pos) u n) : BW G S (.BoolOp .And (a :: b :: rest) pos) (tAnd t u) (mAnd m n) := ⟨fun X g => pw_and (h.pt X g) (h'.pw X g), st_and h.st h'.st⟩
theorem w_or {a b : Expr} {rest : List Expr} {pos : Pos} {t u : TT} {m n : MT} (h : BT G S a t m) (h' : BW G S (.BoolOp .Or (b :: rest) pos) u n) : BW G S (.BoolOp .Or (a :: b :: rest) pos) (tOr t u) (mOr m n) := ⟨fun X g => pw_or (h.pt X g) (h'.pw X g), st_or h.st h'.st⟩
theorem b_one {op : BoolOp} {a : Expr} {pos : Pos} {t : TE} {m : M} (h : BE G S a t m) : BE G S (.BoolOp op [a] pos) t m := ⟨fun X g => pe_one (h.pe X g), h.so⟩
theorem b_and {a b : Expr} {rest : List Expr} {pos : Pos} {t u : TE} {m n : M} (h : BE G S a t m) (h' : BE G S (.BoolOp .And (b :: rest) pos) u n) : BE G S (.BoolOp .And (a :: b :: rest) pos) (tAndV t u) (mOfT (mAnd (mB m) (mB n))) := ⟨fun X g => pe_and (h.pe X g) (h'.pe X g), so_and h.so h'.so⟩
theorem b_or {a b : Expr} {rest : List Expr} {pos : Pos} {t u : TE} {m n : M} (h : BE G S a t m) (h' : BE G S (.BoolOp .Or (b :: rest) pos) u n) : BE G S (.BoolOp .Or (a :: b :: rest) pos) (tOrV t u) (mOfT (mOr (mB m) (mB n))) := ⟨fun X g => pe_or (h.pe X g) (h'.pe X g), so_or h.so h'.so⟩
theorem b_not {a : Expr} {pos : Pos} {t : TE} {m : M} (h : BE G S a t m) : BE G S (.UnaryOp .Not a pos) (tNotV t) (mOfT (mNot (mB m))) := ⟨fun X g => pe_not (h.pe X g), so_not h.so⟩
theorem b_ifE {c a b : Expr} {pos : Pos} {tt : TT} {ta tb : TE} {mt : MT} {ma mb : M} (hc : BT G S c tt mt) (ha : BE G S a ta ma) (hb : BE G S b tb mb) : BE G S (.IfExp c a b pos) (tIf tt ta tb) (mIf mt ma mb) := ⟨fun X g => pe_ifExp (hc.pt X g) (ha.pe X g) (hb.pe X g), so_if hc.st ha.so hb.so⟩

/-! ### displays, items, slices -/
theorem ba_nil : BA G S [] tNil mNil := ⟨fun _ _ => pa_nil, sa_nil⟩
theorem ba_cons {e : Expr} {es : List Expr} {t : TE} {ts : TA} {m : M} {ms : MA} (h : BE G S e t m) (hs : BA G S es ts ms) (h1 : ∀ env, starEach (e :: es) env = (false, eval e env) :: starEach es env := by intro _; rfl) : BA G S (e :: es) (tCons t ts) (mCons m ms) := ⟨fun X g => pa_cons (h.pe X g) (hs.pa X g) (h1 X.env), sa_cons h.so hs.sa⟩
theorem b_tup {es : List Expr} {k : Nat} {pos : Pos} {t : TA} {m : MA} (h : BA G S es t m) : BE G S (.Tuple es k pos) (tTup t) (mTup m) := ⟨fun X g => pe_tup (h.pa X g), so_tup h.sa⟩
theorem b_lst {es : List Expr} {pos : Pos} {t : TA} {m : MA} (h : BA G S es t m) : BE G S (.List es pos) (tLst t) (mLst m) := ⟨fun X g => pe_lst (h.pa X g), so_lst h.sa⟩
theorem b_ix {a b : Expr} {pos : Pos} {ta tb : TE} {ma mb : M} (ha : BE G S a ta ma) (hb : BE G S b tb mb) (hp : PlainIx b := by intro _ _; rfl) : BE G S (.Subscript a b pos) (tOp (rIx G.K) ta tb) (mIx ma mb) := ⟨fun X g => by rw [← g.K]; exact pe_ix ix_seq (ha.pe X g) (hb.pe X g) hp, so_ix ha.so hb.so⟩
theorem bp_none : BP G S none tNoPart mNoPart := ⟨fun _ _ => po_none, sp_none⟩
theorem bp_some {e : Expr} {t : TE} {m : M} (h : BE G S e t m) : BP G S (some e) (tPart t) (mPart m) := ⟨fun X g => po_some (h.pe X g), sp_some h.so⟩
theorem b_sl {e : Expr} {lo hi : Option Expr} {p2 pos : Pos} {t : TE} {tl th : TO} {m : M} {ml mh : MO} (h : BE G S e t m) (hl : BP G S lo tl ml) (hh : BP G S hi th mh) : BE G S (.Subscript e (.Slice lo hi none p2) pos) (tSl (rSlU G.K) t tl th) (mSl m ml mh) := ⟨fun X g => by rw [← g.K]; exact pe_slice sl_U (h.pe X g) (hl.po X g) (hh.po X g), so_sl h.so hl.sp hh.sp⟩
theorem b_rev {e : Expr} {k : Nat} {p1 p2 p3 pos : Pos} {t : TE} {m : M} (h : BE G S e t m) : BE G S (.Subscript e (.Slice none none (some (.UnaryOp .USub (.Constant (.int 1) k p1) p2)) p3) pos) (tRevL G.K t) (mUn dRev m) := ⟨fun X g => by rw [← g.K]; exact pe_revL (h.pe X g), so_rev h.so⟩
theorem b_bits {o : Expr} {apos pos : Pos} {t : TE} {m : M} (h : BE G S o t m) (h1 : ∀ env, attributeBase o "bit_length" env (eval o env) = eval o env := by intro _; rfl) (h2 : (apos.endLine == pos.line) = true := by rfl) : BE G S (.Call (.Attribute o "bit_length" apos) [] [] pos) (tBits t) (mUn dBits m) := ⟨fun X g => pe_bits (h.pe X g) (h1 X.env) h2, so_bits h.so⟩

/-! ### calls -/
/-- a def of the program that may be called -/
def FnK (P : Program) (w : World) (K : PySem.W.Frag) (mg : Str → Option Value) (base : Heap) (k : Nat) (x : Str) (ms : List Bool) (f : Fn) : Prop := ∃ (a : Addr) (fd : FuncData) (ps : List Str), FnOkG P w K mg base CX0 k a fd ps (SpF K ms f) ∧ mg x = some (.ref a) ∧ PySem.W.keepIn K (.ref a) = true ∧ Binds K fd ps []
theorem b_call {k : Nat} {x : Str} {ms : List Bool} {f : Fn} {e : Expr} {es : List Expr} {p pos : Pos} {t : TA} {m : MA} (F : FnK G.P G.w G.K G.mg G.base k x ms f) (hk : k ≤ G.k) (hg : globOk S x = true) (ha : BA G S (e :: es) t m) (h1 : ∀ env, starEach (e :: es) env = (false, eval e env) :: starEach es env := by intro _; rfl) (h2 : ∀ env, (backTo pos (starEach es env)).any (·.1) = false := by intro _; rfl) :
    BE G S (.Call (.Name x p) (e :: es) [] pos) (tCall (SpF G.K ms f) [] E0 t) (mCall ms f m) := by
  obtain ⟨a, fd, ps, F, hm, hkp, hb⟩ := F
  refine ⟨fun X g => ?_, so_call ha.sa⟩
  refine pe_callG (CX := CX0) (k := k) (f := a) (fd := fd) (ps := ps) (ds := []) ?_ (g.room.mono hk) g.still (globOk_gl g hg).1 (by rw [g.mg]; exact hm) (by rw [g.K]; exact hkp) (by rw [g.K]; exact hb) .nil pass0 (ha.pa X g) (globOk_gl g hg).2.1 (h1 X.env) (h2 X.env)
  rw [g.prog, g.w, g.K, g.mg, g.base]
  exact F
theorem b_callB {x : Str} {id : String} {r : List V → Hp → VK → Prop} {f : List D → Option D} {e : Expr} {es : List Expr} {p pos : Pos} {t : TA} {m : MA} (hc : ∀ X, Good G S X → CallR X (.builtin id) r) (hr : RCall G.K r f) (hv : bootBuiltins x = some (.builtin id)) (hm : G.mg x = none) (hg : globOk S x = true) (ha : BA G S (e :: es) t m)
    (h1 : ∀ env, starEach (e :: es) env = (false, eval e env) :: starEach es env := by intro _; rfl) (h2 : ∀ env, (backTo pos (starEach es env)).any (·.1) = false := by intro _; rfl) : BE G S (.Call (.Name x p) (e :: es) [] pos) (tCB r t) (mCB f m) :=
  ⟨fun X g => pe_callB (hc X g) (globOk_gl g hg).1 (by rw [g.mg]; exact hm) hv (ha.pa X g) (globOk_gl g hg).2.2 (globOk_gl g hg).2.1 (h1 X.env) (h2 X.env), so_cb hr ha.sa⟩
theorem b_callT {x : Str} {T : String} {r : List V → Hp → VK → Prop} {f : List D → Option D} {e : Expr} {es : List Expr} {p pos : Pos} {t : TA} {m : MA} (hc : ∀ X, Good G S X → CallR X (.type T) r) (hr : RCall G.K r f) (hv : bootBuiltins x = some (.type T)) (hm : G.mg x = none) (hg : globOk S x = true) (ha : BA G S (e :: es) t m)
    (h1 : ∀ env, starEach (e :: es) env = (false, eval e env) :: starEach es env := by intro _; rfl) (h2 : ∀ env, (backTo pos (starEach es env)).any (·.1) = false := by intro _; rfl) : BE G S (.Call (.Name x p) (e :: es) [] pos) (tCB r t) (mCB f m) :=
  ⟨fun X g => pe_callTy (hc X g) (globOk_gl g hg).1 (by rw [g.mg]; exact hm) hv (ha.pa X g) (globOk_gl g hg).2.2 (globOk_gl g hg).2.1 (h1 X.env) (h2 X.env), so_cb hr ha.sa⟩
abbrev rAbs1 : List V → Hp → VK → Prop := fun xs H Q => ∃ i, xs = [.int i] ∧ Q (.int (if i < 0 then -i else i)) H
abbrev rInt1 : List V → Hp → VK → Prop := fun xs H Q => (∃ i, xs = [.int i] ∧ Q (.int i) H) ∨ ∃ k, xs = [.bl k] ∧ Q (.int (if k then 1 else 0)) H
abbrev rMin2 : List V → Hp → VK → Prop := fun xs H Q => ∃ i j, xs = [.int i, .int j] ∧ Q (.int (if j < i then j else i)) H
abbrev rMax2 : List V → Hp → VK → Prop := fun xs H Q => ∃ i j, xs = [.int i, .int j] ∧ Q (.int (if j > i then j else i)) H
abbrev rDivm : List V → Hp → VK → Prop := fun xs H Q => ∃ i j, xs = [.int i, .int j] ∧ CDiv i j ∧ ∀ p, H p = none → Q (.ref p) (upd H p (.tup [.int (i / j), .int (i % j)]))
section
variable {e : Expr} {es : List Expr} {p pos : Pos} {t : TA} {m : MA}
theorem b_len (hm : G.mg "len" = none) (hg : globOk S "len" = true) (ha : BA G S [e] t m) (h1 : ∀ env, starEach [e] env = [(false, eval e env)] := by intro _; rfl) : BE G S (.Call (.Name "len" p) [e] [] pos) (tCB (rLenU G.K) t) (mCB cLen m) :=
  b_callB (fun X g => by rw [← g.K]; exact call_len) rc_len boot_len hm hg ha h1 (by intro _; rfl)
theorem b_abs (hm : G.mg "abs" = none) (hg : globOk S "abs" = true) (ha : BA G S [e] t m) (h1 : ∀ env, starEach [e] env = [(false, eval e env)] := by intro _; rfl) : BE G S (.Call (.Name "abs" p) [e] [] pos) (tCB rAbs1 t) (mCB cAbs m) :=
  b_callB (fun X g => call_abs) rc_abs (by decide +kernel) hm hg ha h1 (by intro _; rfl)
theorem b_int1 (hm : G.mg "int" = none) (hg : globOk S "int" = true) (ha : BA G S [e] t m) (h1 : ∀ env, starEach [e] env = [(false, eval e env)] := by intro _; rfl) : BE G S (.Call (.Name "int" p) [e] [] pos) (tCB rInt1 t) (mCB cInt m) :=
  b_callT (fun X g => call_int1) rc_int (by decide +kernel) hm hg ha h1 (by intro _; rfl)
theorem b_list (hm : G.mg "list" = none) (hg : globOk S "list" = true) (ha : BA G S [e] t m) (h1 : ∀ env, starEach [e] env = [(false, eval e env)] := by intro _; rfl) : BE G S (.Call (.Name "list" p) [e] [] pos) (tCB (fun xs H Q => ∃ p ys, xs = [.ref p] ∧ (SqL G.K H p ys ∨ SqT G.K H p ys) ∧ ∀ l, H l = none → Q (.ref l) (upd H l (.lst ys))) t) (mCB cList m) :=
  b_callT (fun X g => by rw [← g.K]; exact call_list_of) rc_list (by decide +kernel) hm hg ha h1 (by intro _; rfl)
theorem b_tuple (hm : G.mg "tuple" = none) (hg : globOk S "tuple" = true) (ha : BA G S [e] t m) (h1 : ∀ env, starEach [e] env = [(false, eval e env)] := by intro _; rfl) : BE G S (.Call (.Name "tuple" p) [e] [] pos) (tCB (fun xs H Q => ∃ p ys, xs = [.ref p] ∧ ((SqL G.K H p ys ∧ ∀ l, H l = none → Q (.ref l) (upd H l (.tup ys))) ∨ (SqT G.K H p ys ∧ Q (.ref p) H))) t) (mCB cTuple m) :=
  b_callT (fun X g => by rw [← g.K]; exact call_tuple_of) rc_tuple (by decide +kernel) hm hg ha h1 (by intro _; rfl)
theorem b_all (hm : G.mg "all" = none) (hg : globOk S "all" = true) (ha : BA G S [e] t m) (h1 : ∀ env, starEach [e] env = [(false, eval e env)] := by intro _; rfl) : BE G S (.Call (.Name "all" p) [e] [] pos) (tCB (rAll G.K) t) (mCB cAll m) :=
  b_callB (fun X g => by rw [← g.K]; exact cr_all g.calm) rc_all (by decide +kernel) hm hg ha h1 (by intro _; rfl)
theorem b_any (hm : G.mg "any" = none) (hg : globOk S "any" = true) (ha : BA G S [e] t m) (h1 : ∀ env, starEach [e] env = [(false, eval e env)] := by intro _; rfl) : BE G S (.Call (.Name "any" p) [e] [] pos) (tCB (rAny G.K) t) (mCB cAny m) :=
  b_callB (fun X g => by rw [← g.K]; exact cr_any g.calm) rc_any (by decide +kernel) hm hg ha h1 (by intro _; rfl)
theorem b_sum (hm : G.mg "sum" = none) (hg : globOk S "sum" = true) (ha : BA G S [e] t m) (h1 : ∀ env, starEach [e] env = [(false, eval e env)] := by intro _; rfl) : BE G S (.Call (.Name "sum" p) [e] [] pos) (tCB (rSum G.K) t) (mCB cSum m) :=
  b_callB (fun X g => by rw [← g.K]; exact cr_sum g.calm) rc_sum (by decide +kernel) hm hg ha h1 (by intro _; rfl)
variable {e2 : Expr}
theorem b_min2 (hm : G.mg "min" = none) (hg : globOk S "min" = true) (ha : BA G S [e, e2] t m) (h1 : ∀ env, starEach [e, e2] env = (false, eval e env) :: starEach [e2] env := by intro _; rfl) (h2 : ∀ env, (backTo pos (starEach [e2] env)).any (·.1) = false := by intro _; rfl) : BE G S (.Call (.Name "min" p) [e, e2] [] pos) (tCB rMin2 t) (mCB cMin2 m) :=
  b_callB (fun X g => call_min2 g.calm) rc_min2 (by decide +kernel) hm hg ha h1 h2
theorem b_max2 (hm : G.mg "max" = none) (hg : globOk S "max" = true) (ha : BA G S [e, e2] t m) (h1 : ∀ env, starEach [e, e2] env = (false, eval e env) :: starEach [e2] env := by intro _; rfl) (h2 : ∀ env, (backTo pos (starEach [e2] env)).any (·.1) = false := by intro _; rfl) : BE G S (.Call (.Name "max" p) [e, e2] [] pos) (tCB rMax2 t) (mCB cMax2 m) :=
  b_callB (fun X g => call_max2 g.calm) rc_max2 (by decide +kernel) hm hg ha h1 h2
theorem b_divmod (hm : G.mg "divmod" = none) (hg : globOk S "divmod" = true) (ha : BA G S [e, e2] t m) (h1 : ∀ env, starEach [e, e2] env = (false, eval e env) :: starEach [e2] env := by intro _; rfl) (h2 : ∀ env, (backTo pos (starEach [e2] env)).any (·.1) = false := by intro _; rfl) : BE G S (.Call (.Name "divmod" p) [e, e2] [] pos) (tCB rDivm t) (mCB cDivmod m) :=
  b_callB (fun X g => call_divmod) rc_divmod (by decide +kernel) hm hg ha h1 h2
theorem b_isinst (hm : G.mg "isinstance" = none) (hg : globOk S "isinstance" = true) (ha : BA G S [e, e2] t m) (h1 : ∀ env, starEach [e, e2] env = (false, eval e env) :: starEach [e2] env := by intro _; rfl) (h2 : ∀ env, (backTo pos (starEach [e2] env)).any (·.1) = false := by intro _; rfl) : BE G S (.Call (.Name "isinstance" p) [e, e2] [] pos) (tCB (rIsiU G.K) t) (mCB cIsiU m) :=
  b_callB (fun X g => by rw [← g.K]; exact call_isiU) rc_isiU (by decide +kernel) hm hg ha h1 h2
end

/-! ### methods of lists -/
def argsOk (n : Nat) : Bool := decide (n < 30)
theorem b_meth {x : Str} {i : Nat} {name : Str} {id : String} {r : V → List V → Hp → VK → Prop} {f : List D → List D → Option (D × List D)} {e : Expr} {es : List Expr} {px apos cpos : Pos} {t : TA} {m : MA} (slot : Slot "list" name id) (hty : typeOf (.builtin id) = pure (.type "method_descriptor")) (hm : ∀ X, Good G S X → MtR X id r) (hr : RMut G.K r f) (hn : nameOk S i x = true) (ha : BA G S (e :: es) t m)
    (h2 : ∀ env, ((((backTo cpos (starEach (e :: es) env)).all fun x => !x.1) && (backToKw cpos (keywordEach [] env)).all fun x => x.1.isSome) && decide ((e :: es).length + ([] : List Keyword).length + (if ([] : List Keyword).isEmpty then 0 else 1) < 30)) = true := by intro _; rfl) (h3 : (apos.endLine == cpos.line) = true := by rfl)
    (h4 : ∀ env, starEach (e :: es) env = (false, eval e env) :: starEach es env := by intro _; rfl) (h5 : ∀ env, (backTo cpos (starEach es env)).any (·.1) = false := by intro _; rfl) :
    BE G S (.Call (.Attribute (.Name x px) name apos) (e :: es) [] cpos) (tBM G.K "list" r (tVar i) t) (mMut i f m) :=
  ⟨fun X g => by rw [← g.K]; exact pe_bm F.plainAttrs_list slot hty (hm X g) ((b_name (G := G) hn).pe X g) (ha.pa X g) rfl (h2 X.env) h3 (h4 X.env) (h5 X.env), so_mut hr ha.sa⟩
theorem b_meth0 {x : Str} {i : Nat} {name : Str} {id : String} {r : V → List V → Hp → VK → Prop} {f : List D → List D → Option (D × List D)} {px apos cpos : Pos} (slot : Slot "list" name id) (hty : typeOf (.builtin id) = pure (.type "method_descriptor")) (hm : ∀ X, Good G S X → MtR X id r) (hr : RMut G.K r f) (hn : nameOk S i x = true) (h3 : (apos.endLine == cpos.line) = true := by rfl) :
    BE G S (.Call (.Attribute (.Name x px) name apos) [] [] cpos) (tBM0 G.K "list" r (tVar i)) (mMut i f mNil) :=
  ⟨fun X g => by rw [← g.K]; exact pe_bm0 F.plainAttrs_list slot hty (hm X g) ((b_name (G := G) hn).pe X g) rfl h3, so_mut0 hr⟩
theorem m_append {X : Cx} : MtR X "list.append" rAppend := mt_append
theorem m_pop {X : Cx} : MtR X "list.pop" rPop := mt_pop

/-! ### comprehensions -/
def ownOk (S : Sc) (scope : Scope) (own : List (Str × Nat)) : Bool := blkC S.N S.sc scope own
theorem bts_nil : BTs G S [] tYes mYes := ⟨fun _ _ => pts_nil, st_yes⟩
theorem bts_one {c : Expr} {t : TT} {m : MT} (h : BT G S c t m) : BTs G S [c] t m := ⟨fun X g => pts_one (h.pt X g), h.st⟩
theorem b_lc {elt tg iter : Expr} {ifs : List Expr} {scope : Scope} {pos : Pos} {wi : TI} {tgt : TG} {tt : TT} {te : TE} {mi : MI} {mg : MG} {mt : MT} {me : M} {js : List Nat} (own : List (Str × Nat)) (hN : decide S.N.Nodup = true) (ho : ownOk S scope own = true) (hi : BI G S tg iter wi mi) (hg : BG G (S.blk scope) tg tgt mg js) (ht : BTs G (S.blk scope) ifs tt mt) (he : BE G (S.blk scope) elt te me)
    (hj : (js.all fun j => (own.map (·.2)).contains j) = true := by rfl) (hs : ∀ env x, foldedSetIterable iter env x = pure x := by intro _ _; rfl) :
    BE G S (.ListComp elt [⟨tg, iter, ifs, 0⟩] scope pos) (tLc wi tgt tt te (own.map (·.2))) (mLc mi mg mt me (own.map (·.2))) :=
  ⟨fun X g => pe_lc g.calm (by rw [g.N]; exact of_decide_eq_true hN) (hi.pi X g) (blkOk_by (by rw [g.N, g.sc]; exact ho)) (fun s H C cl fp => hg.pg _ (g.blk scope s H C cl fp)) (fun s H C cl fp => ht.pt _ (g.blk scope s H C cl fp)) (fun s H C cl fp => he.pe _ (g.blk scope s H C cl fp)) (hs X.env),
    so_lc hi.si hg.sg ht.st he.so fun j hj' => by
      have := List.all_eq_true.mp hj j hj'
      simpa using this⟩

/-! ### what is walked -/
theorem bi_seq {tg e : Expr} {t : TE} {m : M} (h : BE G S e t m) : BI G S tg e (iSeqU G.K t) (mSrc m) := ⟨fun X g => by rw [← g.K]; exact pi_seqU (h.pe X g), si_seq h.so⟩
theorem bi_range1 {tg a : Expr} {p pos : Pos} {t : TA} {m : MA} (hm : G.mg "range" = none) (hg : globOk S "range" = true) (ha : BA G S [a] t m) (h1 : ∀ env, starEach [a] env = [(false, eval a env)] := by intro _; rfl) : BI G S tg (.Call (.Name "range" p) [a] [] pos) (iRng1 t) (mRange rangeD m) := ⟨fun X g => pi_range1 (globOk_gl g hg).1 (by rw [g.mg]; exact hm) (ha.pa X g) (h1 X.env), si_range1 ha.sa⟩
theorem bi_range2 {tg a b : Expr} {p pos : Pos} {t : TA} {m : MA} (hm : G.mg "range" = none) (hg : globOk S "range" = true) (ha : BA G S [a, b] t m) (h1 : ∀ env, starEach [a, b] env = [(false, eval a env), (false, eval b env)] := by intro _; rfl) (h2 : ∀ env, starEach [b] env = [(false, eval b env)] := by intro _; rfl) : BI G S tg (.Call (.Name "range" p) [a, b] [] pos) (iRng2 t) (mRange rangeD2 m) := ⟨fun X g => pi_range2 (globOk_gl g hg).1 (by rw [g.mg]; exact hm) (ha.pa X g) (h1 X.env) (h2 X.env), si_range2 ha.sa⟩
theorem bi_enum {e : Expr} {elts : List Expr} {kk : Nat} {tpos p pos : Pos} {t : TA} {m : MA} (hm : G.mg "enumerate" = none) (hg : globOk S "enumerate" = true) (ha : BA G S [e] t m) (h1 : ∀ env, starEach [e] env = [(false, eval e env)] := by intro _; rfl) : BI G S (.Tuple elts kk tpos) (.Call (.Name "enumerate" p) [e] [] pos) (iEnumU G.K t) (mEnum m) := ⟨fun X g => by rw [← g.K]; exact pi_enumU (globOk_gl g hg).1 (by rw [g.mg]; exact hm) (ha.pa X g) (h1 X.env), si_enum ha.sa⟩
theorem bi_zip {e e2 : Expr} {elts : List Expr} {kk : Nat} {tpos p pos : Pos} {t : TA} {m : MA} (hm : G.mg "zip" = none) (hg : globOk S "zip" = true) (ha : BA G S [e, e2] t m) (h1 : ∀ env, starEach [e, e2] env = (false, eval e env) :: starEach [e2] env := by intro _; rfl) (h2 : ∀ env, (backTo pos (starEach [e2] env)).any (·.1) = false := by intro _; rfl) : BI G S (.Tuple elts kk tpos) (.Call (.Name "zip" p) [e, e2] [] pos) (RZ.iZipA G.K t) (mZip m) := ⟨fun X g => by rw [← g.K]; exact RZ.pi_zipA (globOk_gl g hg).1 (by rw [g.mg]; exact hm) (ha.pa X g) (h1 X.env) (h2 X.env), si_zip ha.sa⟩

/-! ### targets -/
def setOk (S : Sc) (i : Nat) (x : Str) : Bool := decide (S.N[i]? = some x) && (decide (S.sc.names.lookup x = some .local) || decide (S.sc.names.lookup x = some .cell)) && (S.fn x || decide (S.sc.names.lookup x = some .local)) && decide S.N.Nodup
theorem setOk_at {X : Cx} {i : Nat} {x : Str} (g : Good G S X) (h : setOk S i x = true) : X.N.Nodup ∧ X.N[i]? = some x ∧ L2.Loc X.env.scope x ∧ (X.fn x = true ∨ X.env.scope.names.lookup x = some .local) := by
  simp only [setOk, Bool.and_eq_true, Bool.or_eq_true, decide_eq_true_eq] at h
  unfold L2.Loc
  rw [g.N, g.sc, g.fn]
  exact ⟨h.2, h.1.1.1, h.1.1.2, h.1.2⟩
theorem bg_name {i : Nat} {x : Str} {pos : Pos} (h : setOk S i x = true) : BG G S (.Name x pos) (gName i) (gSet i) [i] := ⟨fun X g => let ⟨a, b, c, d⟩ := setOk_at g h; pg_name a b c d, sg_name⟩
theorem bgs_nil : BGs G S [] gNil gsNil [] := ⟨fun _ _ => pgs_nil, sgs_nil⟩
theorem bgs_cons {e : Expr} {es : List Expr} {t : TG} {ts : TGs} {m : MG} {ms : MGs} {is js : List Nat} (h : BG G S e t m is) (hs : BGs G S es ts ms js) (h1 : ∀ env, (assignEach (e :: es) env).map (·.2) = assign e env :: (assignEach es env).map (·.2) := by intro _; rfl) : BGs G S (e :: es) (gCons t ts) (gsCons m ms) (is ++ js) := ⟨fun X g => pgs_cons (h.pg X g) (hs.pg X g) (h1 X.env), sgs_cons h.sg hs.sg⟩
theorem bg_tup {es : List Expr} {k n : Nat} {pos : Pos} {t : TGs} {m : MGs} {is : List Nat} (h : BGs G S es t m is) (h1 : ∀ env, (assignEach es env).length = n := by intro _; rfl) (h2 : ∀ env, (assignEach es env).findIdx? (·.1) = none := by intro _; rfl) : BG G S (.Tuple es k pos) (gTup G.K n t) (gTupD n m) is := ⟨fun X g => by rw [← g.K]; exact pg_tup g.calm (h.pg X g) (h1 X.env) (h2 X.env), sg_tup h.sg⟩
theorem bg_sub {x : Str} {j : Nat} {i : Expr} {px pos : Pos} {t : TE} {m : M} (hx : nameOk S j x = true) (hi : BE G S i t m) (h1 : ∀ env v, assign (.Subscript (.Name x px) i pos) env v = (do let ov ← holding [v] (eval (.Name x px) env); let iv ← holding [v, ov] (eval i env); standAt pos; holding [v, ov, iv] (setItem ov iv v); release [v, ov, iv] []) := by intro _ _; rfl) :
    BG G S (.Subscript (.Name x px) i pos) (gSub (tVar j) t rSetL) (gSubD j m) [] := ⟨fun X g => pg_sub ((b_name (G := G) hx).pe X g) (hi.pe X g) set_list (h1 X.env), sg_sub hi.so⟩

/-! ### statements -/
theorem bs_set {i : Nat} {x : Str} {e : Expr} {px pos : Pos} {t : TE} {m : M} (h : setOk S i x = true) (he : BE G S e t m) (h1 : ∀ env, swapsWith e (some (.Name x px)) pos.line env = pure false := by intro _; rfl) : BS G S (.Assign [.Name x px] e pos) (tAsg t (gName i)) (mAsg m (gSet i)) := ⟨fun X g => let ⟨a, b, c, d⟩ := setOk_at g h; ps_set a b c (he.pe X g) (h1 X.env) d, ss_asg he.so sg_name⟩
def lcOk (S : Sc) (scope : Scope) (i : Nat) (x : Str) (px pos : Pos) : Bool := decide (S.N[i]? = some x) && decide (S.sc.names.lookup x = some .local) && decide (S.sc.kind = .function) && (px.line == pos.line) && !(scope.names.any fun (n, k) => n == x && (k == .local || k == .cell))
theorem bs_setLc {i : Nat} {x : Str} {elt tg iter : Expr} {ifs : List Expr} {scope : Scope} {px pos spos : Pos} {wi : TI} {tgt : TG} {tt : TT} {te : TE} {mi : MI} {mg : MG} {mt : MT} {me : M} {js : List Nat} (own : List (Str × Nat)) (hN : decide S.N.Nodup = true) (hx : lcOk S scope i x px pos = true) (ho : ownOk S scope own = true) (hi : BI G S tg iter wi mi) (hg : BG G (S.blk scope) tg tgt mg js) (ht : BTs G (S.blk scope) ifs tt mt) (he : BE G (S.blk scope) elt te me)
    (hj : (js.all fun j => (own.map (·.2)).contains j) = true := by rfl) (hs : ∀ env x, foldedSetIterable iter env x = pure x := by intro _ _; rfl) :
    BS G S (.Assign [.Name x px] (.ListComp elt [⟨tg, iter, ifs, 0⟩] scope pos) spos) (tAsg (tLc wi tgt tt te (own.map (·.2))) (gName i)) (mAsg (mLc mi mg mt me (own.map (·.2))) (gSet i)) := by
  simp only [lcOk, Bool.and_eq_true, decide_eq_true_eq, Bool.not_eq_true'] at hx
  refine ⟨fun X g => ?_, ss_asg (b_lc (pos := pos) own hN ho hi hg ht he hj hs).so sg_name⟩
  refine ps_setLc g.calm (by rw [g.N]; exact of_decide_eq_true hN) (by rw [g.N]; exact hx.1.1.1.1) (by rw [g.sc]; exact hx.1.1.1.2) (sw_true (by rw [g.sc]; exact hx.1.1.2) (by rw [g.sc]; exact hx.1.1.1.2) hx.1.2 hx.2) (hi.pi X g) (blkOk_by (by rw [g.N, g.sc]; exact ho)) (fun s H C cl fp => hg.pg _ (g.blk scope s H C cl fp)) (fun s H C cl fp => ht.pt _ (g.blk scope s H C cl fp)) (fun s H C cl fp => he.pe _ (g.blk scope s H C cl fp)) (hs X.env)
theorem bs_asg {tg e : Expr} {pos : Pos} {t : TE} {tgt : TG} {m : M} {mg : MG} {is : List Nat} (he : BE G S e t m) (hg : BG G S tg tgt mg is) (h1 : ∀ env, swapsWithSole [tg] e pos.line env = pure false := by intro _; rfl) (h2 : ∀ env, swappedStores [tg] e env = pure none := by intro _; rfl) (h3 : ∀ env, (assignEach [tg] env).map (·.2) = [assign tg env] := by intro _; rfl) :
    BS G S (.Assign [tg] e pos) (tAsg t tgt) (mAsg m mg) := ⟨fun X g => ps_asg (he.pe X g) (hg.pg X g) (h1 X.env) (h2 X.env) (h3 X.env), ss_asg he.so hg.sg⟩
theorem bs_ret {e : Expr} {pos : Pos} {t : TE} {m : M} (he : BE G S e t m) : BS G S (.Return (some e) pos) (tRet t) (mRet m) := ⟨fun X g => ps_ret (he.pe X g), ss_ret he.so⟩
theorem bs_retN {pos : Pos} : BS G S (.Return none pos) tRetN mRetN := ⟨fun X g => ps_retN, ss_retN⟩
theorem bs_expr {e : Expr} {pos : Pos} {t : TE} {m : M} (he : BE G S e t m) (h1 : ∀ env, swapsWith e none pos.line env = pure false := by intro _; rfl) : BS G S (.Expr e pos) (tDrop t) (mDrop m) := ⟨fun X g => ps_expr (he.pe X g) (h1 X.env), ss_drop he.so⟩
theorem bs_if {c : Expr} {a b : List Stmt} {pos : Pos} {tt : TT} {t u : TS} {mt : MT} {m n : MS} (hc : BT G S c tt mt) (ha : BSs G S a t m) (hb : BSs G S b u n) : BS G S (.If c a b pos) (tIfS tt t u) (mIfS mt m n) := ⟨fun X g => ps_if (hc.pt X g) (ha.ps X g) (hb.ps X g), ss_if hc.st ha.ss hb.ss⟩
theorem bs_for {tg iter : Expr} {body : List Stmt} {pos : Pos} {wi : TI} {tgt : TG} {tb : TS} {mi : MI} {mg : MG} {mb : MS} {is : List Nat} (hi : BI G S tg iter wi mi) (hg : BG G S tg tgt mg is) (hb : BSs G S body tb mb) (hs : ∀ env x, foldedSetIterable iter env x = pure x := by intro _ _; rfl) : BS G S (.For tg iter body [] pos) (tFor wi tgt tb) (mFor mi mg mb) := ⟨fun X g => ps_for g.own g.calm (hi.pi X g) (hg.pg X g) (hb.ps X g) (hs X.env), ss_for hi.si hg.sg hb.ss⟩
theorem bs_while {c : Expr} {body : List Stmt} {pos : Pos} {tt : TT} {tb : TS} {mt : MT} {mb : MS} (n : Nat) (hc : BT G S c tt mt) (hb : BSs G S body tb mb) : BS G S (.While c body [] pos) (tWhile tt tb) (mWhile n mt mb) := ⟨fun X g => ps_while g.own (hc.pt X g) (hb.ps X g), ss_while n hc.st hb.ss⟩
theorem bs_aug {i : Nat} {x : Str} {op : Operator} {e : Expr} {px pos : Pos} {r : R2} {f : D → D → Option D} {t : TE} {m : M} (h : setOk S i x = true) (ho : ∀ X, Good G S X → PIp X op r) (hr : ROp G.K r f) (he : BE G S e t m) : BS G S (.AugAssign (.Name x px) op e pos) (tAug i t r) (mAug i f m) := ⟨fun X g => let ⟨a, b, c, d⟩ := setOk_at g h; ps_aug a b c (he.pe X g) (ho X g) d, ss_aug hr he.so⟩
section
variable {i : Nat} {x : Str} {e : Expr} {px pos : Pos} {t : TE} {m : M}
theorem bs_augAdd (h : setOk S i x = true) (he : BE G S e t m) : BS G S (.AugAssign (.Name x px) .Add e pos) (tAug i t (rI0 fun i j => .int (i + j))) (mAug i (i2 fun i j => .int (i + j)) m) := bs_aug h (fun X g => iop_add) (rop_i2 fun i j H => by simp [Rep]) he
theorem bs_augSub (h : setOk S i x = true) (he : BE G S e t m) : BS G S (.AugAssign (.Name x px) .Sub e pos) (tAug i t (rI0 fun i j => .int (i - j))) (mAug i dSub m) := bs_aug h (fun X g => iop_sub) rop_sub he
theorem bs_augMul (h : setOk S i x = true) (he : BE G S e t m) : BS G S (.AugAssign (.Name x px) .Mult e pos) (tAug i t (rI CMul fun i j => .int (i * j))) (mAug i (i2c cMul fun i j => .int (i * j)) m) := bs_aug h (fun X g => iop_mul) (rop_i2c cMul_ok fun i j H => by simp [Rep]) he
end
theorem bs_pass {pos : Pos} : BS G S (.Pass pos) tNext mNext := ⟨fun X g => ps_pass, ss_next⟩
theorem bs_break {pos : Pos} : BS G S (.Break pos) tBreak mBreak := ⟨fun X g => ps_break, ss_break⟩
theorem bs_cont {pos : Pos} : BS G S (.Continue pos) tCont mCont := ⟨fun X g => ps_continue, ss_cont⟩
theorem bss_nil : BSs G S [] tNext mNext := ⟨fun X g => pss_nil, ss_next⟩
theorem bss_one {s : Stmt} {t : TS} {m : MS} (h : BS G S s t m) : BSs G S [s] t m := ⟨fun X g => pss_one (h.ps X g), h.ss⟩
theorem bss_cons {s : Stmt} {r : List Stmt} {t u : TS} {m n : MS} (h : BS G S s t m) (hr : BSs G S r u n) : BSs G S (s :: r) (tSeq t u) (mSeq m n) := ⟨fun X g => pss_cons (h.ps X g) (hr.ps X g), ss_seq h.ss hr.ss⟩
end

/-! ### a def -/
def scOf (N : List Str) (st : Stmt) : Sc := ⟨N, defScope st, fun _ => true⟩
end U

namespace U
open PySem L2
/-- a def of the text, as the top leaves it -/
abbrev FnP (K : PySem.W.Frag) (x : Str) (st : Stmt) (f : Addr) (fd : FuncData) : Prop := FunD K x x (defArgs st) (defBody st) (defScope st) [] [] f fd
def Has (K : PySem.W.Frag) (mg : Str → Option Value) (x : Str) (st : Stmt) : Prop := ∃ f fd, FnP K x st f fd ∧ mg x = some (.ref f)
theorem fn_okD {P : Program} {w : World} {K : PySem.W.Frag} {mg : Str → Option Value} {base : Heap} {k : Nat} {x : Str} {st : Stmt} {f : Addr} {fd : FuncData} {N ps : List Str} {ms : List Bool} {n : Nat} {t : TS} {b : MS} (F : FnP K x st f fd) (Sx : FnScope N ps (defScope st)) (hp : ps.length = ms.length) (hN : N.length = ms.length + n)
    (hb : BSs ⟨P, w, K, mg, base, k⟩ (scOf N st) (defBody st) t b) : FnOkG P w K mg base CX0 (k + 1) f fd ps (SpF K ms (fnOf ms n b)) := by
  refine FunD.okG F Sx (fun vs H Q E h => ?_) (fun cdv A outer s H vs Q E hr hs h => ⟨t, PSs.nox (hb.ps _ ⟨rfl, rfl, rfl, rfl, rfl, rfl, rfl, rfl, rfl, hr, hs, rfl⟩), fn_walk hb.ss hN vs H Q E h⟩)
  obtain ⟨ds, r, ds', fp, e, hd, hv, _⟩ := h
  rw [hv, hp]
theorem fn_k {P : Program} {w : World} {K : PySem.W.Frag} {mg : Str → Option Value} {base : Heap} {k : Nat} {x : Str} {st : Stmt} {N ps : List Str} {ms : List Bool} {n : Nat} {b : MS} (h : Has K mg x st) (Sx : FnScope N ps (defScope st)) (hp : ps.length = ms.length) (hN : N.length = ms.length + n)
    (hb : ∃ t, BSs ⟨P, w, K, mg, base, k⟩ (scOf N st) (defBody st) t b)
    (hbind : ∀ (kV doc pm : Value) (an : Option Addr) (cdv ct : Value) (us : List Value), us.length = ps.length → bindArgs (PySem.W.fnOf x x (defArgs st) (defBody st) (defScope st) .none kV doc pm an cdv ct) ⟨us, []⟩ = pure (ps.zip us)) : FnK P w K mg base (k + 1) x ms (fnOf ms n b) := by
  obtain ⟨f, fd, F, hm⟩ := h
  obtain ⟨t, hb⟩ := hb
  exact ⟨f, fd, ps, fn_okD F Sx hp hN hb, hm, F.kp, F.bindsN hbind⟩
/-- a function of which nothing is promised -/
theorem fn_none {P : Program} {w : World} {K : PySem.W.Frag} {mg : Str → Option Value} {base : Heap} {k : Nat} {x : Str} {st : Stmt} {ps : List Str} {ms : List Bool} (h : Has K mg x st)
    (hbind : ∀ (kV doc pm : Value) (an : Option Addr) (cdv ct : Value) (us : List Value), us.length = ps.length → bindArgs (PySem.W.fnOf x x (defArgs st) (defBody st) (defScope st) .none kV doc pm an cdv ct) ⟨us, []⟩ = pure (ps.zip us)) : FnK P w K mg base k x ms (fun _ => none) := by
  obtain ⟨f, fd, F, hm⟩ := h
  refine ⟨f, fd, ps, ⟨fun vs H Q E h => ?_, fun A outer s H args us vs Q E _ _ _ _ _ h => ?_⟩, hm, F.kp, F.bindsN hbind⟩
  · obtain ⟨ds, r, ds', fp, e, _⟩ := h
    cases e
  · obtain ⟨ds, r, ds', fp, e, _⟩ := h
    cases e
theorem pureL_ints : ∀ ns : List Int, D.pureL (ns.map D.int) = true
  | [] => rfl
  | n :: ns => by
    show ((D.int n).pure && D.pureL (ns.map D.int)) = true
    rw [pureL_ints ns]
    rfl
/-- the law's promise, from what it makes of a script -/
theorem law_sp {K : PySem.W.Frag} {f : Fn} {H : Hp} {a : Addr} {ns : List Int} (hO : Only H) (fz : FzL K H a (ns.map V.int)) (h : ∃ ds', f [.fz (ns.map D.int)] = some (.bl true, ds')) : SpF K [false] f [.ref a] H (fun v _ => v = .bl true) fun _ _ _ => False := by
  obtain ⟨ds', e⟩ := h
  refine ⟨[.fz (ns.map D.int)], .bl true, ds', fun _ => [], e, rfl, rfl, fun i d hd => ?_, fun _ _ => rfl, fun i hi => ?_, fun v H' F fp' _ r _ _ _ => ?_⟩
  · cases i with
    | zero =>
      cases hd
      refine ⟨.ref a, rfl, ?_⟩
      simp only [Rep]
      exact ⟨a, _, rfl, fz, RepL.ints ns⟩
    | succ i => simp at hd
  · cases i with
    | zero => cases hi
    | succ i => simp at hi
  · simp only [Rep] at r
    exact r.1
end U

namespace U
open PySem L2
/-- a frame of which the names' kinds alone matter -/
def envS (sc : Scope) : PySem.Env := { scope := sc, locals := 0, globals := mainGlobals, cells := [], qual := "", func := none, code := .none, frame := none, builtins := builtinsNs }
theorem swapped_env {ts : List Expr} {v : Expr} {env : PySem.Env} : swappedStores ts v env = swappedStores ts v (envS env.scope) := rfl
theorem swaps_env {e : Expr} {o : Option Expr} {l : Nat} {env : PySem.Env} : swapsWith e o l env = swapsWith e o l (envS env.scope) := rfl
section
variable {G : Gb} {S : Sc}
theorem bi_range3 {tg a b c : Expr} {p pos : Pos} {t : TA} {m : MA} (hm : G.mg "range" = none) (hg : globOk S "range" = true) (ha : BA G S [a, b, c] t m) (h1 : ∀ env, starEach [a, b, c] env = (false, eval a env) :: starEach [b, c] env := by intro _; rfl) (h2 : ∀ env, (backTo pos (starEach [b, c] env)).any (·.1) = false := by intro _; rfl) : BI G S tg (.Call (.Name "range" p) [a, b, c] [] pos) (iRng3 t) (mRange rangeD3 m) := ⟨fun X g => pi_range3 (globOk_gl g hg).1 (by rw [g.mg]; exact hm) (ha.pa X g) (h1 X.env) (h2 X.env), si_range3 ha.sa⟩
/-- name = [..] where the name is one that a comprehension reads -/
theorem bs_setLcF {i : Nat} {x : Str} {e : Expr} {px pos : Pos} {t : TE} {m : M} (h : setOk S i x = true) (h1 : swapsWith e (some (.Name x px)) pos.line (envS S.sc) = pure false) (he : BE G S e t m) : BS G S (.Assign [.Name x px] e pos) (tAsg t (gName i)) (mAsg m (gSet i)) :=
  ⟨fun X g => let ⟨a, b, c, d⟩ := setOk_at g h; ps_set a b c (he.pe X g) (by rw [swaps_env, g.sc]; exact h1) d, ss_asg he.so sg_name⟩
theorem bs_asgT {tg e : Expr} {pos : Pos} {t : TE} {tgt : TG} {m : M} {mg : MG} {is : List Nat} (he : BE G S e t m) (hg : BG G S tg tgt mg is) (h2 : swappedStores [tg] e (envS S.sc) = pure none) (h1 : ∀ env, swapsWithSole [tg] e pos.line env = pure false := by intro _; rfl) (h3 : ∀ env, (assignEach [tg] env).map (·.2) = [assign tg env] := by intro _; rfl) :
    BS G S (.Assign [tg] e pos) (tAsg t tgt) (mAsg m mg) := ⟨fun X g => ps_asg (he.pe X g) (hg.pg X g) (h1 X.env) (by rw [swapped_env, g.sc]; exact h2) (h3 X.env), ss_asg he.so hg.sg⟩
def mPar2 (i j : Nat) (ma : MA) : MS := fun ρ => match ma ρ with
  | some (os, ρ1) => match tms os with
    | some (u, ds) => (gsCons (gSet i) (gsCons (gSet j) gsNil) u ds ρ1).map .nx
    | none => none
  | none => none
theorem ss_par2 {K : PySem.W.Frag} {i j : Nat} {ta : TA} {ma : MA} (ha : SA K ta ma) : SS K (tPar i j ta) (mPar2 i j ma) := by
  intro ρ o e T σ H fp E R h
  unfold mPar2 at e
  split at e
  · rename_i os ρ1 e1
    split at e
    · rename_i u ds e2
      simp only [Option.map_eq_some_iff] at e
      obtain ⟨ρ2, e3, rfl⟩ := e
      refine ha ρ os ρ1 e1 T σ H fp R _ fun vs H1 fp1 F R1 p1 n1 f1 r1 => ?_
      obtain ⟨rl, ru⟩ := ORs.repl r1 e2
      have := sgs_cons (sg_name (K := K) (i := i)) (sgs_cons (sg_name (i := j)) sgs_nil) ρ1 u ds ρ2 e3 T σ H1 fp1 vs F R1 rl ru E.nx fun σ2 H2 fp2 R2 p2 n2 f2 s2 => h σ2 H2 fp2 R2 (p1.trans p2) (f1.trans f2)
      obtain ⟨v, r, rfl, w, r', rfl, rfl, q⟩ := this
      exact ⟨v, w, rfl, q⟩
    · cases e
  · cases e
def mPar3 (i j l : Nat) (ma : MA) : MS := fun ρ => match ma ρ with
  | some (os, ρ1) => match tms os with
    | some (u, ds) => (gsCons (gSet i) (gsCons (gSet j) (gsCons (gSet l) gsNil)) u ds ρ1).map .nx
    | none => none
  | none => none
theorem ss_par3 {K : PySem.W.Frag} {i j l : Nat} {ta : TA} {ma : MA} (ha : SA K ta ma) : SS K (tPar3 i j l ta) (mPar3 i j l ma) := by
  intro ρ o e T σ H fp E R h
  unfold mPar3 at e
  split at e
  · rename_i os ρ1 e1
    split at e
    · rename_i u ds e2
      simp only [Option.map_eq_some_iff] at e
      obtain ⟨ρ2, e3, rfl⟩ := e
      refine ha ρ os ρ1 e1 T σ H fp R _ fun vs H1 fp1 F R1 p1 n1 f1 r1 => ?_
      obtain ⟨rl, ru⟩ := ORs.repl r1 e2
      have := sgs_cons (sg_name (K := K) (i := i)) (sgs_cons (sg_name (i := j)) (sgs_cons (sg_name (i := l)) sgs_nil)) ρ1 u ds ρ2 e3 T σ H1 fp1 vs F R1 rl ru E.nx fun σ2 H2 fp2 R2 p2 n2 f2 s2 => h σ2 H2 fp2 R2 (p1.trans p2) (f1.trans f2)
      obtain ⟨v, r, rfl, w, r', rfl, z, r'', rfl, rfl, q⟩ := this
      exact ⟨v, w, z, rfl, q⟩
    · cases e
  · cases e
def locOk (S : Sc) (i : Nat) (x : Str) : Bool := decide (S.N[i]? = some x) && decide (S.sc.names.lookup x = some .local)
theorem bs_par2 {i j : Nat} {x y : Str} {a b : Expr} {px py pt pos : Pos} {kt k2 : Nat} {pt2 : Pos} {t : TA} {m : MA} (h : (locOk S i x && locOk S j y && decide S.N.Nodup && decide (i ≠ j)) = true) (ha : BA G S [a, b] t m) (hw : swappedStores [.Tuple [.Name x px, .Name y py] kt pt] (.Tuple [a, b] k2 pt2) (envS S.sc) = pure (some [x, y]) := by rfl) (hs : ∀ env, swapsWithSole [.Tuple [.Name x px, .Name y py] kt pt] (.Tuple [a, b] k2 pt2) pos.line env = pure false := by intro _; rfl) :
    BS G S (.Assign [.Tuple [.Name x px, .Name y py] kt pt] (.Tuple [a, b] k2 pt2) pos) (tPar i j t) (mPar2 i j m) := by
  simp only [locOk, Bool.and_eq_true, decide_eq_true_eq] at h
  exact ⟨fun X g => ps_par g.calm (by rw [g.N]; exact h.1.2) (by rw [g.N]; exact h.1.1.1.1) (by rw [g.N]; exact h.1.1.2.1) h.2 (by rw [g.sc]; exact h.1.1.1.2) (by rw [g.sc]; exact h.1.1.2.2) (ha.pa X g) (by rw [swapped_env, g.sc]; exact hw) (hs X.env), ss_par2 ha.sa⟩
theorem bs_par3 {i j l : Nat} {x y z : Str} {a b c : Expr} {px py pz pt pos : Pos} {kt k2 : Nat} {pt2 : Pos} {t : TA} {m : MA} (h : (locOk S i x && locOk S j y && locOk S l z && decide S.N.Nodup && decide (i ≠ j) && decide (i ≠ l) && decide (j ≠ l)) = true) (ha : BA G S [a, b, c] t m) (hw : swappedStores [.Tuple [.Name x px, .Name y py, .Name z pz] kt pt] (.Tuple [a, b, c] k2 pt2) (envS S.sc) = pure (some [x, y, z]) := by rfl) (hs : ∀ env, swapsWithSole [.Tuple [.Name x px, .Name y py, .Name z pz] kt pt] (.Tuple [a, b, c] k2 pt2) pos.line env = pure false := by intro _; rfl) :
    BS G S (.Assign [.Tuple [.Name x px, .Name y py, .Name z pz] kt pt] (.Tuple [a, b, c] k2 pt2) pos) (tPar3 i j l t) (mPar3 i j l m) := by
  simp only [locOk, Bool.and_eq_true, decide_eq_true_eq] at h
  exact ⟨fun X g => ps_par3 g.calm (by rw [g.N]; exact h.1.1.1.2) (by rw [g.N]; exact h.1.1.1.1.1.1.1) (by rw [g.N]; exact h.1.1.1.1.1.2.1) (by rw [g.N]; exact h.1.1.1.1.2.1) h.1.1.2 h.1.2 h.2 (by rw [g.sc]; exact h.1.1.1.1.1.1.2) (by rw [g.sc]; exact h.1.1.1.1.1.2.2) (by rw [g.sc]; exact h.1.1.1.1.2.2) (ha.pa X g) (by rw [swapped_env, g.sc]; exact hw) (hs X.env), ss_par3 ha.sa⟩
end
end U

namespace U
open PySem L2
/-- operands as values of one's own, behind the last of them -/
def mvs : List Opd → Env → Option (List Opd × Env)
  | [], ρ => some ([], ρ)
  | .tm u d :: os, ρ => match mvs os ρ with
    | some (os', ρ') => some (.tm (u || d.pure) d :: os', ρ')
    | none => none
  | .sl i :: os, ρ => match look ρ i with
    | none => none
    | some (fl, d) => match d.pure, fl with
      | true, _ => match mvs os ρ with
        | some (os', ρ') => some (.tm true d :: os', ρ')
        | none => none
      | false, .o => match mvs os (ρ.set i none) with
        | some (os', ρ') => some (.tm true d :: os', ρ')
        | none => none
      | false, _ => none
def mMv (ms : MA) : MA := fun ρ => match ms ρ with
  | some (os, ρ1) => mvs os ρ1
  | none => none
theorem ORs.frame {K : PySem.W.Frag} {σ : L2.St} {H : Hp} {fp fp1 : Fp} (hs : ∀ j a, a ∈ fp1 j → a ∈ fp j) : ∀ (os : List Opd) (T T1 : Addr → Prop) (vs : List V) (G : List Addr), (∀ a, T1 a → T a ∨ ∃ j, a ∈ fp j) → ORs K σ H fp T os vs G → ORs K σ H fp1 T1 os vs G
  | [], T, T1, vs, G, hT, h => h
  | o :: os, T, T1, vs, G, hT, h => by
    obtain ⟨v, ws, F, G', rfl, rfl, r, rs⟩ := h
    refine ⟨v, ws, F, G', rfl, rfl, ?_, ORs.frame hs os _ _ ws G' (fun a t => ?_) rs⟩
    · cases o with
      | sl i => exact r
      | tm u d => exact ⟨r.1, fun z => let ⟨a1, a2, a3⟩ := r.2 z; ⟨a1, fun a ha t => (hT a t).elim (a2 a ha) fun ⟨j, hj⟩ => a3 j a ha hj, fun j a ha hj => a3 j a ha (hs j a hj)⟩⟩
    · rcases t with t | t
      · rcases hT a t with t | t
        · exact .inl (.inl t)
        · exact .inr t
      · exact .inl (.inr t)
theorem mvs_core {K : PySem.W.Frag} {σ : L2.St} {H : Hp} : ∀ (os : List Opd) (ρ : Env) (os' : List Opd) (ρ' : Env), mvs os ρ = some (os', ρ') → ∀ (T : Addr → Prop) (fp : Fp) (vs : List V) (G : List Addr), Rel K (addF T G) ρ σ H fp → ORs K σ H fp T os vs G →
    ∃ fp' G', Rel K (addF T G') ρ' σ H fp' ∧ Nog T fp fp' ∧ Fix ρ σ fp ρ' σ fp' ∧ ORs K σ H fp' T os' vs G'
  | [], ρ, os', ρ', e, T, fp, vs, G, R, h => by
    cases e
    exact ⟨fp, G, R, Nog.refl _ _, Fix.refl _ _ _, h⟩
  | .tm u d :: os, ρ, os', ρ', e, T, fp, vs, G, R, h => by
    obtain ⟨v, ws, F, G1, rfl, rfl, r, rs⟩ := h
    simp only [mvs] at e
    split at e
    · rename_i os2 ρ2 e2
      cases e
      obtain ⟨fp', G', R', n', f', h'⟩ := mvs_core os ρ _ _ e2 (addF T F) fp ws G1 (R.mono fun a t => addF_app.mp t) rs
      refine ⟨fp', F ++ G', R'.mono fun a t => addF_app.mpr t, n'.mono fun a t => .inl t, f', v, ws, F, G', rfl, rfl, ?_, h'⟩
      have r' := r.later (Pin.refl _ _) n'
      refine ⟨r'.1, fun z => ?_⟩
      cases u with
      | true => exact r'.2 rfl
      | false =>
        have hF := Rep.pure d v F r'.1 (by simpa using z)
        subst hF
        exact uq_nil
    · cases e
  | .sl i :: os, ρ, os', ρ', e, T, fp, vs, G, R, h => by
    obtain ⟨v, ws, F, G1, rfl, rfl, r, rs⟩ := h
    obtain ⟨hv, rfl⟩ := r
    simp only [mvs] at e
    split at e
    · cases e
    · rename_i fl d q
      have rp := R.at_ q hv
      split at e
      · rename_i hp
        split at e
        · rename_i os2 ρ2 e2
          cases e
          obtain ⟨fp', G', R', n', f', h'⟩ := mvs_core os ρ _ _ e2 (addF T []) fp ws G1 (R.mono fun a t => addF_app.mp t) rs
          have hF := Rep.pure d v _ rp hp
          rw [hF] at rp
          exact ⟨fp', [] ++ G', R'.mono fun a t => addF_app.mpr t, n'.mono fun a t => .inl t, f', v, ws, [], G', rfl, rfl, ⟨rp, fun _ => uq_nil⟩, h'⟩
        · cases e
      · rename_i hp
        split at e
        · rename_i os2 ρ2 e2
          cases e
          obtain ⟨nd, nt, nj⟩ := R.nod i _ _ q rfl
          have hs : ∀ j a, a ∈ fpSet fp i [] j → a ∈ fp j := fun j a ha => by
            by_cases hj : j = i
            · subst hj; rw [fpSet_self] at ha; cases ha
            · rw [fpSet_ne hj] at ha; exact ha
          have no : ∀ j a, a ∈ fp i → a ∉ fpSet fp i [] j := fun j a ha hj => by
            by_cases hji : j = i
            · subst hji; rw [fpSet_self] at hj; cases hj
            · rw [fpSet_ne hji] at hj; exact nj j hji a ha hj
          have R1 : Rel K (addF (addF T (fp i)) G1) (ρ.set i none) σ H (fpSet fp i []) :=
            ((R.drop q).pinF (F := fp i) (fun a ha => rp.fresh ha) fun a ha j fl' d' e' u hj => no j a ha hj).mono fun a t => t.elim (fun t => t.elim (fun t => .inl (.inl t)) .inr) fun t => .inl (.inr t)
          obtain ⟨fp', G', R', n', f', h'⟩ := mvs_core os _ _ _ e2 (addF T (fp i)) (fpSet fp i []) ws G1 R1 (ORs.frame hs os _ _ ws G1 (fun a t => t.elim (fun t => .inl (.inl t)) fun t => .inr ⟨i, t⟩) rs)
          refine ⟨fp', fp i ++ G', R'.mono fun a t => addF_app.mpr t, fun j a ha t => hs j a (n' j a ha (.inl t)), (fix_set (fun fl d z => by rw [q] at z; cases z; rfl) (fun j hj => fpSet_ne hj) fun j _ => rfl).trans f', v, ws, fp i, G', rfl, rfl, ⟨rp, fun _ => ⟨nd, fun a ha t => nt a ha (.inl t), fun j a ha hj => no j a ha (n' j a hj (.inr ha))⟩⟩, h'⟩
        · cases e
      · cases e
theorem sa_mv {K : PySem.W.Frag} {ts : TA} {ms : MA} (h : SA K ts ms) : SA K ts (mMv ms) := by
  intro ρ os ρ' e T σ H fp R Q q
  unfold mMv at e
  split at e
  · rename_i os1 ρ1 e1
    refine h ρ os1 ρ1 e1 T σ H fp R _ fun vs H1 fp1 G R1 p1 n1 f1 r1 => ?_
    obtain ⟨fp', G', R', n', f', h'⟩ := mvs_core os1 ρ1 _ _ e T fp1 vs G R1 r1
    exact q vs H1 fp' G' R' p1 (n1.trans n') (f1.trans f') h'
  · cases e
theorem ba_mv {G : Gb} {S : Sc} {es : List Expr} {ts : TA} {ms : MA} (h : BA G S es ts ms) : BA G S es ts (mMv ms) := ⟨h.pa, sa_mv h.sa⟩
end U

/-! U15b: slots forgotten (mPre, mKill), things shared for a while (mScope). -/
namespace U
open PySem L2

section
variable {K : PySem.W.Frag} {T : Addr → Prop} {ρ ρ' : Env} {σ σ' : L2.St} {H H' : Hp} {fp fp' : Fp}
theorem Rel.forget (R : Rel K T ρ σ H fp) (vs : List Nat) : Rel K T (wipe0 ρ vs) σ H (wipeF fp vs) :=
  (R.wipe vs).other (by rw [wipe_length]) fun j e h => by
    rw [look_wipe] at h
    split at h
    · cases h
    · rename_i hj
      rw [wipe_get, if_neg (fun h => hj h.1)]
theorem fix_forget {vs : List Nat} (h : canWipe ρ vs = true) : Fix ρ σ fp (wipe0 ρ vs) σ (wipeF fp vs) := fun i fl d e => by
  have := fix_wipe (σ := σ) (fp := fp) h i fl d e
  exact ⟨fun z => ⟨(this.1 z).1, rfl⟩, fun z => ⟨(this.2 z).1, (this.2 z).2.1, rfl⟩⟩
end
/-- slots forgotten ahead of a statement -/
def mPre (ks : List Nat) (m : MS) : MS := fun ρ => match canWipe ρ ks with
  | true => m (wipe0 ρ ks)
  | false => none
theorem ss_pre {K : PySem.W.Frag} {t : TS} {m : MS} (ks : List Nat) (h : SS K t m) : SS K t (mPre ks m) := by
  intro ρ o e T σ H fp E R p
  unfold mPre at e
  split at e
  · rename_i hc
    exact h _ o e T σ H _ E (R.forget ks) (p.step (Pin.refl _ _) (fix_forget hc))
  · cases e
/-- .. behind it -/
def kill (ks : List Nat) : Out → Option Out
  | .nx ρ => match canWipe ρ ks with
    | true => some (.nx (wipe0 ρ ks))
    | false => none
  | .ct ρ => match canWipe ρ ks with
    | true => some (.ct (wipe0 ρ ks))
    | false => none
  | o => some o
def mKill (ks : List Nat) (m : MS) : MS := fun ρ => match m ρ with
  | none => none
  | some o => kill ks o
theorem ss_kill {K : PySem.W.Frag} {t : TS} {m : MS} (ks : List Nat) (h : SS K t m) : SS K t (mKill ks m) := by
  intro ρ o e T σ H fp E R p
  unfold mKill at e
  split at e
  · cases e
  · rename_i o1 e1
    refine h ρ o1 e1 T σ H fp E R ?_
    cases o1 with
    | nx ρ1 =>
      simp only [kill] at e
      split at e
      · rename_i hc
        cases e
        exact fun σ' H' fp' R' p' f' => p σ' H' _ (R'.forget ks) p' (f'.trans (fix_forget hc))
      · cases e
    | ct ρ1 =>
      simp only [kill] at e
      split at e
      · rename_i hc
        cases e
        exact fun σ' H' fp' R' p' f' => p σ' H' _ (R'.forget ks) p' (f'.trans (fix_forget hc))
      · cases e
    | bk ρ1 => cases e; exact p
    | rt d ρ1 => cases e; exact p

/-! ### shared for a while -/
def shr1 (b : Bool) : Option (Fl × D) → Option (Fl × D)
  | some (.s, d) => some (.h, d)
  | some (fl, d) => if b then some (.h, d) else some (fl, d)
  | none => none
def shrE (is : List Nat) : Nat → Env → Env
  | _, [] => []
  | k, e :: ρ => shr1 (is.contains k) e :: shrE is (k + 1) ρ
def un1 (b : Bool) (e0 e : Option (Fl × D)) : Option (Fl × D) := match e0, shr1 b e0, e with
  | some (fl, _), some (.h, _), some (.h, d) => some (fl, d)
  | _, _, e => e
def unE (is : List Nat) : Nat → Env → Env → Env
  | k, e0 :: ρ0, e :: ρ => un1 (is.contains k) e0 e :: unE is (k + 1) ρ0 ρ
  | _, _, ρ => ρ
def isH : Option (Fl × D) → Bool
  | some (.h, _) => true
  | _ => false
def ok1 (e0 e : Option (Fl × D)) : Bool := match e with
  | none => true
  | some (fl, d) => fl.uq || isH e0 || d.pure
def okE : Env → Env → Bool
  | _, [] => true
  | [], e :: ρ => ok1 none e && okE [] ρ
  | e0 :: ρ0, e :: ρ => ok1 e0 e && okE ρ0 ρ
theorem look_nil {j : Nat} : look [] j = none := by simp [look]
theorem look_z {e : Option (Fl × D)} {ρ : Env} : look (e :: ρ) 0 = e := by cases e <;> rfl
theorem look_s {e : Option (Fl × D)} {ρ : Env} {j : Nat} : look (e :: ρ) (j + 1) = look ρ j := by simp [look]
theorem shrE_len (is : List Nat) : ∀ (k : Nat) (ρ : Env), (shrE is k ρ).length = ρ.length
  | _, [] => rfl
  | k, e :: ρ => by simp [shrE, shrE_len is (k + 1) ρ]
theorem unE_len (is : List Nat) : ∀ (k : Nat) (ρ0 ρ : Env), (unE is k ρ0 ρ).length = ρ.length
  | _, [], [] => rfl
  | _, [], _ :: _ => rfl
  | _, _ :: _, [] => rfl
  | k, e0 :: ρ0, e :: ρ => by simp [unE, unE_len is (k + 1) ρ0 ρ]
theorem look_shr (is : List Nat) : ∀ (k : Nat) (ρ : Env) (j : Nat), look (shrE is k ρ) j = shr1 (is.contains (k + j)) (look ρ j)
  | k, [], j => by rw [shrE, look_nil]; rfl
  | k, e :: ρ, 0 => by rw [shrE, look_z, look_z]; rfl
  | k, e :: ρ, j + 1 => by
    rw [shrE, look_s, look_s, look_shr is (k + 1) ρ j]
    congr 2
    omega
theorem un1_none (b : Bool) (e : Option (Fl × D)) : un1 b none e = e := by cases e <;> rfl
theorem look_un (is : List Nat) : ∀ (k : Nat) (ρ0 ρ : Env) (j : Nat), look (unE is k ρ0 ρ) j = un1 (is.contains (k + j)) (look ρ0 j) (look ρ j)
  | k, [], [], j => by rw [unE, look_nil]; rfl; intros; contradiction
  | k, [], e :: ρ, j => by rw [unE, look_nil, un1_none]; intros; contradiction
  | k, e0 :: ρ0, [], j => by
    rw [unE, look_nil]
    · unfold un1; split <;> simp_all
    · intros; contradiction
  | k, e0 :: ρ0, e :: ρ, 0 => by rw [unE, look_z, look_z, look_z]; rfl
  | k, e0 :: ρ0, e :: ρ, j + 1 => by
    rw [unE, look_s, look_s, look_s, look_un is (k + 1) ρ0 ρ j]
    congr 2
    omega
theorem ok_at : ∀ (ρ0 ρ : Env) (j : Nat), okE ρ0 ρ = true → ok1 (look ρ0 j) (look ρ j) = true
  | _, [], j, _ => by rw [look_nil]; rfl
  | [], e :: ρ, 0, h => by
    simp only [okE, Bool.and_eq_true] at h
    rw [look_z, look_nil]; exact h.1
  | [], e :: ρ, j + 1, h => by
    simp only [okE, Bool.and_eq_true] at h
    have := ok_at [] ρ j h.2
    rw [look_nil] at this
    rw [look_s, look_nil]; exact this
  | e0 :: ρ0, e :: ρ, 0, h => by
    simp only [okE, Bool.and_eq_true] at h
    rw [look_z, look_z]; exact h.1
  | e0 :: ρ0, e :: ρ, j + 1, h => by
    simp only [okE, Bool.and_eq_true] at h
    rw [look_s, look_s]; exact ok_at ρ0 ρ j h.2
def Out.env : Out → Env
  | .nx ρ => ρ
  | .bk ρ => ρ
  | .ct ρ => ρ
  | .rt _ ρ => ρ
def mScope (is : List Nat) (m : MS) : MS := fun ρ => match m (shrE is 0 ρ) with
  | none => none
  | some o => match okE (shrE is 0 ρ) o.env with
    | true => some (o.mp (unE is 0 ρ))
    | false => none
section
variable {K : PySem.W.Frag} {T : Addr → Prop} {ρ ρ' : Env} {σ σ' : L2.St} {H H' : Hp} {fp fp' : Fp}
theorem shr1_some {b : Bool} {e : Option (Fl × D)} {fl : Fl} {d : D} (h : shr1 b e = some (fl, d)) : ∃ fl', e = some (fl', d) ∧ (fl.uq = true → fl'.uq = true) ∧ (fl = .h ∨ fl = fl') := by
  cases e with
  | none => cases h
  | some x =>
    obtain ⟨g, d'⟩ := x
    cases g <;> cases b <;> cases h <;> exact ⟨_, rfl, fun z => by first | rfl | exact z, by first | exact .inl rfl | exact .inr rfl⟩
theorem shr1_of {b : Bool} {fl : Fl} {d : D} : shr1 b (some (fl, d)) = some (.h, d) ∨ shr1 b (some (fl, d)) = some (fl, d) := by
  cases fl <;> cases b <;> first | exact .inl rfl | exact .inr rfl
theorem Rel.shr (R : Rel K T ρ σ H fp) (is : List Nat) : Rel K T (shrE is 0 ρ) σ H fp := by
  refine R.reflag (shrE_len is 0 ρ) (fun j fl d e => ?_) fun j e => ?_
  · rw [look_shr] at e
    obtain ⟨fl', h1, h2, _⟩ := shr1_some e
    exact ⟨fl', h1, h2⟩
  · rw [look_shr] at e
    cases q : look ρ j with
    | none => rfl
    | some x =>
      obtain ⟨fl, d⟩ := x
      rw [q] at e
      rcases shr1_of (b := is.contains (0 + j)) (fl := fl) (d := d) with h | h <;> rw [h] at e <;> cases e
theorem un1_some {b : Bool} {e0 e : Option (Fl × D)} {fl : Fl} {d : D} (h : un1 b e0 e = some (fl, d)) : ∃ fl', e = some (fl', d) ∧ (fl' = fl ∨ (fl' = .h ∧ ∃ d0, e0 = some (fl, d0) ∧ shr1 b e0 = some (.h, d0))) := by
  unfold un1 at h
  split at h
  · rename_i fl0 d0 d1 d2 h1
    cases h
    refine ⟨.h, rfl, .inr ⟨rfl, d0, rfl, ?_⟩⟩
    rcases shr1_of (b := b) (fl := fl) (d := d0) with q | q
    · exact q
    · rw [q] at h1; cases h1; exact q
  · exact ⟨fl, h, .inl rfl⟩
theorem un1_nil {b : Bool} {e0 e : Option (Fl × D)} (h : un1 b e0 e = none) : e = none := by
  unfold un1 at h
  split at h
  · cases h
  · exact h
theorem Rel.unshr {F : List Addr} (R : Rel K T ρ σ H fp) {is : List Nat} (f : Fix (shrE is 0 ρ) σ fp ρ' σ' fp') (R' : Rel K (addF T F) ρ' σ' H' fp') (hF : ∀ j, ∀ a ∈ F, a ∉ fp' j) (ok : okE (shrE is 0 ρ) ρ' = true) : Rel K (addF T F) (unE is 0 ρ ρ') σ' H' fp' := by
  refine ⟨R'.len.trans (unE_len _ _ _ _).symm, fun j fl d e => ?_, fun j e => ?_, fun j fl d e u => ?_, R'.tal⟩
  · rw [look_un] at e
    obtain ⟨fl', e', _⟩ := un1_some e
    exact R'.rep j fl' d e'
  · rw [look_un] at e
    exact R'.nil j (un1_nil e)
  · rw [look_un] at e
    obtain ⟨fl', e', h⟩ := un1_some e
    rcases h with rfl | ⟨rfl, d0, e0, hs⟩
    · exact R'.nod j _ d e' u
    · have hk : look (shrE is 0 ρ) j = some (.h, d0) := by rw [look_shr]; exact hs
      obtain ⟨q1, q2, q3⟩ := (f j _ _ hk).2 rfl
      rw [e'] at q1
      cases q1
      obtain ⟨n1, n2, n3⟩ := R.nod j fl d e0 u
      rw [q2]
      refine ⟨n1, fun a ha t => t.elim (n2 a ha) fun z => hF j a z (by rw [q2]; exact ha), fun k hkj a ha hak => ?_⟩
      have ok' := ok_at _ _ k ok
      cases qk : look ρ' k with
      | none => rw [R'.nil k qk] at hak; cases hak
      | some x =>
        obtain ⟨g, dk⟩ := x
        rw [qk] at ok'
        simp only [ok1, Bool.or_eq_true] at ok'
        rcases ok' with (hu | hh) | hp
        · exact (R'.nod k g dk qk hu).2.2 j (Ne.symm hkj) a hak (by rw [q2]; exact ha)
        · cases qs : look (shrE is 0 ρ) k with
          | none => rw [qs] at hh; cases hh
          | some y =>
            obtain ⟨gy, dy⟩ := y
            rw [qs] at hh
            cases gy <;> first | cases hh | skip
            obtain ⟨_, w2, _⟩ := (f k _ _ qs).2 rfl
            rw [w2] at hak
            exact n3 k hkj a ha hak
        · obtain ⟨v, _, rk⟩ := R'.rep k g dk qk
          rw [Rep.pure dk v _ rk hp] at hak
          cases hak
theorem Fix.unshr {is : List Nat} (f : Fix (shrE is 0 ρ) σ fp ρ' σ' fp') : Fix ρ σ fp (unE is 0 ρ ρ') σ' fp' := fun i fl d e => by
  have hs := look_shr is 0 ρ i
  have hu := look_un is 0 ρ ρ' i
  rw [e] at hs hu
  rcases shr1_of (b := is.contains (0 + i)) (fl := fl) (d := d) with q | q
  · rw [q] at hs
    obtain ⟨q1, q2, q3⟩ := (f i _ _ hs).2 rfl
    rw [q1] at hu
    have hu' : look (unE is 0 ρ ρ') i = some (fl, d) := by rw [hu]; unfold un1; rw [q]
    exact ⟨fun z => ⟨⟨d, by rw [hu', z]⟩, q3⟩, fun z => ⟨hu', q2, q3⟩⟩
  · rw [q] at hs
    have same : ∀ g d', look ρ' i = some (g, d') → g = fl → look (unE is 0 ρ ρ') i = some (g, d') := fun g d' hq hg => by
      rw [hu, hq]
      subst hg
      unfold un1
      rw [q]
      split
      · rename_i h1 h2 h3; cases h1; cases h3; rfl
      · rfl
    constructor
    · intro z
      obtain ⟨⟨d', q1⟩, q2⟩ := (f i _ _ hs).1 z
      exact ⟨⟨d', same _ _ q1 z.symm⟩, q2⟩
    · intro z
      obtain ⟨q1, q2, q3⟩ := (f i _ _ hs).2 z
      exact ⟨same _ _ q1 rfl, q2, q3⟩
end
theorem ss_scope {K : PySem.W.Frag} {t : TS} {m : MS} (is : List Nat) (h : SS K t m) : SS K t (mScope is m) := by
  intro ρ o e T σ H fp E R p
  unfold mScope at e
  split at e
  · cases e
  · rename_i o1 e1
    split at e
    · rename_i ok
      cases e
      refine h _ o1 e1 T σ H fp E (R.shr is) ?_
      have go : ∀ ρ1 σ' H' fp', okE (shrE is 0 ρ) ρ1 = true → Rel K T ρ1 σ' H' fp' → Fix (shrE is 0 ρ) σ fp ρ1 σ' fp' → Rel K T (unE is 0 ρ ρ1) σ' H' fp' := fun ρ1 σ' H' fp' ok R' f' =>
        (R.unshr f' R'.addNil (fun _ _ h => nomatch h) ok).subF
      cases o1 with
      | nx ρ1 => exact fun σ' H' fp' R' p' f' => p σ' H' fp' (go ρ1 σ' H' fp' ok R' f') p' f'.unshr
      | bk ρ1 => exact fun σ' H' fp' R' p' f' => p σ' H' fp' (go ρ1 σ' H' fp' ok R' f') p' f'.unshr
      | ct ρ1 => exact fun σ' H' fp' R' p' f' => p σ' H' fp' (go ρ1 σ' H' fp' ok R' f') p' f'.unshr
      | rt d ρ1 => exact fun v σ' H' fp' F R' p' f' r => p v σ' H' fp' F (R.unshr f' R' (r.2 rfl).2.2 ok) p' f'.unshr r
    · cases e
/-- plain values as one's own -/
def own1 (e : Option (Fl × D)) : Option (Fl × D) := match e with
  | some (.s, d) => match d.pure with
    | true => some (.o, d)
    | false => some (.s, d)
  | e => e
def ownE : List Nat → Env → Env
  | [], ρ => ρ
  | i :: is, ρ => (ownE is ρ).set i (own1 (look (ownE is ρ) i))
def mOwn (is : List Nat) (m : MS) : MS := fun ρ => m (ownE is ρ)
theorem rel_own1 {K : PySem.W.Frag} {T : Addr → Prop} {ρ : Env} {σ : L2.St} {H : Hp} {fp : Fp} (R : Rel K T ρ σ H fp) (i : Nat) : Rel K T (ρ.set i (own1 (look ρ i))) σ H fp ∧ Fix ρ σ fp (ρ.set i (own1 (look ρ i))) σ fp := by
  by_cases hi : i < ρ.length
  · cases q : look ρ i with
    | none =>
      have e : ρ.set i (own1 none) = ρ := by
        apply List.ext_getElem?
        intro j
        by_cases hj : j = i
        · subst hj
          rw [List.getElem?_set_self hi]
          unfold look at q
          rw [List.getElem?_eq_getElem hi] at q ⊢
          simp only [Option.join] at q
          rw [show own1 none = none from rfl]
          cases z : ρ[j] with
          | none => rfl
          | some y => rw [z] at q; cases q
        · rw [List.getElem?_set_ne (Ne.symm hj)]
      rw [e]
      exact ⟨R, Fix.refl _ _ _⟩
    | some x =>
      obtain ⟨fl, d⟩ := x
      have same : ∀ e, e = some (fl, d) → ρ.set i e = ρ := fun e he => by
        subst he
        apply List.ext_getElem?
        intro j
        by_cases hj : j = i
        · subst hj
          rw [List.getElem?_set_self hi, look_some q]
        · rw [List.getElem?_set_ne (Ne.symm hj)]
      by_cases hs : fl = .s ∧ d.pure = true
      · obtain ⟨rfl, hp⟩ := hs
        have e1 : own1 (some (.s, d)) = some (.o, d) := by simp [own1, hp]
        rw [e1]
        obtain ⟨v, hv, r⟩ := R.rep i _ _ q
        have hF := Rep.pure d v _ r hp
        refine ⟨⟨by rw [List.length_set]; exact R.len, fun j fl' d' e => ?_, fun j e => ?_, fun j fl' d' e u => ?_, R.tal⟩, fix_set (fun fl d z => by rw [q] at z; cases z; rfl) (fun j hj => rfl) fun j _ => rfl⟩
        · by_cases hj : j = i
          · subst hj; rw [look_set_self hi] at e; cases e; exact ⟨v, hv, r⟩
          · rw [look_set_ne hj] at e; exact R.rep j fl' d' e
        · by_cases hj : j = i
          · subst hj; rw [look_set_self hi] at e; cases e
          · rw [look_set_ne hj] at e; exact R.nil j e
        · by_cases hj : j = i
          · subst hj
            rw [hF]
            exact ⟨List.nodup_nil, (fun _ h => nomatch h), (fun _ _ _ h => nomatch h)⟩
          · rw [look_set_ne hj] at e; exact R.nod j fl' d' e u
      · rw [same _ (by
          unfold own1
          cases fl with
          | s =>
            have hp : d.pure = false := by
              cases hq : d.pure with
              | true => exact absurd ⟨rfl, hq⟩ hs
              | false => rfl
            simp [hp]
          | o => rfl
          | l => rfl
          | b => rfl
          | h => rfl)]
        exact ⟨R, Fix.refl _ _ _⟩
  · rw [List.set_eq_of_length_le (by omega)]
    exact ⟨R, Fix.refl _ _ _⟩
theorem rel_own {K : PySem.W.Frag} {T : Addr → Prop} {ρ : Env} {σ : L2.St} {H : Hp} {fp : Fp} (R : Rel K T ρ σ H fp) : ∀ is : List Nat, Rel K T (ownE is ρ) σ H fp ∧ Fix ρ σ fp (ownE is ρ) σ fp
  | [] => ⟨R, Fix.refl _ _ _⟩
  | i :: is => by
    obtain ⟨h1, h2⟩ := rel_own R is
    obtain ⟨h3, h4⟩ := rel_own1 h1 i
    exact ⟨h3, h2.trans h4⟩
theorem ss_own {K : PySem.W.Frag} {t : TS} {m : MS} (is : List Nat) (h : SS K t m) : SS K t (mOwn is m) := by
  intro ρ o e T σ H fp E R p
  obtain ⟨h1, h2⟩ := rel_own R is
  exact h _ o e T σ H fp E h1 (p.step (Pin.refl _ _) h2)
/-- a branching behind which ways meet -/
def mIfJ (mt : MT) (m1 m2 : MS) : MS := mIfS mt m1 m2
section
variable {G : Gb} {S : Sc}
theorem bs_ifJ {c : Expr} {a b : List Stmt} {pos : Pos} {tt : TT} {t u : TS} {mt : MT} {m n : MS} (hc : BT G S c tt mt) (ha : BSs G S a t m) (hb : BSs G S b u n) : BS G S (.If c a b pos) (tIfS tt t u) (mIfJ mt m n) := bs_if hc ha hb
theorem bss_own {sts : List Stmt} {t : TS} {m : MS} (is : List Nat) (h : BSs G S sts t m) : BSs G S sts t (mOwn is m) := ⟨h.ps, ss_own is h.ss⟩
theorem bs_pre {st : Stmt} {t : TS} {m : MS} (ks : List Nat) (h : BS G S st t m) : BS G S st t (mPre ks m) := ⟨h.ps, ss_pre ks h.ss⟩
theorem bss_kill {sts : List Stmt} {t : TS} {m : MS} (ks : List Nat) (h : BSs G S sts t m) : BSs G S sts t (mKill ks m) := ⟨h.ps, ss_kill ks h.ss⟩
theorem bs_scope {st : Stmt} {t : TS} {m : MS} (is : List Nat) (h : BS G S st t m) : BS G S st t (mScope is m) := ⟨h.ps, ss_scope is h.ss⟩
theorem bss_scope {sts : List Stmt} {t : TS} {m : MS} (is : List Nat) (h : BSs G S sts t m) : BSs G S sts t (mScope is m) := ⟨h.ps, ss_scope is h.ss⟩
end
end U

namespace U.P
open PySem L2 U

/-! ### plain data law: what a mirror makes, backwards -/
def W1 {α : Type} (x : Option α) (Q : α → Prop) : Prop := ∃ a, x = some a ∧ Q a
def WE (m : M) (ρ : Env) (Q : Opd → Env → Prop) : Prop := ∃ o ρ', m ρ = some (o, ρ') ∧ Q o ρ'
def WA (m : MA) (ρ : Env) (Q : List Opd → Env → Prop) : Prop := ∃ o ρ', m ρ = some (o, ρ') ∧ Q o ρ'
def WT (m : MT) (ρ : Env) (Q : Bool → Env → Prop) : Prop := ∃ o ρ', m ρ = some (o, ρ') ∧ Q o ρ'
def WO (m : MO) (ρ : Env) (Q : Option Int → Env → Prop) : Prop := ∃ o ρ', m ρ = some (o, ρ') ∧ Q o ρ'
def WI (m : MI) (ρ : Env) (Q : List D → Env → List Nat → Prop) : Prop := ∃ o ρ' is, m ρ = some (o, ρ', is) ∧ Q o ρ' is
def WG (g : MG) (u : Bool) (d : D) (ρ : Env) (Q : Env → Prop) : Prop := ∃ ρ', g u d ρ = some ρ' ∧ Q ρ'
def WGs (g : MGs) (u : Bool) (d : List D) (ρ : Env) (Q : Env → Prop) : Prop := ∃ ρ', g u d ρ = some ρ' ∧ Q ρ'
def WS (m : MS) (ρ : Env) (Q : Out → Prop) : Prop := ∃ o, m ρ = some o ∧ Q o
def WF (f : Fn) (ds : List D) (Q : D → List D → Prop) : Prop := ∃ r ds', f ds = some (r, ds') ∧ Q r ds'
/-- a side -/
def WP (p P : Prop) : Prop := p ∧ P
theorem wp {p P : Prop} (h : p) (q : P) : WP p P := ⟨h, q⟩
/-- a way that is taken -/
def WIf (b : Bool) (P1 P2 : Prop) : Prop := (b = true → P1) ∧ (b = false → P2)

theorem WS.mono {m : MS} {ρ : Env} {P Q : Out → Prop} (h : WS m ρ P) (q : ∀ o, P o → Q o) : WS m ρ Q := let ⟨o, e, p⟩ := h; ⟨o, e, q o p⟩
theorem WE.mono {m : M} {ρ : Env} {P Q : Opd → Env → Prop} (h : WE m ρ P) (q : ∀ o ρ', P o ρ' → Q o ρ') : WE m ρ Q := let ⟨o, r, e, p⟩ := h; ⟨o, r, e, q o r p⟩
theorem WT.mono {m : MT} {ρ : Env} {P Q : Bool → Env → Prop} (h : WT m ρ P) (q : ∀ o ρ', P o ρ' → Q o ρ') : WT m ρ Q := let ⟨o, r, e, p⟩ := h; ⟨o, r, e, q o r p⟩
theorem WF.mono {f : Fn} {ds : List D} {P Q : D → List D → Prop} (h : WF f ds P) (q : ∀ o ρ', P o ρ' → Q o ρ') : WF f ds Q := let ⟨o, r, e, p⟩ := h; ⟨o, r, e, q o r p⟩
theorem WF.of {f : Fn} {ds ds' : List D} {r : D} {Q : D → List D → Prop} (h : f ds = some (r, ds')) (q : Q r ds') : WF f ds Q := ⟨r, ds', h, q⟩
theorem w1 {α : Type} {x : Option α} {a : α} {Q : α → Prop} (h : x = some a) (q : Q a) : W1 x Q := ⟨a, h, q⟩
theorem wif {b : Bool} {P1 P2 : Prop} (h1 : b = true → P1) (h2 : b = false → P2) : WIf b P1 P2 := ⟨h1, h2⟩
theorem wif_t {b : Bool} {P1 P2 : Prop} (h : b = true) (p : P1) : WIf b P1 P2 := ⟨fun _ => p, fun z => (Bool.noConfusion (h.symm.trans z))⟩
theorem wif_f {b : Bool} {P1 P2 : Prop} (h : b = false) (p : P2) : WIf b P1 P2 := ⟨fun z => (Bool.noConfusion (h.symm.trans z)), fun _ => p⟩
theorem wif_d {p : Prop} {inst : Decidable p} {P1 P2 : Prop} (h1 : p → P1) (h2 : ¬ p → P2) : WIf (decide p) P1 P2 := ⟨fun z => h1 (of_decide_eq_true z), fun z => h2 (of_decide_eq_false z)⟩
theorem wif_nd {p : Prop} {inst : Decidable p} {P1 P2 : Prop} (h1 : ¬ p → P1) (h2 : p → P2) : WIf (!decide p) P1 P2 := ⟨fun z => h1 (of_decide_eq_false (by simpa using z)), fun z => h2 (of_decide_eq_true (by simpa using z))⟩

def WMv (os : List Opd) (ρ : Env) (Q : List Opd → Env → Prop) : Prop := ∃ os' ρ', mvs os ρ = some (os', ρ') ∧ Q os' ρ'
section
variable {ρ : Env}
theorem w_name {i : Nat} {Q : Opd → Env → Prop} (h : (look ρ i).isSome = true) (q : Q (.sl i) ρ) : WE (mName i) ρ Q := by
  obtain ⟨e, h⟩ := Option.isSome_iff_exists.mp h
  exact ⟨_, _, by unfold mName; rw [h], q⟩
theorem w_c {d : D} {Q : Opd → Env → Prop} (q : Q (.tm true d) ρ) : WE (mC d) ρ Q := ⟨_, _, rfl, q⟩
theorem w_op {f : D → D → Option D} {a b : M} {Q : Opd → Env → Prop} (h : WE a ρ fun o1 ρ1 => WE b ρ1 fun o2 ρ2 => W1 (opD ρ2 o1) fun d1 => W1 (opD ρ2 o2) fun d2 => W1 (f d1 d2) fun d => Q (.tm true d) ρ2) : WE (mOp f a b) ρ Q := by
  obtain ⟨o1, ρ1, e1, o2, ρ2, e2, d1, e3, d2, e4, d, e5, q⟩ := h
  exact ⟨_, _, by simp [mOp, e1, e2, e3, e4, e5], q⟩
theorem w_un {f : D → Option D} {a : M} {Q : Opd → Env → Prop} (h : WE a ρ fun o1 ρ1 => W1 (opD ρ1 o1) fun d1 => W1 (f d1) fun d => Q (.tm true d) ρ1) : WE (mUn f a) ρ Q := by
  obtain ⟨o1, ρ1, e1, d1, e3, d, e5, q⟩ := h
  exact ⟨_, _, by simp [mUn, e1, e3, e5], q⟩
theorem w_nil {Q : List Opd → Env → Prop} (q : Q [] ρ) : WA mNil ρ Q := ⟨_, _, rfl, q⟩
theorem w_cons {m : M} {ms : MA} {Q : List Opd → Env → Prop} (h : WE m ρ fun o ρ1 => WA ms ρ1 fun os ρ2 => Q (o :: os) ρ2) : WA (mCons m ms) ρ Q := by
  obtain ⟨o1, ρ1, e1, os, ρ2, e2, q⟩ := h
  exact ⟨_, _, by simp [mCons, e1, e2], q⟩
theorem w_cb {f : List D → Option D} {ms : MA} {Q : Opd → Env → Prop} (h : WA ms ρ fun os ρ1 => W1 (opDs ρ1 os) fun ds => W1 (f ds) fun d => Q (.tm true d) ρ1) : WE (mCB f ms) ρ Q := by
  obtain ⟨o1, ρ1, e1, ds, e2, d, e3, q⟩ := h
  exact ⟨_, _, by simp [mCB, e1, e2, e3], q⟩
/-- an operand as a value, by cases -/
def valO (mv : Bool) (o : Opd) (ρ1 : Env) : Option (Opd × Env) := match o with
  | .tm u d => some (.tm (u || d.pure) d, ρ1)
  | .sl i => match look ρ1 i with
    | none => none
    | some (fl, d) => if d.pure then some (.tm true d, ρ1) else match fl with
      | .s => some (.tm false d, ρ1)
      | .h => some (.tm false d, ρ1)
      | .o => if mv then some (.tm true d, ρ1.set i none) else some (.tm false d, ρ1.set i (some (.s, d)))
      | _ => none
def WV (x : Option (Opd × Env)) (Q : Opd → Env → Prop) : Prop := ∃ o ρ', x = some (o, ρ') ∧ Q o ρ'
theorem w_val {mv : Bool} {m : M} {Q : Opd → Env → Prop} (h : WE m ρ fun o ρ1 => WV (valO mv o ρ1) Q) : WE (mVal mv m) ρ Q := by
  obtain ⟨o1, ρ1, e1, o2, ρ2, e2, q⟩ := h
  refine ⟨_, _, ?_, q⟩
  simp only [mVal, e1, Option.bind_eq_bind, Option.bind_some]
  exact e2
theorem v_tm {mv : Bool} {d : D} {Q : Opd → Env → Prop} (q : Q (.tm true d) ρ) : WV (valO mv (.tm true d) ρ) Q := ⟨_, _, rfl, q⟩
theorem v_tmP {mv u : Bool} {d : D} {Q : Opd → Env → Prop} (h : d.pure = true) (q : Q (.tm true d) ρ) : WV (valO mv (.tm u d) ρ) Q := ⟨_, _, by simp [valO, h], q⟩
theorem v_tmN {mv : Bool} {d : D} {Q : Opd → Env → Prop} (h : d.pure = false) (q : Q (.tm false d) ρ) : WV (valO mv (.tm false d) ρ) Q := ⟨_, _, by simp [valO, h], q⟩
theorem v_slP {mv : Bool} {i : Nat} {fl : Fl} {d : D} {Q : Opd → Env → Prop} (h1 : look ρ i = some (fl, d)) (h : d.pure = true) (q : Q (.tm true d) ρ) : WV (valO mv (.sl i) ρ) Q := ⟨_, _, by simp [valO, h1, h], q⟩
theorem v_slS {mv : Bool} {i : Nat} {d : D} {Q : Opd → Env → Prop} (h1 : look ρ i = some (.s, d)) (h : d.pure = false) (q : Q (.tm false d) ρ) : WV (valO mv (.sl i) ρ) Q := ⟨_, _, by simp [valO, h1, h], q⟩
theorem v_slO {i : Nat} {d : D} {ρ2 : Env} {Q : Opd → Env → Prop} (h1 : look ρ i = some (.o, d)) (h : d.pure = false) (e : ρ.set i none = ρ2) (q : Q (.tm true d) ρ2) : WV (valO true (.sl i) ρ) Q := ⟨_, _, by simp [valO, h1, h, e], q⟩
theorem v_slH {i : Nat} {d : D} {ρ2 : Env} {Q : Opd → Env → Prop} (h1 : look ρ i = some (.o, d)) (h : d.pure = false) (e : ρ.set i (some (.s, d)) = ρ2) (q : Q (.tm false d) ρ2) : WV (valO false (.sl i) ρ) Q := ⟨_, _, by simp [valO, h1, h, e], q⟩
theorem w_tup {ms : MA} {Q : Opd → Env → Prop} (h : WA ms ρ fun os ρ1 => W1 (tms os) fun x => WP (x.2.length ≤ 1000) (Q (.tm x.1 (.tup x.2)) ρ1)) : WE (mTup ms) ρ Q := by
  obtain ⟨o1, ρ1, e1, x, e2, e3, q⟩ := h
  exact ⟨_, _, by simp [mTup, e1, e2, e3], q⟩
theorem w_lst {ms : MA} {Q : Opd → Env → Prop} (h : WA ms ρ fun os ρ1 => W1 (tms os) fun x => WP (x.2.length ≤ 1000) (Q (.tm x.1 (.lst x.2)) ρ1)) : WE (mLst ms) ρ Q := by
  obtain ⟨o1, ρ1, e1, x, e2, e3, q⟩ := h
  exact ⟨_, _, by simp [mLst, e1, e2, e3], q⟩
/-- displays of values of one's own -/
def ownD : List Opd → Option (List D)
  | [] => some []
  | .tm true d :: os => (ownD os).map (d :: ·)
  | _ => none
theorem ownD_tms : ∀ {os : List Opd} {ds : List D}, ownD os = some ds → tms os = some (true, ds)
  | [], ds, h => by cases h; rfl
  | .tm true d :: os, ds, h => by
    simp only [ownD, Option.map_eq_some_iff] at h
    obtain ⟨r, e, rfl⟩ := h
    simp only [tms, ownD_tms e]
    rfl
  | .tm false d :: os, ds, h => by cases h
  | .sl i :: os, ds, h => by cases h
theorem w_tup1 {ms : MA} {Q : Opd → Env → Prop} (h : WA ms ρ fun os ρ1 => W1 (ownD os) fun x => WP (x.length ≤ 1000) (Q (.tm true (.tup x)) ρ1)) : WE (mTup ms) ρ Q := by
  obtain ⟨o1, ρ1, e1, x, e2, e3, q⟩ := h
  exact w_tup ⟨o1, ρ1, e1, (true, x), ownD_tms e2, e3, q⟩
theorem w_lst1 {ms : MA} {Q : Opd → Env → Prop} (h : WA ms ρ fun os ρ1 => W1 (ownD os) fun x => WP (x.length ≤ 1000) (Q (.tm true (.lst x)) ρ1)) : WE (mLst ms) ρ Q := by
  obtain ⟨o1, ρ1, e1, x, e2, e3, q⟩ := h
  exact w_lst ⟨o1, ρ1, e1, (true, x), ownD_tms e2, e3, q⟩
def WTs (os : List Opd) (Q : Bool → List D → Prop) : Prop := ∃ u ds, tms os = some (u, ds) ∧ Q u ds
theorem w_tup2 {ms : MA} {Q : Opd → Env → Prop} (h : WA ms ρ fun os ρ1 => WTs os fun u x => WP (x.length ≤ 1000) (Q (.tm u (.tup x)) ρ1)) : WE (mTup ms) ρ Q := by
  obtain ⟨o1, ρ1, e1, u, x, e2, e3, q⟩ := h
  exact w_tup ⟨o1, ρ1, e1, (u, x), e2, e3, q⟩
theorem w_lst2 {ms : MA} {Q : Opd → Env → Prop} (h : WA ms ρ fun os ρ1 => WTs os fun u x => WP (x.length ≤ 1000) (Q (.tm u (.lst x)) ρ1)) : WE (mLst ms) ρ Q := by
  obtain ⟨o1, ρ1, e1, u, x, e2, e3, q⟩ := h
  exact w_lst ⟨o1, ρ1, e1, (u, x), e2, e3, q⟩
theorem ts_nil {Q : Bool → List D → Prop} (q : Q true []) : WTs [] Q := ⟨_, _, rfl, q⟩
theorem ts_t {u : Bool} {d : D} {os : List Opd} {Q : Bool → List D → Prop} (hu : u = true) (q : WTs os fun u x => Q u (d :: x)) : WTs (.tm u d :: os) Q := by
  obtain ⟨u', ds, e, q⟩ := q
  subst hu
  exact ⟨_, _, by simp only [tms, e, Bool.true_and], q⟩
theorem ts_f {u : Bool} {d : D} {os : List Opd} {Q : Bool → List D → Prop} (hu : u = false) (q : WTs os fun _ x => Q false (d :: x)) : WTs (.tm u d :: os) Q := by
  obtain ⟨u', ds, e, q⟩ := q
  subst hu
  exact ⟨_, _, by simp only [tms, e, Bool.false_and], q⟩
def ixO (o1 : Opd) (d1 d2 : D) (ρ2 : Env) : Option (Opd × Env) := match d2 with
  | .int i => match itemD d1 i with
    | none => none
    | some d => if d.pure then some (.tm true d, ρ2) else match o1 with
      | .tm u _ => some (.tm u d, ρ2)
      | .sl i => match look ρ2 i with
        | some (.s, _) => some (.tm false d, ρ2)
        | some (.h, _) => some (.tm false d, ρ2)
        | some (.o, d0) => some (.tm false d, ρ2.set i (some (.s, d0)))
        | _ => none
  | _ => none
theorem w_ix {a b : M} {Q : Opd → Env → Prop} (h : WE a ρ fun o1 ρ1 => WE b ρ1 fun o2 ρ2 => W1 (opD ρ2 o1) fun d1 => W1 (opD ρ2 o2) fun d2 => WV (ixO o1 d1 d2 ρ2) Q) : WE (mIx a b) ρ Q := by
  obtain ⟨o1, ρ1, e1, o2, ρ2, e2, d1, e3, d2, e4, o, ρ3, e5, q⟩ := h
  refine ⟨o, ρ3, ?_, q⟩
  simp only [mIx, e1, e2, e3, e4, Option.bind_eq_bind, Option.bind_some]
  exact e5
theorem x_pure {o1 : Opd} {d1 d : D} {i : Int} {Q : Opd → Env → Prop} (h : itemD d1 i = some d) (hp : d.pure = true) (q : Q (.tm true d) ρ) : WV (ixO o1 d1 (.int i) ρ) Q := ⟨_, _, by simp [ixO, h, hp], q⟩
theorem x_tm {u : Bool} {d0 d1 d : D} {i : Int} {Q : Opd → Env → Prop} (h : itemD d1 i = some d) (hp : d.pure = false) (q : Q (.tm u d) ρ) : WV (ixO (.tm u d0) d1 (.int i) ρ) Q := ⟨_, _, by simp [ixO, h, hp], q⟩
theorem x_sl {j : Nat} {d0 d1 d : D} {i : Int} {Q : Opd → Env → Prop} (h : itemD d1 i = some d) (hl : look ρ j = some (.s, d0)) (hp : d.pure = false) (q : Q (.tm false d) ρ) : WV (ixO (.sl j) d1 (.int i) ρ) Q := ⟨_, _, by simp [ixO, h, hp, hl], q⟩
theorem x_slo {j : Nat} {d0 d1 d : D} {i : Int} {ρ2 : Env} {Q : Opd → Env → Prop} (h : itemD d1 i = some d) (hl : look ρ j = some (.o, d0)) (hp : d.pure = false) (e : ρ.set j (some (.s, d0)) = ρ2) (q : Q (.tm false d) ρ2) : WV (ixO (.sl j) d1 (.int i) ρ) Q := ⟨_, _, by simp [ixO, h, hp, hl, e], q⟩
/-- operands taken out at the end -/
theorem w_mv {ms : MA} {Q : List Opd → Env → Prop} (h : WA ms ρ fun os ρ1 => WMv os ρ1 Q) : WA (mMv ms) ρ Q := by
  obtain ⟨os, ρ1, e1, os', ρ2, e2, q⟩ := h
  exact ⟨os', ρ2, by simp only [mMv, e1, e2], q⟩
theorem mv_nil {Q : List Opd → Env → Prop} (q : Q [] ρ) : WMv [] ρ Q := ⟨_, _, rfl, q⟩
theorem mv_tm {d : D} {os : List Opd} {Q : List Opd → Env → Prop} (h : WMv os ρ fun os' ρ' => Q (.tm true d :: os') ρ') : WMv (.tm true d :: os) ρ Q := by
  obtain ⟨os', ρ2, e2, q⟩ := h
  exact ⟨_, _, by simp only [mvs, e2, Bool.true_or], q⟩
theorem mv_slP {i : Nat} {fl : Fl} {d : D} {os : List Opd} {Q : List Opd → Env → Prop} (h1 : look ρ i = some (fl, d)) (hp : d.pure = true) (h : WMv os ρ fun os' ρ' => Q (.tm true d :: os') ρ') : WMv (.sl i :: os) ρ Q := by
  obtain ⟨os', ρ2, e2, q⟩ := h
  exact ⟨_, _, by simp only [mvs, h1, hp, e2], q⟩
theorem mv_slO {i : Nat} {d : D} {os : List Opd} {ρ1 : Env} {Q : List Opd → Env → Prop} (h1 : look ρ i = some (.o, d)) (hp : d.pure = false) (e : ρ.set i none = ρ1) (h : WMv os ρ1 fun os' ρ' => Q (.tm true d :: os') ρ') : WMv (.sl i :: os) ρ Q := by
  subst e
  obtain ⟨os', ρ2, e2, q⟩ := h
  exact ⟨_, _, by simp only [mvs, h1, hp, e2], q⟩
/-! tests -/
def WBl (x : Option D) (Q : Bool → Prop) : Prop := ∃ b, x = some (.bl b) ∧ Q b
def WIn (x : Option D) (Q : Int → Prop) : Prop := ∃ b, x = some (.int b) ∧ Q b
theorem w_b {m : M} {Q : Bool → Env → Prop} (h : WE m ρ fun o ρ1 => WBl (opD ρ1 o) fun b => Q b ρ1) : WT (mB m) ρ Q := by
  obtain ⟨o1, ρ1, e1, b, e2, q⟩ := h
  exact ⟨_, _, by simp [mB, e1, e2], q⟩
theorem w_yes {Q : Bool → Env → Prop} (q : Q true ρ) : WT mYes ρ Q := ⟨_, _, rfl, q⟩
theorem w_not {m : MT} {Q : Bool → Env → Prop} (h : WT m ρ fun b ρ1 => Q (!b) ρ1) : WT (mNot m) ρ Q := by
  obtain ⟨o1, ρ1, e1, q⟩ := h
  exact ⟨_, _, by simp [mNot, e1], q⟩
theorem w_and {m n : MT} {Q : Bool → Env → Prop} (h : WT m ρ fun b ρ1 => WIf b (WT n ρ1 Q) (Q false ρ1)) : WT (mAnd m n) ρ Q := by
  obtain ⟨b, ρ1, e1, q⟩ := h
  cases b with
  | false => exact ⟨_, _, by simp [mAnd, e1], q.2 rfl⟩
  | true =>
    obtain ⟨b2, ρ2, e2, q2⟩ := q.1 rfl
    exact ⟨_, _, by simp [mAnd, e1, e2], q2⟩
theorem w_or {m n : MT} {Q : Bool → Env → Prop} (h : WT m ρ fun b ρ1 => WIf b (Q true ρ1) (WT n ρ1 Q)) : WT (mOr m n) ρ Q := by
  obtain ⟨b, ρ1, e1, q⟩ := h
  cases b with
  | true => exact ⟨_, _, by simp [mOr, e1], q.1 rfl⟩
  | false =>
    obtain ⟨b2, ρ2, e2, q2⟩ := q.2 rfl
    exact ⟨_, _, by simp [mOr, e1, e2], q2⟩
theorem w_ofT {m : MT} {Q : Opd → Env → Prop} (h : WT m ρ fun b ρ1 => Q (.tm true (.bl b)) ρ1) : WE (mOfT m) ρ Q := by
  obtain ⟨b, ρ1, e1, q⟩ := h
  exact ⟨_, _, by simp [mOfT, e1], q⟩
theorem w_if {mt : MT} {ma mb : M} {Q : Opd → Env → Prop} (h : WT mt ρ fun b ρ1 => WIf b (WE ma ρ1 Q) (WE mb ρ1 Q)) : WE (mIf mt ma mb) ρ Q := by
  obtain ⟨b, ρ1, e1, q⟩ := h
  cases b with
  | true =>
    obtain ⟨b2, ρ2, e2, q2⟩ := q.1 rfl
    exact ⟨_, _, by simp [mIf, e1, e2], q2⟩
  | false =>
    obtain ⟨b2, ρ2, e2, q2⟩ := q.2 rfl
    exact ⟨_, _, by simp [mIf, e1, e2], q2⟩
/-- a two-sided chain -/
theorem w_chain {f f' : D → D → Option D} {ma mb mc : M} {Q : Opd → Env → Prop} (h : WE ma ρ fun o1 ρ1 => WE mb ρ1 fun o2 ρ2 => W1 (opD ρ2 o1) fun d1 => W1 (opD ρ2 o2) fun d2 => WP (d2.pure = true) <| WBl (f d1 d2) fun b => WIf b (WE mc ρ2 fun o3 ρ3 => W1 (opD ρ3 o3) fun d3 => W1 (f' d2 d3) fun d => Q (.tm true d) ρ3) (Q (.tm true (.bl false)) ρ2)) : WE (mChain f f' ma mb mc) ρ Q := by
  obtain ⟨o1, ρ1, e1, o2, ρ2, e2, d1, e3, d2, e4, hp, b, e5, q⟩ := h
  cases b with
  | false => exact ⟨_, _, by simp [mChain, e1, e2, e3, e4, e5, hp], q.2 rfl⟩
  | true =>
    obtain ⟨o3, ρ3, e6, d3, e7, d, e8, q3⟩ := q.1 rfl
    exact ⟨_, _, by simp [mChain, e1, e2, e3, e4, e5, hp, e6, e7, e8], q3⟩
/-! targets -/
def WUp (ρ : Env) (Q : Env → Prop) : Prop := Q ρ
theorem w_up {ρ2 : Env} {Q : Env → Prop} (e : ρ = ρ2) (q : Q ρ2) : WUp ρ Q := e.symm ▸ q
theorem w_set1 {i : Nat} {u : Bool} {d : D} {ρ2 : Env} {Q : Env → Prop} (hu : u = true) (hc : canSet ρ i = true) (e : ρ.set i (some (.o, d)) = ρ2) (q : Q ρ2) : WG (gSet i) u d ρ Q := by
  subst hu; subst e
  exact ⟨_, by simp [gSet, hc]; rfl, q⟩
theorem w_set0 {i : Nat} {u : Bool} {d : D} {ρ2 : Env} {Q : Env → Prop} (hu : u = false) (hc : canSet ρ i = true) (e : ρ.set i (some (.s, d)) = ρ2) (q : Q ρ2) : WG (gSet i) u d ρ Q := by
  subst hu; subst e
  exact ⟨_, by simp [gSet, hc]; rfl, q⟩
theorem w_gtup {n : Nat} {ms : MGs} {u : Bool} {ds : List D} {Q : Env → Prop} (hl : ds.length = n) (h : WGs ms u ds ρ Q) : WG (gTupD n ms) u (.tup ds) ρ Q := by
  obtain ⟨ρ2, e, q⟩ := h
  exact ⟨ρ2, by simp [gTupD, hl, e], q⟩
theorem w_gsnil {u : Bool} {Q : Env → Prop} (q : Q ρ) : WGs gsNil u [] ρ Q := ⟨_, rfl, q⟩
theorem w_gscons {m : MG} {ms : MGs} {u : Bool} {d : D} {ds : List D} {Q : Env → Prop} (h : WG m (u || d.pure) d ρ fun ρ1 => WGs ms u ds ρ1 Q) : WGs (gsCons m ms) u (d :: ds) ρ Q := by
  obtain ⟨ρ1, e1, ρ2, e2, q⟩ := h
  exact ⟨ρ2, by simp [gsCons, e1, e2], q⟩
/-- x[i] = v -/
def subO (u : Bool) (d : D) (k : D) (x : Option (Fl × D)) : Option (Option (Fl × D)) := match k, x with
  | .int k, some (fl, .lst ds) => match fl.mu && u && D.pureL ds && d.pure, ixN ds.length k with
    | true, some j => some (some (fl, .lst (ds.set j d)))
    | _, _ => none
  | _, _ => none
theorem w_gsub {x : Nat} {mi : M} {u : Bool} {d : D} {e : Fl × D} {ds0 : List D} {Q : Env → Prop} (hx : look ρ x = some e) (h0 : e.2 = .lst ds0) (h : WE mi ρ fun o ρ1 => W1 (opD ρ1 o) fun k => W1 (subO u d k (look ρ1 x)) fun e' => WUp (ρ1.set x e') Q) : WG (gSubD x mi) u d ρ Q := by
  obtain ⟨o, ρ1, e1, k, e2, e', e3, q⟩ := h
  obtain ⟨fl0, d0⟩ := e
  dsimp only at h0
  subst h0
  refine ⟨_, ?_, q⟩
  simp only [gSubD, hx, e1, Option.bind_some]
  unfold subO at e3
  split at e3
  · rename_i k fl ds hl
    rw [e2, hl]
    dsimp only at e3 ⊢
    split at e3
    · rename_i j hj hk
      cases e3
      first
        | rw [hj, hk]
        | rfl
    · cases e3
  · cases e3
theorem s_sub {u : Bool} {fl : Fl} {ds : List D} {d : D} {k : Int} {x : Option (Fl × D)} {j : Nat} {Q : Option (Fl × D) → Prop} (hx : x = some (fl, .lst ds)) (hf : fl.mu = true) (hu : u = true) (hp : D.pureL ds = true) (hd : d.pure = true) (hk : ixN ds.length k = some j) (q : Q (some (fl, .lst (ds.set j d)))) : W1 (subO u d (.int k) x) Q := by
  subst hx; subst hu
  exact ⟨_, by simp [subO, hf, hp, hd, hk], q⟩
/-- a method that changes a list -/
def mutO (f : List D → List D → Option (D × List D)) (as : List D) (x : Option (Fl × D)) : Option (D × Option (Fl × D)) := match x with
  | some (fl, .lst ds) => match fl.mu, f ds as with
    | true, some (d, ds') => some (d, some (fl, .lst ds'))
    | _, _ => none
  | _ => none
theorem w_mut {i : Nat} {f : List D → List D → Option (D × List D)} {ms : MA} {e : Fl × D} {ds0 : List D} {Q : Opd → Env → Prop} (hx : look ρ i = some e) (h0 : e.2 = .lst ds0) (h : WA ms ρ fun os ρ1 => W1 (ownD os) fun as => W1 (mutO f as (look ρ1 i)) fun r => WUp (ρ1.set i r.2) fun ρ2 => Q (.tm true r.1) ρ2) : WE (mMut i f ms) ρ Q := by
  obtain ⟨os, ρ1, e1, as, e2, r, e3, q⟩ := h
  obtain ⟨fl0, d0⟩ := e
  dsimp only at h0
  subst h0
  refine ⟨_, _, ?_, q⟩
  simp only [mMut, hx, e1, Option.bind_some, ownD_tms e2]
  unfold mutO at e3
  split at e3
  · rename_i fl ds hl
    rw [hl]
    dsimp only
    split at e3
    · rename_i d ds' h1 h2
      cases e3
      first
        | rw [h1, h2]
        | rfl
    · cases e3
  · cases e3
theorem u_mut {f : List D → List D → Option (D × List D)} {as ds ds' : List D} {fl : Fl} {d : D} {x : Option (Fl × D)} {Q : D × Option (Fl × D) → Prop} (hx : x = some (fl, .lst ds)) (hf : fl.mu = true) (h : f ds as = some (d, ds')) (q : Q (d, some (fl, .lst ds'))) : W1 (mutO f as x) Q := by
  subst hx
  exact ⟨_, by simp [mutO, hf, h], q⟩
/-! calls -/
def WPut (ms : List Bool) (os : List Opd) (ρ1 : Env) (ds' : List D) (Q : Env → Prop) : Prop := ds'.length = ms.length ∧ Q (putBack ms os ds' ρ1)
theorem w_put {ms : List Bool} {os : List Opd} {ρ2 : Env} {ds' : List D} {Q : Env → Prop} (hl : ds'.length = ms.length) (e : putBack ms os ds' ρ = ρ2) (q : Q ρ2) : WPut ms os ρ ds' Q := ⟨hl, e.symm ▸ q⟩
theorem w_call {ms : List Bool} {f : Fn} {ma : MA} {Q : Opd → Env → Prop} (h : WA ma ρ fun os ρ1 => W1 (opDs ρ1 os) fun ds => WP (lentOk ρ1 (slots os) ms os = true) (WF f ds fun r ds' => WPut ms os ρ1 ds' fun ρ2 => Q (.tm true r) ρ2)) : WE (mCall ms f ma) ρ Q := by
  obtain ⟨os, ρ1, e1, ds, e2, hl, r, ds', e3, e4, q⟩ := h
  exact ⟨_, _, by simp [mCall, e1, e2, hl, e3, e4], q⟩
/-! statements -/
def WTm (o : Opd) (Q : Bool → D → Prop) : Prop := match o with
  | .tm u d => Q u d
  | .sl _ => False
theorem w_tm {u : Bool} {d : D} {Q : Bool → D → Prop} (q : Q u d) : WTm (.tm u d) Q := q
theorem w_asg {m : M} {g : MG} {Q : Out → Prop} (h : WE m ρ fun o ρ1 => WTm o fun u d => WG g u d ρ1 fun ρ2 => Q (.nx ρ2)) : WS (mAsg m g) ρ Q := by
  obtain ⟨o, ρ1, e1, q⟩ := h
  cases o with
  | sl i => exact q.elim
  | tm u d =>
    obtain ⟨ρ2, e2, q⟩ := q
    exact ⟨_, by simp [mAsg, e1, e2], q⟩
theorem w_ret {m : M} {Q : Out → Prop} (h : WE m ρ fun o ρ1 => WTm o fun u d => WP (u = true) (Q (.rt d ρ1))) : WS (mRet m) ρ Q := by
  obtain ⟨o, ρ1, e1, q⟩ := h
  cases o with
  | sl i => exact q.elim
  | tm u d =>
    obtain ⟨rfl, q⟩ := q
    exact ⟨_, by simp [mRet, e1], q⟩
theorem w_retN {Q : Out → Prop} (q : Q (.rt .non ρ)) : WS mRetN ρ Q := ⟨_, rfl, q⟩
theorem w_drop {m : M} {Q : Out → Prop} (h : WE m ρ fun _ ρ1 => Q (.nx ρ1)) : WS (mDrop m) ρ Q := by
  obtain ⟨o, ρ1, e1, q⟩ := h
  exact ⟨_, by simp [mDrop, e1], q⟩
def WSq (b : MS) (Q : Out → Prop) : Out → Prop
  | .nx ρ1 => WS b ρ1 Q
  | o => Q o
theorem w_seq {a b : MS} {Q : Out → Prop} (h : WS a ρ (WSq b Q)) : WS (mSeq a b) ρ Q := by
  obtain ⟨o, e, q⟩ := h
  cases o with
  | nx ρ1 =>
    obtain ⟨o2, e2, q2⟩ := q
    exact ⟨_, by simp [mSeq, e, e2], q2⟩
  | bk ρ1 => exact ⟨_, by simp [mSeq, e], q⟩
  | ct ρ1 => exact ⟨_, by simp [mSeq, e], q⟩
  | rt d ρ1 => exact ⟨_, by simp [mSeq, e], q⟩
theorem sq_nx {b : MS} {Q : Out → Prop} (h : WS b ρ Q) : WSq b Q (.nx ρ) := h
theorem sq_rt {b : MS} {Q : Out → Prop} {d : D} (h : Q (.rt d ρ)) : WSq b Q (.rt d ρ) := h
theorem sq_bk {b : MS} {Q : Out → Prop} (h : Q (.bk ρ)) : WSq b Q (.bk ρ) := h
theorem sq_ct {b : MS} {Q : Out → Prop} (h : Q (.ct ρ)) : WSq b Q (.ct ρ) := h
theorem w_next {Q : Out → Prop} (q : Q (.nx ρ)) : WS mNext ρ Q := ⟨_, rfl, q⟩
theorem w_break {Q : Out → Prop} (q : Q (.bk ρ)) : WS mBreak ρ Q := ⟨_, rfl, q⟩
theorem w_cont {Q : Out → Prop} (q : Q (.ct ρ)) : WS mCont ρ Q := ⟨_, rfl, q⟩
theorem w_ifS {mt : MT} {m1 m2 : MS} {Q : Out → Prop} (h : WT mt ρ fun b ρ1 => WIf b (WS m1 ρ1 Q) (WS m2 ρ1 Q)) : WS (mIfS mt m1 m2) ρ Q := by
  obtain ⟨b, ρ1, e1, q⟩ := h
  cases b with
  | true =>
    obtain ⟨o, e2, q2⟩ := q.1 rfl
    exact ⟨_, by simp [mIfS, e1, e2], q2⟩
  | false =>
    obtain ⟨o, e2, q2⟩ := q.2 rfl
    exact ⟨_, by simp [mIfS, e1, e2], q2⟩
theorem w_aug {i : Nat} {f : D → D → Option D} {m : M} {fl : Fl} {d0 : D} {Q : Out → Prop} (hx : look ρ i = some (fl, d0)) (hp : d0.pure = true) (h : WE m ρ fun o ρ1 => W1 (opD ρ1 o) fun d2 => W1 (f d0 d2) fun d => WG (gSet i) true d ρ1 fun ρ2 => Q (.nx ρ2)) : WS (mAug i f m) ρ Q := by
  obtain ⟨o, ρ1, e1, d2, e2, d, e3, ρ2, e4, q⟩ := h
  exact ⟨_, by simp [mAug, hx, hp, e1, e2, e3, e4], q⟩
/-! walks -/
theorem w_range {f : List D → Option (List D)} {ma : MA} {Q : List D → Env → List Nat → Prop} (h : WA ma ρ fun os ρ1 => W1 (opDs ρ1 os) fun ds => W1 (f ds) fun xs => Q xs ρ1 []) : WI (mRange f ma) ρ Q := by
  obtain ⟨os, ρ1, e1, ds, e2, xs, e3, q⟩ := h
  exact ⟨_, _, _, by simp [mRange, e1, e2, e3], q⟩
theorem w_src {m : M} {Q : List D → Env → List Nat → Prop} (h : WE m ρ fun o ρ1 => W1 (opD ρ1 o) fun d => W1 (walkD d) fun ds => W1 (holdOk ρ1 o d) fun is => Q ds ρ1 is) : WI (mSrc m) ρ Q := by
  obtain ⟨o, ρ1, e1, d, e2, ds, e3, is, e4, q⟩ := h
  exact ⟨_, _, _, by simp [mSrc, e1, e2, e3, e4], q⟩
def oneO : List Opd → Option Opd
  | [o] => some o
  | _ => none
theorem w_enum {ma : MA} {Q : List D → Env → List Nat → Prop} (h : WA ma ρ fun os ρ1 => W1 (oneO os) fun o => W1 (opD ρ1 o) fun d => W1 (seqD d) fun ds => W1 (holdOk ρ1 o d) fun is => Q (enumD ds) ρ1 is) : WI (mEnum ma) ρ Q := by
  obtain ⟨os, ρ1, e1, o, e0, d, e2, ds, e3, is, e4, q⟩ := h
  match os, e0 with
  | [o'], e0 =>
    cases e0
    exact ⟨_, _, _, by simp [mEnum, e1, e2, e3, e4], q⟩
def twoO : List Opd → Option (Opd × Opd)
  | [o, o'] => some (o, o')
  | _ => none
theorem w_zip {ma : MA} {Q : List D → Env → List Nat → Prop} (h : WA ma ρ fun os ρ1 => W1 (twoO os) fun o => W1 (opD ρ1 o.1) fun d => W1 (opD ρ1 o.2) fun d' => W1 (sameSeq d d') fun x => W1 (holdOk ρ1 o.1 d) fun is => W1 (holdOk ρ1 o.2 d') fun js => Q (zipD x.1 x.2) ρ1 (is ++ js)) : WI (mZip ma) ρ Q := by
  obtain ⟨os, ρ1, e1, o, e0, d, e2, d', e3, x, e4, is, e5, js, e6, q⟩ := h
  match os, e0 with
  | [o', o''], e0 =>
    cases e0
    obtain ⟨x1, x2⟩ := x
    exact ⟨_, _, _, by simp [mZip, e1, e2, e3, e4, e5, e6], q⟩
/-! slices -/
theorem w_nopart {Q : Option Int → Env → Prop} (q : Q none ρ) : WO mNoPart ρ Q := ⟨_, _, rfl, q⟩
theorem w_part {m : M} {Q : Option Int → Env → Prop} (h : WE m ρ fun o ρ1 => WIn (opD ρ1 o) fun i => Q (some i) ρ1) : WO (mPart m) ρ Q := by
  obtain ⟨o, ρ1, e1, i, e2, q⟩ := h
  exact ⟨_, _, by simp [mPart, e1, e2], q⟩
theorem w_sl {m : M} {ml mh : MO} {Q : Opd → Env → Prop} (h : WE m ρ fun o ρ1 => WO ml ρ1 fun lo ρ2 => WO mh ρ2 fun hi ρ3 => W1 (opD ρ3 o) fun d => W1 (slD d lo hi) fun r => Q (.tm true r) ρ3) : WE (mSl m ml mh) ρ Q := by
  obtain ⟨o, ρ1, e1, lo, ρ2, e2, hi, ρ3, e3, d, e4, r, e5, q⟩ := h
  exact ⟨_, _, by simp [mSl, e1, e2, e3, e4, e5], q⟩
/-! functions -/
def WFin (ms : List Bool) (ds : List D) (Q : D → List D → Prop) : Out → Prop
  | .rt r ρ => W1 (fin ρ ms ds 0) fun x => Q r x
  | .nx ρ => W1 (fin ρ ms ds 0) fun x => Q .non x
  | _ => False
theorem w_fn {ms : List Bool} {n : Nat} {b : MS} {ds : List D} {ρ0 : Env} {Q : D → List D → Prop} (hl : ds.length = ms.length) (e : env0 ms ds n = ρ0) (h : WS b ρ0 (WFin ms ds Q)) : WF (fnOf ms n b) ds Q := by
  subst e
  obtain ⟨o, e, q⟩ := h
  cases o with
  | nx ρ1 =>
    obtain ⟨x, e2, q⟩ := q
    exact ⟨_, _, by simp [fnOf, hl, e, e2], q⟩
  | rt d ρ1 =>
    obtain ⟨x, e2, q⟩ := q
    exact ⟨_, _, by simp [fnOf, hl, e, e2], q⟩
  | bk ρ1 => exact q.elim
  | ct ρ1 => exact q.elim
theorem f_rt {ms : List Bool} {ds x : List D} {d : D} {Q : D → List D → Prop} (e : fin ρ ms ds 0 = some x) (q : Q d x) : WFin ms ds Q (.rt d ρ) := ⟨_, e, q⟩
theorem f_nx {ms : List Bool} {ds x : List D} {Q : D → List D → Prop} (e : fin ρ ms ds 0 = some x) (q : Q .non x) : WFin ms ds Q (.nx ρ) := ⟨_, e, q⟩
/-! loops -/
def WLp (Inv : Env → Prop) (Q : Out → Prop) : Out → Prop
  | .nx ρ => Inv ρ
  | .ct ρ => Inv ρ
  | .bk ρ => Q (.nx ρ)
  | .rt d ρ => Q (.rt d ρ)
theorem fLoop_inv {g : MG} {mb : MS} {Q : Out → Prop} (Inv : List D → Env → Prop) : ∀ (ds : List D) (ρ : Env), Inv ds ρ →
    (∀ d r ρ, Inv (d :: r) ρ → WG g d.pure d ρ fun ρ1 => WS mb ρ1 (WLp (Inv r) Q)) → (∀ ρ, Inv [] ρ → Q (.nx ρ)) → WS (fLoop g mb ds) ρ Q
  | [], ρ, h0, h, hq => ⟨_, rfl, hq ρ h0⟩
  | d :: ds, ρ, h0, h, hq => by
    obtain ⟨ρ1, e1, o, e2, q⟩ := h d ds ρ h0
    cases o with
    | nx ρ2 =>
      obtain ⟨o, e3, q⟩ := fLoop_inv Inv ds ρ2 q h hq
      exact ⟨o, by simp [fLoop, e1, e2, e3], q⟩
    | ct ρ2 =>
      obtain ⟨o, e3, q⟩ := fLoop_inv Inv ds ρ2 q h hq
      exact ⟨o, by simp [fLoop, e1, e2, e3], q⟩
    | bk ρ2 => exact ⟨_, by simp [fLoop, e1, e2], q⟩
    | rt d ρ2 => exact ⟨_, by simp [fLoop, e1, e2], q⟩
def WUn (ρ0 : Env) (is : List Nat) (Q : Out → Prop) (o : Out) : Prop := Q (o.mp (uns ρ0 is))
theorem un_nx {ρ0 ρ2 : Env} {is : List Nat} {Q : Out → Prop} (e : uns ρ0 is ρ = ρ2) (q : Q (.nx ρ2)) : WUn ρ0 is Q (.nx ρ) := by
  subst e; exact q
theorem un_rt {ρ0 ρ2 : Env} {is : List Nat} {d : D} {Q : Out → Prop} (e : uns ρ0 is ρ = ρ2) (q : Q (.rt d ρ2)) : WUn ρ0 is Q (.rt d ρ) := by
  subst e; exact q
theorem w_for {mi : MI} {g : MG} {mb : MS} {Q : Out → Prop} (h : WI mi ρ fun ds ρ0 is => WUp (fzs is ρ0) fun ρ1 => WS (fLoop g mb ds) ρ1 (WUn ρ0 is Q)) : WS (mFor mi g mb) ρ Q := by
  obtain ⟨ds, ρ0, is, e1, o, e2, q⟩ := h
  exact ⟨_, by simp [mFor, e1, e2], q⟩
/-- the loop unrolled once -/
theorem w_fl_nil {g : MG} {mb : MS} {Q : Out → Prop} (q : Q (.nx ρ)) : WS (fLoop g mb []) ρ Q := ⟨_, rfl, q⟩
theorem w_fl_cons {g : MG} {mb : MS} {d : D} {ds : List D} {Q : Out → Prop} (h : WG g d.pure d ρ fun ρ1 => WS mb ρ1 (WLp (fun ρ2 => WS (fLoop g mb ds) ρ2 Q) Q)) : WS (fLoop g mb (d :: ds)) ρ Q := by
  obtain ⟨ρ1, e1, o, e2, q⟩ := h
  cases o with
  | nx ρ2 => obtain ⟨o, e3, q⟩ := q; exact ⟨o, by simp [fLoop, e1, e2, e3], q⟩
  | ct ρ2 => obtain ⟨o, e3, q⟩ := q; exact ⟨o, by simp [fLoop, e1, e2, e3], q⟩
  | bk ρ2 => exact ⟨_, by simp [fLoop, e1, e2], q⟩
  | rt d ρ2 => exact ⟨_, by simp [fLoop, e1, e2], q⟩
theorem lp_nx {I : Env → Prop} {Q : Out → Prop} (h : I ρ) : WLp I Q (.nx ρ) := h
theorem lp_ct {I : Env → Prop} {Q : Out → Prop} (h : I ρ) : WLp I Q (.ct ρ) := h
theorem lp_bk {I : Env → Prop} {Q : Out → Prop} (h : Q (.nx ρ)) : WLp I Q (.bk ρ) := h
theorem lp_rt {I : Env → Prop} {Q : Out → Prop} {d : D} (h : Q (.rt d ρ)) : WLp I Q (.rt d ρ) := h
/-- a comprehension's loop -/
def WC (g : MG) (mt : MT) (me : M) (vs : List Nat) (ds as : List D) (ρ : Env) (Q : List D → Env → Prop) : Prop := ∃ as' ρ', cLoop g mt me vs ds as ρ = some (as', ρ') ∧ Q as' ρ'
theorem WC.mono {g : MG} {mt : MT} {me : M} {vs : List Nat} {ds as : List D} {P Q : List D → Env → Prop} (h : WC g mt me vs ds as ρ P) (q : ∀ as' ρ', P as' ρ' → Q as' ρ') : WC g mt me vs ds as ρ Q := let ⟨a, r, e, p⟩ := h; ⟨a, r, e, q a r p⟩
theorem w_lc {mi : MI} {g : MG} {mt : MT} {me : M} {vs : List Nat} {Q : Opd → Env → Prop} (h : WI mi ρ fun ds ρ0 is => WP ((vs.all fun v => (look ρ0 v).isNone) = true) <| WUp (fzs is ρ0) fun ρ1 => WC g mt me vs ds [] ρ1 fun as ρ2 => WUp (uns ρ0 is ρ2) fun ρ3 => Q (.tm true (.lst as)) ρ3) : WE (mLc mi g mt me vs) ρ Q := by
  obtain ⟨ds, ρ0, is, e1, h, as, ρ1, e2, q⟩ := h
  exact ⟨_, _, by simp only [mLc, e1, h, e2], q⟩
theorem w_cl_nil {g : MG} {mt : MT} {me : M} {vs : List Nat} {as : List D} {Q : List D → Env → Prop} (q : Q as ρ) : WC g mt me vs [] as ρ Q := ⟨_, _, rfl, q⟩
theorem w_cl_cons {g : MG} {mt : MT} {me : M} {vs : List Nat} {d : D} {ds as : List D} {Q : List D → Env → Prop}
    (h : WG g d.pure d ρ fun ρ1 => WT mt ρ1 fun b ρ2 => WIf b (WE me ρ2 fun o ρ3 => WTm o fun u a => WP (u = true) <| WP (canWipe ρ3 vs = true) <| WP (as.length < 1000000) <| WUp (wipe0 ρ3 vs) fun ρ4 => WC g mt me vs ds (as ++ [a]) ρ4 Q) (WP (canWipe ρ2 vs = true) <| WUp (wipe0 ρ2 vs) fun ρ4 => WC g mt me vs ds as ρ4 Q)) : WC g mt me vs (d :: ds) as ρ Q := by
  obtain ⟨ρ1, e1, b, ρ2, e2, h⟩ := h
  cases b with
  | false =>
    obtain ⟨hc, as', ρ', e3, q⟩ := h.2 rfl
    exact ⟨as', ρ', by simp only [cLoop, e1, e2, hc, e3], q⟩
  | true =>
    obtain ⟨o, ρ3, e3, h⟩ := h.1 rfl
    cases o with
    | sl i => exact h.elim
    | tm u a =>
      obtain ⟨rfl, hc, hl, as', ρ', e4, q⟩ := h
      exact ⟨as', ρ', by simp only [cLoop, e1, e2, e3, hc, decide_eq_true hl, e4], q⟩
/-- by an invariant: what is done so far, what is left -/
theorem w_cl_inv {g : MG} {mt : MT} {me : M} {vs : List Nat} {Q : List D → Env → Prop} (Inv : List D → List D → Env → Prop) : ∀ (ds as : List D) (ρ : Env), Inv ds as ρ →
    (∀ d r as ρ, Inv (d :: r) as ρ → WG g d.pure d ρ fun ρ1 => WT mt ρ1 fun b ρ2 => WIf b (WE me ρ2 fun o ρ3 => WTm o fun u a => WP (u = true) <| WP (canWipe ρ3 vs = true) <| WP (as.length < 1000000) <| WUp (wipe0 ρ3 vs) fun ρ4 => Inv r (as ++ [a]) ρ4) (WP (canWipe ρ2 vs = true) <| WUp (wipe0 ρ2 vs) fun ρ4 => Inv r as ρ4)) →
    (∀ as ρ, Inv [] as ρ → Q as ρ) → WC g mt me vs ds as ρ Q
  | [], as, ρ, h0, h, hq => w_cl_nil (hq as ρ h0)
  | d :: ds, as, ρ, h0, h, hq => by
    refine w_cl_cons ?_
    obtain ⟨ρ1, e1, b, ρ2, e2, hb⟩ := h d ds as ρ h0
    refine ⟨ρ1, e1, b, ρ2, e2, fun z => ?_, fun z => ?_⟩
    · obtain ⟨o, ρ3, e3, q⟩ := hb.1 z
      refine ⟨o, ρ3, e3, ?_⟩
      cases o with
      | sl i => exact q.elim
      | tm u a =>
        obtain ⟨hu, hc, hl, q⟩ := q
        exact ⟨hu, hc, hl, w_cl_inv Inv ds _ _ q h hq⟩
    · obtain ⟨hc, q⟩ := hb.2 z
      exact ⟨hc, w_cl_inv Inv ds _ _ q h hq⟩
/-! operands -/
theorem o_sl {i : Nat} {fl : Fl} {d : D} {Q : D → Prop} (h : look ρ i = some (fl, d)) (q : Q d) : W1 (opD ρ (.sl i)) Q := ⟨_, by simp [opD, h], q⟩
theorem o_tm {u : Bool} {d : D} {Q : D → Prop} (q : Q d) : W1 (opD ρ (.tm u d)) Q := ⟨_, rfl, q⟩
theorem b_sl {i : Nat} {fl : Fl} {b : Bool} {Q : Bool → Prop} (h : look ρ i = some (fl, .bl b)) (q : Q b) : WBl (opD ρ (.sl i)) Q := ⟨_, by simp [opD, h], q⟩
theorem b_tm {u : Bool} {b : Bool} {Q : Bool → Prop} (q : Q b) : WBl (opD ρ (.tm u (.bl b))) Q := ⟨_, rfl, q⟩
theorem i_sl {i : Nat} {fl : Fl} {b : Int} {Q : Int → Prop} (h : look ρ i = some (fl, .int b)) (q : Q b) : WIn (opD ρ (.sl i)) Q := ⟨_, by simp [opD, h], q⟩
theorem i_tm {u : Bool} {b : Int} {Q : Int → Prop} (q : Q b) : WIn (opD ρ (.tm u (.int b))) Q := ⟨_, rfl, q⟩
theorem os_nil {Q : List D → Prop} (q : Q []) : W1 (opDs ρ []) Q := ⟨_, rfl, q⟩
theorem os_sl {i : Nat} {fl : Fl} {d : D} {os : List Opd} {Q : List D → Prop} (h : look ρ i = some (fl, d)) (q : W1 (opDs ρ os) fun ds => Q (d :: ds)) : W1 (opDs ρ (.sl i :: os)) Q := by
  obtain ⟨ds, e, q⟩ := q
  exact ⟨_, by simp [opDs, opD, h, e], q⟩
theorem os_tm {u : Bool} {d : D} {os : List Opd} {Q : List D → Prop} (q : W1 (opDs ρ os) fun ds => Q (d :: ds)) : W1 (opDs ρ (.tm u d :: os)) Q := by
  obtain ⟨ds, e, q⟩ := q
  exact ⟨_, by simp [opDs, opD, e], q⟩
theorem own_nil {Q : List D → Prop} (q : Q []) : W1 (ownD []) Q := ⟨_, rfl, q⟩
theorem own_cons {u : Bool} {d : D} {os : List Opd} {Q : List D → Prop} (hu : u = true) (q : W1 (ownD os) fun ds => Q (d :: ds)) : W1 (ownD (.tm u d :: os)) Q := by
  obtain ⟨ds, e, q⟩ := q
  subst hu
  exact ⟨_, by simp [ownD, e], q⟩
theorem w_one {o : Opd} {Q : Opd → Prop} (q : Q o) : W1 (oneO [o]) Q := ⟨_, rfl, q⟩
theorem w_two {o o' : Opd} {Q : Opd × Opd → Prop} (q : Q (o, o')) : W1 (twoO [o, o']) Q := ⟨_, rfl, q⟩
end
/-! ### operations -/
section
variable {i j : Int} {Q : D → Prop}
theorem q_add (q : Q (.int (i + j))) : W1 (dAdd (.int i) (.int j)) Q := ⟨_, rfl, q⟩
theorem q_sub (q : Q (.int (i - j))) : W1 (dSub (.int i) (.int j)) Q := ⟨_, rfl, q⟩
theorem q_mul (h : cMul i j = true) (q : Q (.int (i * j))) : W1 (dMul (.int i) (.int j)) Q := ⟨_, by simp [dMul, d2or, i2c, h], q⟩
theorem cMul_l (h1 : -(2 ^ 64) < i) (h2 : i < 2 ^ 64) : cMul i j = true := by
  simp only [cMul, Bool.or_eq_true, Bool.and_eq_true, decide_eq_true_eq]; omega
theorem cMul_r (h1 : -(2 ^ 64) < j) (h2 : j < 2 ^ 64) : cMul i j = true := by
  simp only [cMul, Bool.or_eq_true, Bool.and_eq_true, decide_eq_true_eq]; omega
theorem q_fdiv (h1 : 0 < j) (h2 : j < 1073741824) (q : Q (.int (i / j))) : W1 (dFdiv (.int i) (.int j)) Q := ⟨_, by simp [dFdiv, i2c, cDiv, h1, h2], q⟩
theorem q_mod (h1 : 0 < j) (q : Q (.int (i % j))) : W1 (dMod (.int i) (.int j)) Q := ⟨_, by simp [dMod, i2c, h1], q⟩
theorem q_pow (h : cPow i j = true) (q : Q (.int (i ^ j.toNat))) : W1 (dPow (.int i) (.int j)) Q := ⟨_, by simp [dPow, i2c, h], q⟩
theorem q_shl (h : cPow i j = true) (q : Q (.int (i * 2 ^ j.toNat))) : W1 (dShl (.int i) (.int j)) Q := ⟨_, by simp [dShl, i2c, h], q⟩
theorem q_shl1 (h0 : 0 ≤ j) (h1 : j ≤ 1000000) (q : Q (.int (2 ^ j.toNat))) : W1 (dShl (.int 1) (.int j)) Q := q_shl (by simp [cPow, h0, h1]) (by rw [Int.one_mul]; exact q)
theorem q_shr (h : 0 ≤ j) (q : Q (.int (i / 2 ^ j.toNat))) : W1 (dShr (.int i) (.int j)) Q := ⟨_, by simp [dShr, i2c, h], q⟩
theorem q_and (q : Q (.int (Builtin.bitAnd i j))) : W1 (dAnd (.int i) (.int j)) Q := ⟨_, rfl, q⟩
theorem q_or (q : Q (.int (Builtin.bitOr i j))) : W1 (dOr (.int i) (.int j)) Q := ⟨_, rfl, q⟩
theorem q_xor (q : Q (.int (Builtin.bitXor i j))) : W1 (dXor (.int i) (.int j)) Q := ⟨_, rfl, q⟩
theorem q_lt (q : Q (.bl (decide (i < j)))) : W1 (dLt (.int i) (.int j)) Q := ⟨_, rfl, q⟩
theorem q_le (q : Q (.bl (decide (i ≤ j)))) : W1 (dLe (.int i) (.int j)) Q := ⟨_, rfl, q⟩
theorem q_gt (q : Q (.bl (decide (j < i)))) : W1 (dGt (.int i) (.int j)) Q := ⟨_, rfl, q⟩
theorem q_ge (q : Q (.bl (decide (j ≤ i)))) : W1 (dGe (.int i) (.int j)) Q := ⟨_, rfl, q⟩
theorem q_eq (q : Q (.bl (decide (i = j)))) : W1 (dEq (.int i) (.int j)) Q := ⟨_, rfl, q⟩
theorem q_ne (q : Q (.bl (!decide (i = j)))) : W1 (dNe (.int i) (.int j)) Q := ⟨_, rfl, q⟩
theorem q_neg (q : Q (.int (-i))) : W1 (dNeg (.int i)) Q := ⟨_, rfl, q⟩
theorem q_is {d : D} (q : Q (.bl d.isNon)) : W1 (dIs d .non) Q := ⟨_, rfl, q⟩
theorem q_isnot {d : D} (q : Q (.bl (!d.isNon))) : W1 (dIsNot d .non) Q := ⟨_, rfl, q⟩
theorem q_lenL {ds : List D} (q : Q (.int ds.length)) : W1 (cLen [.lst ds]) Q := ⟨_, rfl, q⟩
theorem q_lenT {ds : List D} (q : Q (.int ds.length)) : W1 (cLen [.tup ds]) Q := ⟨_, rfl, q⟩
theorem q_abs (q : Q (.int (if i < 0 then -i else i))) : W1 (cAbs [.int i]) Q := ⟨_, rfl, q⟩
theorem q_min (q : Q (.int (if j < i then j else i))) : W1 (cMin2 [.int i, .int j]) Q := ⟨_, rfl, q⟩
theorem q_max (q : Q (.int (if j > i then j else i))) : W1 (cMax2 [.int i, .int j]) Q := ⟨_, rfl, q⟩
theorem q_int (q : Q (.int i)) : W1 (cInt [.int i]) Q := ⟨_, rfl, q⟩
theorem q_intB {b : Bool} (q : Q (.int (if b then 1 else 0))) : W1 (cInt [.bl b]) Q := ⟨_, rfl, q⟩
theorem q_divmod (h1 : 0 < j) (h2 : j < 1073741824) (q : Q (.tup [.int (i / j), .int (i % j)])) : W1 (cDivmod [.int i, .int j]) Q := ⟨_, by simp [cDivmod, cDiv, h1, h2], q⟩
theorem q_list {ds : List D} (h : D.pureL ds = true) (q : Q (.lst ds)) : W1 (cList [.lst ds]) Q := ⟨_, by simp [cList, seqP, h], q⟩
theorem q_listT {ds : List D} (h : D.pureL ds = true) (q : Q (.lst ds)) : W1 (cList [.tup ds]) Q := ⟨_, by simp [cList, seqP, h], q⟩
theorem q_tuple {ds : List D} (h : D.pureL ds = true) (q : Q (.tup ds)) : W1 (cTuple [.lst ds]) Q := ⟨_, by simp [cTuple, seqP, h], q⟩
theorem q_tupleT {ds : List D} (h : D.pureL ds = true) (q : Q (.tup ds)) : W1 (cTuple [.tup ds]) Q := ⟨_, by simp [cTuple, seqP, h], q⟩
theorem q_range {R : List D → Prop} (h1 : -(2 ^ 62) ≤ j) (h2 : j < 2 ^ 62) (q : R (upTo 0 j.toNat)) : W1 (rangeD [.int j]) R := ⟨_, by simp only [rangeD, h1, h2, decide_true, Bool.and_true], q⟩
theorem q_range2 {R : List D → Prop} (h1 : -(2 ^ 62) ≤ i) (h2 : i < 2 ^ 62) (h3 : -(2 ^ 62) ≤ j) (h4 : j < 2 ^ 62) (q : R (upTo i (j - i).toNat)) : W1 (rangeD2 [.int i, .int j]) R := ⟨_, by simp only [rangeD2, h1, h2, h3, h4, decide_true, Bool.and_true], q⟩
theorem q_range3 {R : List D → Prop} (h1 : -(2 ^ 62) ≤ i) (h2 : i < 2 ^ 62) (h3 : -(2 ^ 62) ≤ j) (h4 : j < 2 ^ 62) (q : R (downBy i (i - j).toNat)) : W1 (rangeD3 [.int i, .int j, .int (-1)]) R := ⟨_, by simp only [rangeD3, h1, h2, h3, h4, decide_true, Bool.and_true], q⟩
end
theorem pureL_map (xs : List Int) : D.pureL (xs.map D.int) = true := pureL_ints xs
theorem look_c0 {e : Option (Fl × D)} {ρ : Env} : look (e :: ρ) 0 = e := rfl
theorem look_cs {e : Option (Fl × D)} {ρ : Env} {i : Nat} : look (e :: ρ) (i + 1) = look ρ i := by unfold look; simp
theorem pb_f {ms : List Bool} {o : Opd} {os : List Opd} {d : D} {ds : List D} {ρ : Env} : putBack (false :: ms) (o :: os) (d :: ds) ρ = putBack ms os ds ρ := by rw [putBack]; intro _ h; cases h
theorem pb_n {os : List Opd} {ds : List D} {ρ : Env} : putBack [] os ds ρ = ρ := by unfold putBack; rfl
theorem pb_t {ms : List Bool} {i : Nat} {os : List Opd} {d : D} {ds : List D} {ρ : Env} : putBack (true :: ms) (.sl i :: os) (d :: ds) ρ = match look ρ i with
    | some (fl, _) => (putBack ms os ds ρ).set i (some (fl, d))
    | none => putBack ms os ds ρ := by
  rw [putBack]
  try rfl
end U.P

/-! W1: the walk by classes: one step is an instance. -/
namespace U.P
open PySem L2 U
/-- a step: P from R -/
class St (P : Prop) (R : outParam Prop) : Prop where
  pf : R → P
class LookAt (ρ : Env) (i : Nat) (e : outParam (Option (Fl × D))) : Prop where
  eq : look ρ i = e
instance la_0 {e : Option (Fl × D)} {ρ : Env} : LookAt (e :: ρ) 0 e := ⟨look_z⟩
instance la_s {e x : Option (Fl × D)} {ρ : Env} {i : Nat} [h : LookAt ρ i e] : LookAt (x :: ρ) (i + 1) e := ⟨look_s.trans h.eq⟩
class SetAt (ρ : Env) (i : Nat) (e : Option (Fl × D)) (ρ' : outParam Env) : Prop where
  eq : ρ.set i e = ρ'
  lt : i < ρ.length
instance sa_0 {e x : Option (Fl × D)} {ρ : Env} : SetAt (x :: ρ) 0 e (e :: ρ) := ⟨rfl, by simp⟩
instance sa_s {e x : Option (Fl × D)} {ρ ρ' : Env} {i : Nat} [h : SetAt ρ i e ρ'] : SetAt (x :: ρ) (i + 1) e (x :: ρ') := ⟨by rw [List.set_cons_succ, h.eq], by have := h.lt; simpa using this⟩
class Pu (d : D) (b : outParam Bool) : Prop where
  eq : d.pure = b
class PuL (ds : List D) (b : outParam Bool) : Prop where
  eq : D.pureL ds = b
class PuF {α : Type} (f : α → D) : Prop where
  eq : ∀ x, (f x).pure = true
instance pu_non : Pu .non true := ⟨rfl⟩
instance pu_bl {b : Bool} : Pu (.bl b) true := ⟨rfl⟩
instance pu_int {i : Int} : Pu (.int i) true := ⟨rfl⟩
instance pu_str {s : Str} : Pu (.str s) true := ⟨rfl⟩
instance pu_ty {s : String} : Pu (.ty s) true := ⟨rfl⟩
instance pu_lst {ds : List D} : Pu (.lst ds) false := ⟨rfl⟩
instance pu_dct {ks : List Key} {ds : List D} : Pu (.dct ks ds) false := ⟨rfl⟩
instance pu_tup {ds : List D} {b : Bool} [h : PuL ds b] : Pu (.tup ds) b := ⟨by rw [D.pure]; exact h.eq⟩
instance pu_fz {ds : List D} {b : Bool} [h : PuL ds b] : Pu (.fz ds) b := ⟨by rw [D.pure]; exact h.eq⟩
instance pl_nil : PuL [] true := ⟨rfl⟩
instance pl_t {d : D} {ds : List D} {b : Bool} [h : Pu d true] [h' : PuL ds b] : PuL (d :: ds) b := ⟨by rw [D.pureL, h.eq, h'.eq, Bool.true_and]⟩
instance pl_f {d : D} {ds : List D} [h : Pu d false] : PuL (d :: ds) false := ⟨by rw [D.pureL, h.eq, Bool.false_and]⟩
theorem pureL_mem : ∀ {ds : List D}, D.pureL ds = true → ∀ d ∈ ds, d.pure = true
  | [], _, d, h => nomatch h
  | e :: ds, hp, d, h => by
    simp only [D.pureL, Bool.and_eq_true] at hp
    rcases List.mem_cons.mp h with rfl | h
    · exact hp.1
    · exact pureL_mem hp.2 d h
theorem pureL_of : ∀ {ds : List D}, (∀ d ∈ ds, d.pure = true) → D.pureL ds = true
  | [], _ => rfl
  | e :: ds, h => by
    simp only [D.pureL, Bool.and_eq_true]
    exact ⟨h e List.mem_cons_self, pureL_of fun d hd => h d (List.mem_cons_of_mem _ hd)⟩
theorem pureL_app {a b : List D} (h1 : D.pureL a = true) (h2 : D.pureL b = true) : D.pureL (a ++ b) = true := pureL_of fun d hd => by
  rcases List.mem_append.mp hd with h | h
  · exact pureL_mem h1 d h
  · exact pureL_mem h2 d h
instance pl_app {a b : List D} [h : PuL a true] [h' : PuL b true] : PuL (a ++ b) true := ⟨pureL_app h.eq h'.eq⟩
instance pl_map {α : Type} {xs : List α} {f : α → D} [h : PuF f] : PuL (xs.map f) true := ⟨pureL_of fun d hd => by
  obtain ⟨x, _, rfl⟩ := List.mem_map.mp hd
  exact h.eq x⟩
instance pf_of {α : Type} {f : α → D} [h : ∀ x, Pu (f x) true] : PuF f := ⟨fun x => (h x).eq⟩
class Bv (a : Bool) (b : outParam Bool) : Prop where
  eq : a = b
instance bv_t : Bv true true := ⟨rfl⟩
instance bv_f : Bv false false := ⟨rfl⟩
instance bv_pu {d : D} {b : Bool} [h : Pu d b] : Bv d.pure b := ⟨h.eq⟩
instance bv_ot {a b : Bool} [h : Bv a true] : Bv (a || b) true := ⟨by rw [h.eq, Bool.true_or]⟩
instance bv_of {a b r : Bool} [h : Bv a false] [h' : Bv b r] : Bv (a || b) r := ⟨by rw [h.eq, Bool.false_or]; exact h'.eq⟩
instance bv_af {a b : Bool} [h : Bv a false] : Bv (a && b) false := ⟨by rw [h.eq, Bool.false_and]⟩
instance bv_at {a b r : Bool} [h : Bv a true] [h' : Bv b r] : Bv (a && b) r := ⟨by rw [h.eq, Bool.true_and]; exact h'.eq⟩
instance bv_nt {a : Bool} [h : Bv a true] : Bv (!a) false := ⟨by rw [h.eq]; rfl⟩
instance bv_nf {a : Bool} [h : Bv a false] : Bv (!a) true := ⟨by rw [h.eq]; rfl⟩
instance bv_refl {α : Type} {a : α} {i : Decidable (a = a)} : Bv (@decide (a = a) i) true := ⟨decide_eq_true rfl⟩
instance bv_tf {i : Decidable (true = false)} : Bv (@decide (true = false) i) false := ⟨decide_eq_false (fun h => Bool.noConfusion h)⟩
instance bv_ft {i : Decidable (false = true)} : Bv (@decide (false = true) i) false := ⟨decide_eq_false (fun h => Bool.noConfusion h)⟩
instance bv_dt : Bv (decide True) true := ⟨rfl⟩
instance bv_df : Bv (decide False) false := ⟨rfl⟩
class Ist (d : D) (b : outParam Bool) : Prop where
  eq : d.isNon = b
instance is_non : Ist .non true := ⟨rfl⟩
instance is_bl {b : Bool} : Ist (.bl b) false := ⟨rfl⟩
instance is_int {i : Int} : Ist (.int i) false := ⟨rfl⟩
instance is_str {s : Str} : Ist (.str s) false := ⟨rfl⟩
instance is_lst {ds : List D} : Ist (.lst ds) false := ⟨rfl⟩
instance is_tup {ds : List D} : Ist (.tup ds) false := ⟨rfl⟩
instance is_dct {ks : List Key} {ds : List D} : Ist (.dct ks ds) false := ⟨rfl⟩
instance bv_is {d : D} {b : Bool} [h : Ist d b] : Bv d.isNon b := ⟨h.eq⟩
class Mu (fl : Fl) : Prop where
  eq : fl.mu = true
instance mu_o : Mu .o := ⟨rfl⟩
instance mu_l : Mu .l := ⟨rfl⟩
class Re (e : Option (Fl × D)) : Prop where
  eq : (match e with | none => true | some (fl, _) => fl.re) = true
instance re_n : Re none := ⟨rfl⟩
instance re_o {d : D} : Re (some (.o, d)) := ⟨rfl⟩
instance re_s {d : D} : Re (some (.s, d)) := ⟨rfl⟩
section
variable {ρ : Env}
/-! ### structure -/
section
variable {Q : Out → Prop}
instance w_seq_ {a b : MS} : St (WS (mSeq a b) ρ Q) (WS a ρ (WSq b Q)) := ⟨w_seq⟩
instance w_asg_ {m : M} {g : MG} : St (WS (mAsg m g) ρ Q) (WE m ρ fun o ρ1 => WTm o fun u d => WG g u d ρ1 fun ρ2 => Q (.nx ρ2)) := ⟨w_asg⟩
instance w_ret_ {m : M} : St (WS (mRet m) ρ Q) (WE m ρ fun o ρ1 => WTm o fun u d => WP (u = true) (Q (.rt d ρ1))) := ⟨w_ret⟩
instance w_retN_ : St (WS mRetN ρ Q) (Q (.rt .non ρ)) := ⟨w_retN⟩
instance w_drop_ {m : M} : St (WS (mDrop m) ρ Q) (WE m ρ fun _ ρ1 => Q (.nx ρ1)) := ⟨w_drop⟩
instance sq_nx_ {b : MS} : St (WSq b Q (.nx ρ)) (WS b ρ Q) := ⟨sq_nx⟩
instance sq_rt_ {b : MS} {d : D} : St (WSq b Q (.rt d ρ)) (Q (.rt d ρ)) := ⟨sq_rt⟩
instance sq_bk_ {b : MS} : St (WSq b Q (.bk ρ)) (Q (.bk ρ)) := ⟨sq_bk⟩
instance sq_ct_ {b : MS} : St (WSq b Q (.ct ρ)) (Q (.ct ρ)) := ⟨sq_ct⟩
instance w_next_ : St (WS mNext ρ Q) (Q (.nx ρ)) := ⟨w_next⟩
instance w_break_ : St (WS mBreak ρ Q) (Q (.bk ρ)) := ⟨w_break⟩
instance w_cont_ : St (WS mCont ρ Q) (Q (.ct ρ)) := ⟨w_cont⟩
instance w_ifS_ {mt : MT} {m1 m2 : MS} : St (WS (mIfS mt m1 m2) ρ Q) (WT mt ρ fun b ρ1 => WIf b (WS m1 ρ1 Q) (WS m2 ρ1 Q)) := ⟨w_ifS⟩
theorem w_ifJ {mt : MT} {m1 m2 : MS} (h : WT mt ρ fun b ρ1 => WIf b (WS m1 ρ1 Q) (WS m2 ρ1 Q)) : WS (mIfJ mt m1 m2) ρ Q := w_ifS h
instance w_aug_ {i : Nat} {f : D → D → Option D} {m : M} {fl : Fl} {d0 : D} [h : LookAt ρ i (some (fl, d0))] [hp : Pu d0 true] : St (WS (mAug i f m) ρ Q) (WE m ρ fun o ρ1 => W1 (opD ρ1 o) fun d2 => W1 (f d0 d2) fun d => WG (gSet i) true d ρ1 fun ρ2 => Q (.nx ρ2)) := ⟨w_aug h.eq hp.eq⟩
instance w_for_ {mi : MI} {g : MG} {mb : MS} : St (WS (mFor mi g mb) ρ Q) (WI mi ρ fun ds ρ0 is => WUp (fzs is ρ0) fun ρ1 => WS (fLoop g mb ds) ρ1 (WUn ρ0 is Q)) := ⟨w_for⟩
instance w_fl_nil_ {g : MG} {mb : MS} : St (WS (fLoop g mb []) ρ Q) (Q (.nx ρ)) := ⟨w_fl_nil⟩
instance lp_nx_ {I : Env → Prop} : St (WLp I Q (.nx ρ)) (I ρ) := ⟨lp_nx⟩
instance lp_ct_ {I : Env → Prop} : St (WLp I Q (.ct ρ)) (I ρ) := ⟨lp_ct⟩
instance lp_bk_ {I : Env → Prop} : St (WLp I Q (.bk ρ)) (Q (.nx ρ)) := ⟨lp_bk⟩
instance lp_rt_ {I : Env → Prop} {d : D} : St (WLp I Q (.rt d ρ)) (Q (.rt d ρ)) := ⟨lp_rt⟩
instance un_nx_ {ρ0 : Env} {is : List Nat} : St (WUn ρ0 is Q (.nx ρ)) (WUp (uns ρ0 is ρ) fun ρ2 => Q (.nx ρ2)) := ⟨fun h => h⟩
instance un_rt_ {ρ0 : Env} {is : List Nat} {d : D} : St (WUn ρ0 is Q (.rt d ρ)) (WUp (uns ρ0 is ρ) fun ρ2 => Q (.rt d ρ2)) := ⟨fun h => h⟩
instance un_nx0 {ρ0 : Env} : St (WUn ρ0 [] Q (.nx ρ)) (Q (.nx ρ)) := ⟨fun h => h⟩
instance un_rt0 {ρ0 : Env} {d : D} : St (WUn ρ0 [] Q (.rt d ρ)) (Q (.rt d ρ)) := ⟨fun h => h⟩
/-- forgotten, shared for a while -/
theorem w_pre {ks : List Nat} {m : MS} (h : WP (canWipe ρ ks = true) (WUp (wipe0 ρ ks) fun ρ1 => WS m ρ1 Q)) : WS (mPre ks m) ρ Q := by
  obtain ⟨hc, o, e, q⟩ := h
  exact ⟨o, by simp only [mPre, hc]; exact e, q⟩
instance w_pre_ {ks : List Nat} {m : MS} : St (WS (mPre ks m) ρ Q) (WP (canWipe ρ ks = true) (WUp (wipe0 ρ ks) fun ρ1 => WS m ρ1 Q)) := ⟨w_pre⟩
def WKl (ks : List Nat) (Q : Out → Prop) : Out → Prop
  | .nx ρ => WP (canWipe ρ ks = true) (WUp (wipe0 ρ ks) fun ρ1 => Q (.nx ρ1))
  | .ct ρ => WP (canWipe ρ ks = true) (WUp (wipe0 ρ ks) fun ρ1 => Q (.ct ρ1))
  | o => Q o
theorem w_kill {ks : List Nat} {m : MS} (h : WS m ρ (WKl ks Q)) : WS (mKill ks m) ρ Q := by
  obtain ⟨o, e, q⟩ := h
  cases o with
  | nx ρ1 => obtain ⟨hc, q⟩ := q; exact ⟨_, by simp only [mKill, e, kill, hc], q⟩
  | ct ρ1 => obtain ⟨hc, q⟩ := q; exact ⟨_, by simp only [mKill, e, kill, hc], q⟩
  | bk ρ1 => exact ⟨_, by simp only [mKill, e, kill], q⟩
  | rt d ρ1 => exact ⟨_, by simp only [mKill, e, kill], q⟩
instance w_kill_ {ks : List Nat} {m : MS} : St (WS (mKill ks m) ρ Q) (WS m ρ (WKl ks Q)) := ⟨w_kill⟩
instance kl_nx {ks : List Nat} : St (WKl ks Q (.nx ρ)) (WP (canWipe ρ ks = true) (WUp (wipe0 ρ ks) fun ρ1 => Q (.nx ρ1))) := ⟨fun h => h⟩
instance kl_ct {ks : List Nat} : St (WKl ks Q (.ct ρ)) (WP (canWipe ρ ks = true) (WUp (wipe0 ρ ks) fun ρ1 => Q (.ct ρ1))) := ⟨fun h => h⟩
instance kl_bk {ks : List Nat} : St (WKl ks Q (.bk ρ)) (Q (.bk ρ)) := ⟨fun h => h⟩
instance kl_rt {ks : List Nat} {d : D} : St (WKl ks Q (.rt d ρ)) (Q (.rt d ρ)) := ⟨fun h => h⟩
def WSc (is : List Nat) (ρ0 ρ1 : Env) (Q : Out → Prop) (o : Out) : Prop := WP (okE ρ1 o.env = true) (Q (o.mp (unE is 0 ρ0)))
theorem w_scope {is : List Nat} {m : MS} (h : WUp (shrE is 0 ρ) fun ρ1 => WS m ρ1 (WSc is ρ ρ1 Q)) : WS (mScope is m) ρ Q := by
  obtain ⟨o, e, hok, q⟩ := h
  exact ⟨_, by simp only [mScope, e, hok], q⟩
instance w_scope_ {is : List Nat} {m : MS} : St (WS (mScope is m) ρ Q) (WUp (shrE is 0 ρ) fun ρ1 => WS m ρ1 (WSc is ρ ρ1 Q)) := ⟨w_scope⟩
instance sc_nx {is : List Nat} {ρ0 ρ1 : Env} : St (WSc is ρ0 ρ1 Q (.nx ρ)) (WP (okE ρ1 ρ = true) (WUp (unE is 0 ρ0 ρ) fun ρ2 => Q (.nx ρ2))) := ⟨fun h => h⟩
instance sc_ct {is : List Nat} {ρ0 ρ1 : Env} : St (WSc is ρ0 ρ1 Q (.ct ρ)) (WP (okE ρ1 ρ = true) (WUp (unE is 0 ρ0 ρ) fun ρ2 => Q (.ct ρ2))) := ⟨fun h => h⟩
instance sc_bk {is : List Nat} {ρ0 ρ1 : Env} : St (WSc is ρ0 ρ1 Q (.bk ρ)) (WP (okE ρ1 ρ = true) (WUp (unE is 0 ρ0 ρ) fun ρ2 => Q (.bk ρ2))) := ⟨fun h => h⟩
instance sc_rt {is : List Nat} {ρ0 ρ1 : Env} {d : D} : St (WSc is ρ0 ρ1 Q (.rt d ρ)) (WP (okE ρ1 ρ = true) (WUp (unE is 0 ρ0 ρ) fun ρ2 => Q (.rt d ρ2))) := ⟨fun h => h⟩
end
/-! ### what stands around, brought to its plain form -/
class Ne (ρ : Env) (ρ' : outParam Env) : Prop where
  eq : ρ = ρ'
instance ne_w0 : Ne (wipe0 ρ []) ρ := ⟨rfl⟩
instance ne_ws {v : Nat} {vs : List Nat} {ρ1 ρ2 : Env} [h : Ne (wipe0 ρ vs) ρ1] [h' : SetAt ρ1 v none ρ2] : Ne (wipe0 ρ (v :: vs)) ρ2 := ⟨by rw [wipe0, h.eq]; exact h'.eq⟩
class Hold (e : Option (Fl × D)) (e' : outParam (Option (Fl × D))) : Prop where
  eq : hold e = e'
instance ho_n_ : Hold none none := ⟨rfl⟩
instance ho_o_ {d : D} : Hold (some (.o, d)) (some (.b, d)) := ⟨rfl⟩
instance ho_l_ {d : D} : Hold (some (.l, d)) (some (.b, d)) := ⟨rfl⟩
instance ho_b_ {d : D} : Hold (some (.b, d)) (some (.b, d)) := ⟨rfl⟩
instance ho_s_ {d : D} : Hold (some (.s, d)) (some (.s, d)) := ⟨rfl⟩
instance ho_h_ {d : D} : Hold (some (.h, d)) (some (.h, d)) := ⟨rfl⟩
class Unh (e0 e : Option (Fl × D)) (e' : outParam (Option (Fl × D))) : Prop where
  eq : unhold e0 e = e'
instance uh_o {d0 d : D} : Unh (some (.o, d0)) (some (.b, d)) (some (.o, d)) := ⟨rfl⟩
instance uh_l {d0 d : D} : Unh (some (.l, d0)) (some (.b, d)) (some (.l, d)) := ⟨rfl⟩
instance uh_b {d0 d : D} {fl : Fl} : Unh (some (.b, d0)) (some (fl, d)) (some (fl, d)) := ⟨rfl⟩
instance uh_s {d0 d : D} {fl : Fl} : Unh (some (.s, d0)) (some (fl, d)) (some (fl, d)) := ⟨rfl⟩
instance uh_h {d0 d : D} {fl : Fl} : Unh (some (.h, d0)) (some (fl, d)) (some (fl, d)) := ⟨rfl⟩
instance uh_n {e : Option (Fl × D)} : Unh none e e := ⟨rfl⟩
instance ne_f0 : Ne (fzs [] ρ) ρ := ⟨rfl⟩
instance ne_fs {i : Nat} {is : List Nat} {ρ1 ρ2 : Env} {e e' : Option (Fl × D)} [h : Ne (fzs is ρ) ρ1] [l : LookAt ρ i e] [k : Hold e e'] [h' : SetAt ρ1 i e' ρ2] : Ne (fzs (i :: is) ρ) ρ2 := ⟨by rw [fzs, h.eq, l.eq, k.eq]; exact h'.eq⟩
instance ne_u0 {ρ0 : Env} : Ne (uns ρ0 [] ρ) ρ := ⟨rfl⟩
instance ne_us {ρ0 : Env} {i : Nat} {is : List Nat} {ρ1 ρ2 : Env} {e0 e e' : Option (Fl × D)} [h : Ne (uns ρ0 is ρ) ρ1] [l0 : LookAt ρ0 i e0] [l : LookAt ρ i e] [k : Unh e0 e e'] [h' : SetAt ρ1 i e' ρ2] : Ne (uns ρ0 (i :: is) ρ) ρ2 := ⟨by rw [uns, h.eq, l0.eq, l.eq, k.eq]; exact h'.eq⟩
instance ne_set {i : Nat} {e : Option (Fl × D)} {ρ1 : Env} [h : SetAt ρ i e ρ1] : Ne (ρ.set i e) ρ1 := ⟨h.eq⟩
instance ne_set2 {i : Nat} {e : Option (Fl × D)} {ρ' ρ1 ρ2 : Env} [h0 : Ne ρ' ρ1] [h : SetAt ρ1 i e ρ2] : Ne (ρ'.set i e) ρ2 := ⟨by rw [h0.eq]; exact h.eq⟩
instance ne_nil : Ne [] [] := ⟨rfl⟩
instance ne_cons {e : Option (Fl × D)} : Ne (e :: ρ) (e :: ρ) := ⟨rfl⟩
class Ct (is : List Nat) (k : Nat) (b : outParam Bool) : Prop where
  eq : is.contains k = b
instance ct_n {k : Nat} : Ct [] k false := ⟨rfl⟩
class Neq (i k : Nat) (b : outParam Bool) : Prop where
  eq : (k == i) = b
instance nq_z : Neq 0 0 true := ⟨rfl⟩
instance nq_l {i : Nat} : Neq (i + 1) 0 false := ⟨rfl⟩
instance nq_r {k : Nat} : Neq 0 (k + 1) false := ⟨rfl⟩
instance nq_s {i k : Nat} {b : Bool} [h : Neq i k b] : Neq (i + 1) (k + 1) b := ⟨by
  have := h.eq
  rw [← this]
  by_cases q : k = i <;> simp [q]⟩
instance ct_t {i k : Nat} {is : List Nat} [h : Neq i k true] : Ct (i :: is) k true := ⟨by rw [List.contains_cons, h.eq, Bool.true_or]⟩
instance ct_f {i k : Nat} {is : List Nat} {b : Bool} [h : Neq i k false] [h' : Ct is k b] : Ct (i :: is) k b := ⟨by rw [List.contains_cons, h.eq, Bool.false_or]; exact h'.eq⟩
class Shr (b : Bool) (e : Option (Fl × D)) (e' : outParam (Option (Fl × D))) : Prop where
  eq : shr1 b e = e'
instance sh_n {b : Bool} : Shr b none none := ⟨by cases b <;> rfl⟩
instance sh_s {b : Bool} {d : D} : Shr b (some (.s, d)) (some (.h, d)) := ⟨by cases b <;> rfl⟩
instance sh_t {fl : Fl} {d : D} : Shr true (some (fl, d)) (some (.h, d)) := ⟨by cases fl <;> rfl⟩
instance sh_o {d : D} : Shr false (some (.o, d)) (some (.o, d)) := ⟨rfl⟩
instance sh_l {d : D} : Shr false (some (.l, d)) (some (.l, d)) := ⟨rfl⟩
instance sh_b {d : D} : Shr false (some (.b, d)) (some (.b, d)) := ⟨rfl⟩
instance sh_h {d : D} : Shr false (some (.h, d)) (some (.h, d)) := ⟨rfl⟩
instance ne_h0 {is : List Nat} {k : Nat} : Ne (shrE is k []) [] := ⟨rfl⟩
instance ne_hs {is : List Nat} {k : Nat} {e e' : Option (Fl × D)} {ρ1 : Env} {b : Bool} [c : Ct is k b] [s : Shr b e e'] [h : Ne (shrE is (k + 1) ρ) ρ1] : Ne (shrE is k (e :: ρ)) (e' :: ρ1) := ⟨by rw [shrE, c.eq, s.eq, h.eq]⟩
class Un1 (b : Bool) (e0 e : Option (Fl × D)) (e' : outParam (Option (Fl × D))) : Prop where
  eq : un1 b e0 e = e'
instance u1_n {b : Bool} {e : Option (Fl × D)} : Un1 b none e e := ⟨un1_none b e⟩
instance u1_m {b : Bool} {x : Fl × D} : Un1 b (some x) none none := ⟨by unfold un1; split <;> simp_all⟩
instance u1_s {b : Bool} {d0 d : D} : Un1 b (some (.s, d0)) (some (.h, d)) (some (.s, d)) := ⟨by cases b <;> rfl⟩
instance u1_t {fl : Fl} {d0 d : D} : Un1 true (some (fl, d0)) (some (.h, d)) (some (fl, d)) := ⟨by cases fl <;> rfl⟩
instance u1_h {b : Bool} {d0 d : D} : Un1 b (some (.h, d0)) (some (.h, d)) (some (.h, d)) := ⟨by cases b <;> rfl⟩
instance u1_o {b : Bool} {e0 : Fl × D} {d : D} : Un1 b (some e0) (some (.o, d)) (some (.o, d)) := ⟨by unfold un1; split <;> simp_all⟩
instance u1_l {b : Bool} {e0 : Fl × D} {d : D} : Un1 b (some e0) (some (.l, d)) (some (.l, d)) := ⟨by unfold un1; split <;> simp_all⟩
instance u1_b {b : Bool} {e0 : Fl × D} {d : D} : Un1 b (some e0) (some (.b, d)) (some (.b, d)) := ⟨by unfold un1; split <;> simp_all⟩
instance u1_S {b : Bool} {e0 : Fl × D} {d : D} : Un1 b (some e0) (some (.s, d)) (some (.s, d)) := ⟨by unfold un1; split <;> simp_all⟩
instance ne_e0 {is : List Nat} {k : Nat} : Ne (unE is k [] []) [] := ⟨rfl⟩
instance ne_es {is : List Nat} {k : Nat} {e0 e e' : Option (Fl × D)} {ρ0 ρ1 : Env} {b : Bool} [c : Ct is k b] [s : Un1 b e0 e e'] [h : Ne (unE is (k + 1) ρ0 ρ) ρ1] : Ne (unE is k (e0 :: ρ0) (e :: ρ)) (e' :: ρ1) := ⟨by rw [unE, c.eq, s.eq, h.eq]⟩
instance ne_pn {os : List Opd} {ds : List D} : Ne (putBack [] os ds ρ) ρ := ⟨by unfold putBack; rfl⟩
instance ne_pf {ms : List Bool} {o : Opd} {os : List Opd} {d : D} {ds : List D} {ρ1 : Env} [h : Ne (putBack ms os ds ρ) ρ1] : Ne (putBack (false :: ms) (o :: os) (d :: ds) ρ) ρ1 := ⟨by rw [pb_f]; exact h.eq⟩
instance ne_pt {ms : List Bool} {i : Nat} {os : List Opd} {d d0 : D} {fl : Fl} {ds : List D} {ρ1 ρ2 : Env} [l : LookAt ρ i (some (fl, d0))] [h : Ne (putBack ms os ds ρ) ρ1] [h' : SetAt ρ1 i (some (fl, d)) ρ2] : Ne (putBack (true :: ms) (.sl i :: os) (d :: ds) ρ) ρ2 := ⟨by rw [pb_t, l.eq]; dsimp only; rw [h.eq]; exact h'.eq⟩
instance ne_0n {n : Nat} {ρ1 : Env} {ds : List D} [h : Ne (List.replicate n none) ρ1] : Ne (env0 [] ds n) ρ1 := ⟨by unfold env0; exact h.eq⟩
instance ne_0t {ms : List Bool} {d : D} {ds : List D} {n : Nat} {ρ1 : Env} [h : Ne (env0 ms ds n) ρ1] : Ne (env0 (true :: ms) (d :: ds) n) (some (.l, d) :: ρ1) := ⟨by rw [env0, h.eq]; rfl⟩
instance ne_0f {ms : List Bool} {d : D} {ds : List D} {n : Nat} {ρ1 : Env} [h : Ne (env0 ms ds n) ρ1] : Ne (env0 (false :: ms) (d :: ds) n) (some (.s, d) :: ρ1) := ⟨by rw [env0, h.eq]; rfl⟩
instance ne_r0 : Ne (List.replicate 0 none) [] := ⟨rfl⟩
instance ne_rs {n : Nat} {ρ1 : Env} [h : Ne (List.replicate n none) ρ1] : Ne (List.replicate (n + 1) none) (none :: ρ1) := ⟨by rw [List.replicate_succ, h.eq]⟩
instance up_ {ρ1 : Env} {Q : Env → Prop} [h : Ne ρ ρ1] : St (WUp ρ Q) (Q ρ1) := ⟨fun q => by rw [h.eq]; exact q⟩
class Own1 (e : Option (Fl × D)) (e' : outParam (Option (Fl × D))) : Prop where
  eq : own1 e = e'
instance ow_n : Own1 none none := ⟨rfl⟩
instance ow_t {d : D} [h : Pu d true] : Own1 (some (.s, d)) (some (.o, d)) := ⟨by simp [own1, h.eq]⟩
instance ow_f {d : D} [h : Pu d false] : Own1 (some (.s, d)) (some (.s, d)) := ⟨by simp [own1, h.eq]⟩
instance ow_o {d : D} : Own1 (some (.o, d)) (some (.o, d)) := ⟨rfl⟩
instance ow_l {d : D} : Own1 (some (.l, d)) (some (.l, d)) := ⟨rfl⟩
instance ne_o0 : Ne (ownE [] ρ) ρ := ⟨rfl⟩
instance ne_os {i : Nat} {is : List Nat} {ρ1 ρ2 : Env} {e e' : Option (Fl × D)} [h : Ne (ownE is ρ) ρ1] [l : LookAt ρ1 i e] [k : Own1 e e'] [h' : SetAt ρ1 i e' ρ2] : Ne (ownE (i :: is) ρ) ρ2 := ⟨by rw [ownE, h.eq, l.eq, k.eq]; exact h'.eq⟩
theorem w_own {is : List Nat} {m : MS} {Q : Out → Prop} (h : WUp (ownE is ρ) fun ρ1 => WS m ρ1 Q) : WS (mOwn is m) ρ Q := h
instance w_own_ {is : List Nat} {m : MS} {Q : Out → Prop} : St (WS (mOwn is m) ρ Q) (WUp (ownE is ρ) fun ρ1 => WS m ρ1 Q) := ⟨w_own⟩
/-! ### functions -/
section
variable {Q : D → List D → Prop} {ms : List Bool} {ds : List D}
class Fin (ρ : Env) (ms : List Bool) (ds : List D) (k : Nat) (xs : outParam (List D)) : Prop where
  eq : fin ρ ms ds k = some xs
instance fi_n {k : Nat} : Fin ρ [] ds k [] := ⟨by unfold fin; rfl⟩
instance fi_t {d d' : D} {fl : Fl} {k : Nat} {xs : List D} [l : LookAt ρ k (some (fl, d'))] [h : Fin ρ ms ds (k + 1) xs] : Fin ρ (true :: ms) (d :: ds) k (d' :: xs) := ⟨by rw [fin, l.eq, h.eq]; rfl⟩
instance fi_f {d : D} {k : Nat} {xs : List D} [h : Fin ρ ms ds (k + 1) xs] : Fin ρ (false :: ms) (d :: ds) k (d :: xs) := ⟨by rw [fin, h.eq]; rfl⟩
instance f_rt_ {x : List D} {d : D} [h : Fin ρ ms ds 0 x] : St (WFin ms ds Q (.rt d ρ)) (Q d x) := ⟨f_rt h.eq⟩
instance f_nx_ {x : List D} [h : Fin ρ ms ds 0 x] : St (WFin ms ds Q (.nx ρ)) (Q .non x) := ⟨f_nx h.eq⟩
theorem w_fn' {n : Nat} {b : MS} (hl : ds.length = ms.length) (h : WUp (env0 ms ds n) fun ρ0 => WS b ρ0 (WFin ms ds Q)) : WF (fnOf ms n b) ds Q := w_fn hl rfl h
end
/-! ### tests, ways -/
section
variable {Q : Bool → Env → Prop}
instance w_b_ {m : M} : St (WT (mB m) ρ Q) (WE m ρ fun o ρ1 => WBl (opD ρ1 o) fun b => Q b ρ1) := ⟨w_b⟩
instance w_yes_ : St (WT mYes ρ Q) (Q true ρ) := ⟨w_yes⟩
instance w_not_ {m : MT} : St (WT (mNot m) ρ Q) (WT m ρ fun b ρ1 => Q (!b) ρ1) := ⟨w_not⟩
instance w_and_ {m n : MT} : St (WT (mAnd m n) ρ Q) (WT m ρ fun b ρ1 => WIf b (WT n ρ1 Q) (Q false ρ1)) := ⟨w_and⟩
instance w_or_ {m n : MT} : St (WT (mOr m n) ρ Q) (WT m ρ fun b ρ1 => WIf b (Q true ρ1) (WT n ρ1 Q)) := ⟨w_or⟩
instance wif_t_ {b : Bool} {P1 P2 : Prop} [h : Bv b true] : St (WIf b P1 P2) P1 := ⟨wif_t h.eq⟩
instance wif_f_ {b : Bool} {P1 P2 : Prop} [h : Bv b false] : St (WIf b P1 P2) P2 := ⟨wif_f h.eq⟩
theorem wif_dt {p : Prop} {inst : Decidable p} {P1 P2 : Prop} (h : p) (q : P1) : WIf (decide p) P1 P2 := wif_t (decide_eq_true h) q
theorem wif_df {p : Prop} {inst : Decidable p} {P1 P2 : Prop} (h : ¬ p) (q : P2) : WIf (decide p) P1 P2 := wif_f (decide_eq_false h) q
theorem wif_ndt {p : Prop} {inst : Decidable p} {P1 P2 : Prop} (h : ¬ p) (q : P1) : WIf (!decide p) P1 P2 := wif_t (by rw [decide_eq_false h]; rfl) q
theorem wif_ndf {p : Prop} {inst : Decidable p} {P1 P2 : Prop} (h : p) (q : P2) : WIf (!decide p) P1 P2 := wif_f (by rw [decide_eq_true h]; rfl) q
instance wp_t {P : Prop} : St (WP (true = true) P) P := ⟨wp rfl⟩
instance wp_u {u : Bool} {P : Prop} [h : Bv u true] : St (WP (u = true) P) P := ⟨wp h.eq⟩
class LeI (n m : Nat) : Prop where
  le : n ≤ m
end
/-! ### expressions -/
section
variable {Q : Opd → Env → Prop}
instance w_name_ {i : Nat} {e : Fl × D} [h : LookAt ρ i (some e)] : St (WE (mName i) ρ Q) (Q (.sl i) ρ) := ⟨w_name (by rw [h.eq]; rfl)⟩
instance w_c_ {d : D} : St (WE (mC d) ρ Q) (Q (.tm true d) ρ) := ⟨w_c⟩
instance w_op_ {f : D → D → Option D} {a b : M} : St (WE (mOp f a b) ρ Q) (WE a ρ fun o1 ρ1 => WE b ρ1 fun o2 ρ2 => W1 (opD ρ2 o1) fun d1 => W1 (opD ρ2 o2) fun d2 => W1 (f d1 d2) fun d => Q (.tm true d) ρ2) := ⟨w_op⟩
instance w_un_ {f : D → Option D} {a : M} : St (WE (mUn f a) ρ Q) (WE a ρ fun o1 ρ1 => W1 (opD ρ1 o1) fun d1 => W1 (f d1) fun d => Q (.tm true d) ρ1) := ⟨w_un⟩
instance w_cb_ {f : List D → Option D} {ms : MA} : St (WE (mCB f ms) ρ Q) (WA ms ρ fun os ρ1 => W1 (opDs ρ1 os) fun ds => W1 (f ds) fun d => Q (.tm true d) ρ1) := ⟨w_cb⟩
instance w_val_ {mv : Bool} {m : M} : St (WE (mVal mv m) ρ Q) (WE m ρ fun o ρ1 => WV (valO mv o ρ1) Q) := ⟨w_val⟩
instance v_tm_ {mv : Bool} {d : D} : St (WV (valO mv (.tm true d) ρ) Q) (Q (.tm true d) ρ) := ⟨v_tm⟩
instance v_tmF {mv : Bool} {d : D} {b : Bool} [h : Pu d b] : St (WV (valO mv (.tm false d) ρ) Q) (Q (.tm b d) ρ) := ⟨fun q => ⟨_, _, by simp [valO, h.eq], q⟩⟩
class ValS (mv : Bool) (i : Nat) (ρ : Env) (o : outParam Opd) (ρ' : outParam Env) : Prop where
  eq : valO mv (.sl i) ρ = some (o, ρ')
class ValE (mv : Bool) (i : Nat) (ρ : Env) (e : Option (Fl × D)) (b : Bool) (o : outParam Opd) (ρ' : outParam Env) : Prop where
  eq : ∀ fl d, e = some (fl, d) → d.pure = b → look ρ i = e → valO mv (.sl i) ρ = some (o, ρ')
instance ve_p {mv : Bool} {i : Nat} {fl : Fl} {d : D} : ValE mv i ρ (some (fl, d)) true (.tm true d) ρ := ⟨fun _ _ e hp hl => by cases e; simp [valO, hl, hp]⟩
instance ve_s {mv : Bool} {i : Nat} {d : D} : ValE mv i ρ (some (.s, d)) false (.tm false d) ρ := ⟨fun _ _ e hp hl => by cases e; simp [valO, hl, hp]⟩
instance ve_h {mv : Bool} {i : Nat} {d : D} : ValE mv i ρ (some (.h, d)) false (.tm false d) ρ := ⟨fun _ _ e hp hl => by cases e; simp [valO, hl, hp]⟩
instance ve_o {i : Nat} {d : D} {ρ2 : Env} [h : SetAt ρ i none ρ2] : ValE true i ρ (some (.o, d)) false (.tm true d) ρ2 := ⟨fun _ _ e hp hl => by cases e; simp [valO, hl, hp, h.eq]⟩
instance ve_g {i : Nat} {d : D} {ρ2 : Env} [h : SetAt ρ i (some (.s, d)) ρ2] : ValE false i ρ (some (.o, d)) false (.tm false d) ρ2 := ⟨fun _ _ e hp hl => by cases e; simp [valO, hl, hp, h.eq]⟩
instance v_sl_ {mv : Bool} {i : Nat} {fl : Fl} {d : D} {b : Bool} {o : Opd} {ρ2 : Env} [l : LookAt ρ i (some (fl, d))] [p : Pu d b] [v : ValE mv i ρ (some (fl, d)) b o ρ2] : St (WV (valO mv (.sl i) ρ) Q) (Q o ρ2) := ⟨fun q => ⟨_, _, v.eq fl d rfl p.eq l.eq, q⟩⟩
instance w_tup_ {ms : MA} : St (WE (mTup ms) ρ Q) (WA ms ρ fun os ρ1 => WTs os fun u x => WP (x.length ≤ 1000) (Q (.tm u (.tup x)) ρ1)) := ⟨w_tup2⟩
instance w_lst_ {ms : MA} : St (WE (mLst ms) ρ Q) (WA ms ρ fun os ρ1 => WTs os fun u x => WP (x.length ≤ 1000) (Q (.tm u (.lst x)) ρ1)) := ⟨w_lst2⟩
instance w_ix_ {a b : M} : St (WE (mIx a b) ρ Q) (WE a ρ fun o1 ρ1 => WE b ρ1 fun o2 ρ2 => W1 (opD ρ2 o1) fun d1 => W1 (opD ρ2 o2) fun d2 => WV (ixO o1 d1 d2 ρ2) Q) := ⟨w_ix⟩
instance w_ofT_ {m : MT} : St (WE (mOfT m) ρ Q) (WT m ρ fun b ρ1 => Q (.tm true (.bl b)) ρ1) := ⟨w_ofT⟩
instance w_if_ {mt : MT} {ma mb : M} : St (WE (mIf mt ma mb) ρ Q) (WT mt ρ fun b ρ1 => WIf b (WE ma ρ1 Q) (WE mb ρ1 Q)) := ⟨w_if⟩
instance w_chain_ {f f' : D → D → Option D} {ma mb mc : M} : St (WE (mChain f f' ma mb mc) ρ Q) (WE ma ρ fun o1 ρ1 => WE mb ρ1 fun o2 ρ2 => W1 (opD ρ2 o1) fun d1 => W1 (opD ρ2 o2) fun d2 => WP (d2.pure = true) <| WBl (f d1 d2) fun b => WIf b (WE mc ρ2 fun o3 ρ3 => W1 (opD ρ3 o3) fun d3 => W1 (f' d2 d3) fun d => Q (.tm true d) ρ3) (Q (.tm true (.bl false)) ρ2)) := ⟨w_chain⟩
instance w_sl_ {m : M} {ml mh : MO} : St (WE (mSl m ml mh) ρ Q) (WE m ρ fun o ρ1 => WO ml ρ1 fun lo ρ2 => WO mh ρ2 fun hi ρ3 => W1 (opD ρ3 o) fun d => W1 (slD d lo hi) fun r => Q (.tm true r) ρ3) := ⟨w_sl⟩
instance w_lc_ {mi : MI} {g : MG} {mt : MT} {me : M} {vs : List Nat} : St (WE (mLc mi g mt me vs) ρ Q) (WI mi ρ fun ds ρ0 is => WP ((vs.all fun v => (look ρ0 v).isNone) = true) <| WUp (fzs is ρ0) fun ρ1 => WC g mt me vs ds [] ρ1 fun as ρ2 => WUp (uns ρ0 is ρ2) fun ρ3 => Q (.tm true (.lst as)) ρ3) := ⟨w_lc⟩
instance w_mut_ {i : Nat} {f : List D → List D → Option (D × List D)} {ms : MA} {fl : Fl} {ds0 : List D} [l : LookAt ρ i (some (fl, .lst ds0))] : St (WE (mMut i f ms) ρ Q) (WA ms ρ fun os ρ1 => W1 (ownD os) fun as => W1 (mutO f as (look ρ1 i)) fun r => WUp (ρ1.set i r.2) fun ρ2 => Q (.tm true r.1) ρ2) := ⟨w_mut l.eq rfl⟩
instance w_put_ {ms : List Bool} {os : List Opd} {ds' : List D} {Q : Env → Prop} : St (WPut ms os ρ ds' Q) (WP (ds'.length = ms.length) (WUp (putBack ms os ds' ρ) Q)) := ⟨fun h => ⟨h.1, h.2⟩⟩
instance w_call_ {ms : List Bool} {f : Fn} {ma : MA} : St (WE (mCall ms f ma) ρ Q) (WA ma ρ fun os ρ1 => W1 (opDs ρ1 os) fun ds => WP (lentOk ρ1 (slots os) ms os = true) (WF f ds fun r ds' => WPut ms os ρ1 ds' fun ρ2 => Q (.tm true r) ρ2)) := ⟨w_call⟩
instance w_tm_ {u : Bool} {d : D} {Q : Bool → D → Prop} : St (WTm (.tm u d) Q) (Q u d) := ⟨w_tm⟩
end
section
variable {Q : Bool → List D → Prop}
instance ts_nil_ : St (WTs [] Q) (Q true []) := ⟨ts_nil⟩
instance ts_t_ {d : D} {os : List Opd} : St (WTs (.tm true d :: os) Q) (WTs os fun u x => Q u (d :: x)) := ⟨ts_t rfl⟩
instance ts_f_ {d : D} {os : List Opd} : St (WTs (.tm false d :: os) Q) (WTs os fun _ x => Q false (d :: x)) := ⟨ts_f rfl⟩
end
section
variable {Q : List Opd → Env → Prop}
instance w_nil_ : St (WA mNil ρ Q) (Q [] ρ) := ⟨w_nil⟩
instance w_cons_ {m : M} {ms : MA} : St (WA (mCons m ms) ρ Q) (WE m ρ fun o ρ1 => WA ms ρ1 fun os ρ2 => Q (o :: os) ρ2) := ⟨w_cons⟩
instance w_mv_ {ms : MA} : St (WA (mMv ms) ρ Q) (WA ms ρ fun os ρ1 => WMv os ρ1 Q) := ⟨w_mv⟩
instance mv_nil_ : St (WMv [] ρ Q) (Q [] ρ) := ⟨mv_nil⟩
instance mv_tm_ {d : D} {os : List Opd} : St (WMv (.tm true d :: os) ρ Q) (WMv os ρ fun os' ρ' => Q (.tm true d :: os') ρ') := ⟨mv_tm⟩
instance mv_slP_ {i : Nat} {fl : Fl} {d : D} {os : List Opd} [l : LookAt ρ i (some (fl, d))] [p : Pu d true] : St (WMv (.sl i :: os) ρ Q) (WMv os ρ fun os' ρ' => Q (.tm true d :: os') ρ') := ⟨mv_slP l.eq p.eq⟩
instance mv_slO_ {i : Nat} {d : D} {os : List Opd} {ρ1 : Env} [l : LookAt ρ i (some (.o, d))] [p : Pu d false] [h : SetAt ρ i none ρ1] : St (WMv (.sl i :: os) ρ Q) (WMv os ρ1 fun os' ρ' => Q (.tm true d :: os') ρ') := ⟨mv_slO l.eq p.eq h.eq⟩
end
/-! ### targets -/
section
variable {Q : Env → Prop}
theorem can_of {i : Nat} {e e' : Option (Fl × D)} {ρ2 : Env} (l : look ρ i = e) (r : Re e) (h : SetAt ρ i e' ρ2) : canSet ρ i = true := by
  have := r.eq
  simp only [canSet, Bool.and_eq_true, decide_eq_true_eq]
  refine ⟨h.lt, ?_⟩
  rw [l]
  cases e <;> exact this
instance w_set_ {i : Nat} {u : Bool} {d : D} {e : Option (Fl × D)} {ρ2 : Env} [hu : Bv u true] [l : LookAt ρ i e] [r : Re e] [h : SetAt ρ i (some (.o, d)) ρ2] : St (WG (gSet i) u d ρ Q) (Q ρ2) := ⟨w_set1 hu.eq (can_of l.eq r h) h.eq⟩
instance w_setF {i : Nat} {u : Bool} {d : D} {e : Option (Fl × D)} {ρ2 : Env} [hu : Bv u false] [l : LookAt ρ i e] [r : Re e] [h : SetAt ρ i (some (.s, d)) ρ2] : St (WG (gSet i) u d ρ Q) (Q ρ2) := ⟨w_set0 hu.eq (can_of l.eq r h) h.eq⟩
instance w_gtup_ {n : Nat} {ms : MGs} {u : Bool} {ds : List D} : St (WG (gTupD n ms) u (.tup ds) ρ Q) (WP (ds.length = n) (WGs ms u ds ρ Q)) := ⟨fun h => w_gtup h.1 h.2⟩
instance w_gsnil_ {u : Bool} : St (WGs gsNil u [] ρ Q) (Q ρ) := ⟨w_gsnil⟩
instance w_gscons_ {m : MG} {ms : MGs} {u : Bool} {d : D} {ds : List D} : St (WGs (gsCons m ms) u (d :: ds) ρ Q) (WG m (u || d.pure) d ρ fun ρ1 => WGs ms u ds ρ1 Q) := ⟨w_gscons⟩
instance w_gsub_ {x : Nat} {mi : M} {u : Bool} {d : D} {fl : Fl} {ds0 : List D} [l : LookAt ρ x (some (fl, .lst ds0))] : St (WG (gSubD x mi) u d ρ Q) (WE mi ρ fun o ρ1 => W1 (opD ρ1 o) fun k => W1 (subO u d k (look ρ1 x)) fun e' => WUp (ρ1.set x e') Q) := ⟨w_gsub l.eq rfl⟩
end
/-! ### operands -/
section
variable {Q : D → Prop}
instance o_sl_ {i : Nat} {fl : Fl} {d : D} [l : LookAt ρ i (some (fl, d))] : St (W1 (opD ρ (.sl i)) Q) (Q d) := ⟨o_sl l.eq⟩
instance o_tm_ {u : Bool} {d : D} : St (W1 (opD ρ (.tm u d)) Q) (Q d) := ⟨o_tm⟩
instance b_sl_ {i : Nat} {fl : Fl} {b : Bool} {Q : Bool → Prop} [l : LookAt ρ i (some (fl, .bl b))] : St (WBl (opD ρ (.sl i)) Q) (Q b) := ⟨b_sl l.eq⟩
instance b_tm_ {u : Bool} {b : Bool} {Q : Bool → Prop} : St (WBl (opD ρ (.tm u (.bl b))) Q) (Q b) := ⟨b_tm⟩
instance i_sl_ {i : Nat} {fl : Fl} {b : Int} {Q : Int → Prop} [l : LookAt ρ i (some (fl, .int b))] : St (WIn (opD ρ (.sl i)) Q) (Q b) := ⟨i_sl l.eq⟩
instance i_tm_ {u : Bool} {b : Int} {Q : Int → Prop} : St (WIn (opD ρ (.tm u (.int b))) Q) (Q b) := ⟨i_tm⟩
end
section
variable {Q : List D → Prop}
instance os_nil_ : St (W1 (opDs ρ []) Q) (Q []) := ⟨os_nil⟩
instance os_sl_ {i : Nat} {fl : Fl} {d : D} {os : List Opd} [l : LookAt ρ i (some (fl, d))] : St (W1 (opDs ρ (.sl i :: os)) Q) (W1 (opDs ρ os) fun ds => Q (d :: ds)) := ⟨os_sl l.eq⟩
instance os_tm_ {u : Bool} {d : D} {os : List Opd} : St (W1 (opDs ρ (.tm u d :: os)) Q) (W1 (opDs ρ os) fun ds => Q (d :: ds)) := ⟨os_tm⟩
instance own_nil_ : St (W1 (ownD []) Q) (Q []) := ⟨own_nil⟩
instance own_cons_ {d : D} {os : List Opd} : St (W1 (ownD (.tm true d :: os)) Q) (W1 (ownD os) fun ds => Q (d :: ds)) := ⟨own_cons rfl⟩
end
instance w_one_ {o : Opd} {Q : Opd → Prop} : St (W1 (oneO [o]) Q) (Q o) := ⟨w_one⟩
instance w_two_ {o o' : Opd} {Q : Opd × Opd → Prop} : St (W1 (twoO [o, o']) Q) (Q (o, o')) := ⟨w_two⟩
/-! ### what is walked -/
def WEn (ds : List D) (Q : List D → Prop) : Prop := Q (enumD ds)
def WZp (xs ys : List D) (Q : List D → Prop) : Prop := Q (zipD xs ys)
def WJ (is js : List Nat) (Q : List Nat → Prop) : Prop := Q (is ++ js)
instance wj_n {js : List Nat} {Q : List Nat → Prop} : St (WJ [] js Q) (Q js) := ⟨fun q => q⟩
instance wj_1 {i : Nat} {js : List Nat} {Q : List Nat → Prop} : St (WJ [i] js Q) (Q (i :: js)) := ⟨fun q => q⟩
section
variable {Q : List D → Env → List Nat → Prop}
instance w_range_ {f : List D → Option (List D)} {ma : MA} : St (WI (mRange f ma) ρ Q) (WA ma ρ fun os ρ1 => W1 (opDs ρ1 os) fun ds => W1 (f ds) fun xs => Q xs ρ1 []) := ⟨w_range⟩
instance w_src_ {m : M} : St (WI (mSrc m) ρ Q) (WE m ρ fun o ρ1 => W1 (opD ρ1 o) fun d => W1 (walkD d) fun ds => W1 (holdOk ρ1 o d) fun is => Q ds ρ1 is) := ⟨w_src⟩
instance w_enum_ {ma : MA} : St (WI (mEnum ma) ρ Q) (WA ma ρ fun os ρ1 => W1 (oneO os) fun o => W1 (opD ρ1 o) fun d => W1 (seqD d) fun ds => W1 (holdOk ρ1 o d) fun is => WEn ds fun es => Q es ρ1 is) := ⟨w_enum⟩
instance w_zip_ {ma : MA} : St (WI (mZip ma) ρ Q) (WA ma ρ fun os ρ1 => W1 (twoO os) fun o => W1 (opD ρ1 o.1) fun d => W1 (opD ρ1 o.2) fun d' => W1 (sameSeq d d') fun x => W1 (holdOk ρ1 o.1 d) fun is => W1 (holdOk ρ1 o.2 d') fun js => WZp x.1 x.2 fun zs => WJ is js fun ks => Q zs ρ1 ks) := ⟨w_zip⟩
end
section
variable {Q : Option Int → Env → Prop}
instance w_nopart_ : St (WO mNoPart ρ Q) (Q none ρ) := ⟨w_nopart⟩
instance w_part_ {m : M} : St (WO (mPart m) ρ Q) (WE m ρ fun o ρ1 => WIn (opD ρ1 o) fun i => Q (some i) ρ1) := ⟨w_part⟩
end
section
variable {ds : List D} {d : D} {i : Nat} {Q : List D → Prop} {R : List Nat → Prop}
instance sq_l_ : St (W1 (seqD (.lst ds)) Q) (Q ds) := ⟨fun q => ⟨_, rfl, q⟩⟩
instance sq_t_ : St (W1 (seqD (.tup ds)) Q) (Q ds) := ⟨fun q => ⟨_, rfl, q⟩⟩
instance wk_l_ : St (W1 (walkD (.lst ds)) Q) (Q ds) := ⟨fun q => ⟨_, rfl, q⟩⟩
instance wk_t_ : St (W1 (walkD (.tup ds)) Q) (Q ds) := ⟨fun q => ⟨_, rfl, q⟩⟩
instance sm_l_ {a b : List D} {Q : List D × List D → Prop} : St (W1 (sameSeq (.lst a) (.lst b)) Q) (Q (a, b)) := ⟨fun q => ⟨_, rfl, q⟩⟩
instance sm_t_ {a b : List D} {Q : List D × List D → Prop} : St (W1 (sameSeq (.tup a) (.tup b)) Q) (Q (a, b)) := ⟨fun q => ⟨_, rfl, q⟩⟩
class HoE (i : Nat) (e : Option (Fl × D)) (d : D) (b : Bool) (is : outParam (List Nat)) : Prop where
  eq : ∀ ρ : Env, look ρ i = e → d.pure = b → holdOk ρ (.sl i) d = some is
instance he_p {e : Option (Fl × D)} : HoE i e d true [] := ⟨fun ρ l p => by simp only [holdOk, p]⟩
instance he_s {d' : D} : HoE i (some (.s, d')) d false [] := ⟨fun ρ l p => by simp only [holdOk, p, l]⟩
instance he_h {d' : D} : HoE i (some (.h, d')) d false [] := ⟨fun ρ l p => by simp only [holdOk, p, l]⟩
instance he_o {d' : D} [h : PuL ds true] : HoE i (some (.o, d')) (.lst ds) false [i] := ⟨fun ρ l p => by simp only [holdOk, p, l, itemsP, h.eq]⟩
instance he_l {d' : D} [h : PuL ds true] : HoE i (some (.l, d')) (.lst ds) false [i] := ⟨fun ρ l p => by simp only [holdOk, p, l, itemsP, h.eq]⟩
instance he_b {d' : D} [h : PuL ds true] : HoE i (some (.b, d')) (.lst ds) false [i] := ⟨fun ρ l p => by simp only [holdOk, p, l, itemsP, h.eq]⟩
instance ho_tm_ {u : Bool} {e : D} : St (W1 (holdOk ρ (.tm u e) d) R) (R []) := ⟨fun q => ⟨_, rfl, q⟩⟩
instance ho_sl_ {e : Option (Fl × D)} {b : Bool} {is : List Nat} [l : LookAt ρ i e] [p : Pu d b] [h : HoE i e d b is] : St (W1 (holdOk ρ (.sl i) d) R) (R is) := ⟨fun q => ⟨_, h.eq ρ l.eq p.eq, q⟩⟩
end
end
end U.P

/-! W2: operations, numbers from nought on as Nat. -/
namespace U.P
open PySem L2 U
theorem ixN_in {n : Nat} {i : Int} (h0 : 0 ≤ i) (h1 : i < n) : ixN n i = some i.toNat := by
  unfold ixN; rw [if_pos h0, if_pos h1]
/-- a whole number from nought on -/
class NatI (i : Int) (n : outParam Nat) : Prop where
  eq : i = (n : Int)
instance ni_c {n : Nat} : NatI (n : Int) n := ⟨rfl⟩
instance ni_p {n : Nat} : NatI (((2 ^ n : Nat) : Int) - ((1 : Nat) : Int)) (2 ^ n - 1) := ⟨by
  have := Nat.two_pow_pos n
  omega⟩
instance ni_10 : NatI (((1 : Nat) : Int) - ((0 : Nat) : Int)) 1 := ⟨rfl⟩
instance ni_11 : NatI (((1 : Nat) : Int) - ((1 : Nat) : Int)) 0 := ⟨rfl⟩
instance ni_s0 {n : Nat} : NatI ((n : Int) - ((0 : Nat) : Int)) n := ⟨by simp⟩
/-- data as D -/
abbrev nD (n : Nat) : D := .int (n : Int)
abbrev iD (i : Int) : D := .int i
abbrev pD {α β : Type} (f : α → D) (g : β → D) (p : α × β) : D := .tup [f p.1, g p.2]
abbrev lD {α : Type} (f : α → D) (xs : List α) : D := .lst (xs.map f)
abbrev tD {α : Type} (f : α → D) (xs : List α) : D := .tup (xs.map f)
abbrev oD {α : Type} (f : α → D) : Option α → D
  | none => .non
  | some x => f x
instance pu_o {α : Type} {f : α → D} {o : Option α} [h : PuF f] : Pu (oD f o) true := ⟨by cases o with | none => rfl | some x => exact h.eq x⟩
section
variable {i j : Int} {m n : Nat} {Q : D → Prop}
instance (priority := low) q_addI : St (W1 (dAdd (.int i) (.int j)) Q) (Q (.int (i + j))) := ⟨q_add⟩
instance q_addN [a : NatI i m] [b : NatI j n] : St (W1 (dAdd (.int i) (.int j)) Q) (Q (.int ((m + n : Nat) : Int))) := ⟨fun q => q_add (by rw [a.eq, b.eq]; exact_mod_cast q)⟩
instance (priority := high) q_augAdd : St (W1 (i2 (fun i j => .int (i + j)) (.int i) (.int j)) Q) (W1 (dAdd (.int i) (.int j)) Q) := ⟨fun ⟨d, e, q⟩ => by cases e; exact ⟨_, rfl, q⟩⟩
instance q_subI : St (W1 (dSub (.int i) (.int j)) Q) (Q (.int (i - j))) := ⟨q_sub⟩
instance (priority := low) q_mulI : St (W1 (dMul (.int i) (.int j)) Q) (WP ((-(2 ^ 64) < i ∧ i < 2 ^ 64) ∨ (-(2 ^ 64) < j ∧ j < 2 ^ 64)) (Q (.int (i * j)))) := ⟨fun h => q_mul (h.1.elim (fun z => cMul_l z.1 z.2) fun z => cMul_r z.1 z.2) h.2⟩
instance q_mulN [a : NatI i m] [b : NatI j n] : St (W1 (dMul (.int i) (.int j)) Q) (WP (m < 2 ^ 64 ∨ n < 2 ^ 64) (Q (.int ((m * n : Nat) : Int)))) := ⟨fun h => q_mul (h.1.elim (fun z => cMul_l (by rw [a.eq]; omega) (by rw [a.eq]; omega)) fun z => cMul_r (by rw [b.eq]; omega) (by rw [b.eq]; omega)) (by rw [a.eq, b.eq]; exact_mod_cast h.2)⟩
instance (priority := high) q_augMul [a : NatI i m] [b : NatI j n] : St (W1 (i2c cMul (fun i j => .int (i * j)) (.int i) (.int j)) Q) (WP (m < 2 ^ 64 ∨ n < 2 ^ 64) (Q (.int ((m * n : Nat) : Int)))) := ⟨fun ⟨h, q⟩ => by
  have : cMul i j = true := h.elim (fun z => cMul_l (by rw [a.eq]; omega) (by rw [a.eq]; omega)) fun z => cMul_r (by rw [b.eq]; omega) (by rw [b.eq]; omega)
  refine ⟨.int (i * j), by simp [i2c, this], ?_⟩
  rw [a.eq, b.eq]; exact_mod_cast q⟩
instance (priority := low) q_fdivI [b : NatI j n] : St (W1 (dFdiv (.int i) (.int j)) Q) (WP (0 < n ∧ n < 1073741824) (Q (.int (i / (n : Int))))) := ⟨fun h => q_fdiv (by rw [b.eq]; have := h.1; omega) (by rw [b.eq]; have := h.1; omega) (by rw [b.eq]; exact h.2)⟩
instance q_fdivN [a : NatI i m] [b : NatI j n] : St (W1 (dFdiv (.int i) (.int j)) Q) (WP (0 < n ∧ n < 1073741824) (Q (.int ((m / n : Nat) : Int)))) := ⟨fun h => q_fdiv (by rw [b.eq]; have := h.1; omega) (by rw [b.eq]; have := h.1; omega) (by rw [a.eq, b.eq]; exact_mod_cast h.2)⟩
/-- by a positive number: from nought on -/
instance (priority := low) q_modI [b : NatI j n] : St (W1 (dMod (.int i) (.int j)) Q) (WP (0 < n) (∀ r : Nat, (r : Int) = i % (n : Int) → r < n → Q (.int (r : Int)))) := ⟨fun h => by
  have hn : (0 : Int) < n := by have := h.1; omega
  have h1 := Int.emod_nonneg i (show (n : Int) ≠ 0 by omega)
  have h2 := Int.emod_lt_of_pos i hn
  refine q_mod (by rw [b.eq]; exact hn) ?_
  rw [b.eq]
  have := h.2 (i % n).toNat (by omega) (by omega)
  rwa [Int.toNat_of_nonneg h1] at this⟩
instance q_modN [a : NatI i m] [b : NatI j n] : St (W1 (dMod (.int i) (.int j)) Q) (WP (0 < n) (Q (.int ((m % n : Nat) : Int)))) := ⟨fun h => q_mod (by rw [b.eq]; have := h.1; omega) (by rw [a.eq, b.eq]; exact_mod_cast h.2)⟩
instance q_powN [a : NatI i m] [b : NatI j n] : St (W1 (dPow (.int i) (.int j)) Q) (WP (n ≤ 1000000 ∧ m < 2 ^ 64) (Q (.int ((m ^ n : Nat) : Int)))) := ⟨fun h => by
  refine q_pow ?_ ?_
  · have := h.1
    simp only [cPow, Bool.and_eq_true, decide_eq_true_eq, a.eq, b.eq]
    omega
  · rw [a.eq, b.eq, Int.toNat_natCast]; exact_mod_cast h.2⟩
theorem shl_ok (h : 0 ≤ j ∧ j ≤ 1000000 ∧ m < 2 ^ 64) (e : i = m) : cPow i j = true := by
  simp only [cPow, Bool.and_eq_true, decide_eq_true_eq, e]
  omega
instance q_shl1N [b : NatI j n] : St (W1 (dShl (.int ((1 : Nat) : Int)) (.int j)) Q) (WP (n ≤ 1000000) (Q (.int ((2 ^ n : Nat) : Int)))) := ⟨fun h => q_shl (shl_ok (m := 1) (by rw [b.eq]; have := h.1; omega) rfl) (by rw [b.eq, Int.toNat_natCast]; have := h.2; simpa using this)⟩
instance (priority := low) q_shl1I : St (W1 (dShl (.int ((1 : Nat) : Int)) (.int j)) Q) (WP (0 ≤ j ∧ j ≤ 1000000) (Q (.int ((2 ^ j.toNat : Nat) : Int)))) := ⟨fun h => q_shl (shl_ok (m := 1) (by have := h.1; omega) rfl) (by have := h.2; simpa using this)⟩
instance (priority := low) q_shlN [a : NatI i m] [b : NatI j n] : St (W1 (dShl (.int i) (.int j)) Q) (WP (n ≤ 1000000 ∧ m < 2 ^ 64) (Q (.int ((m * 2 ^ n : Nat) : Int)))) := ⟨fun h => q_shl (shl_ok (m := m) (by rw [b.eq]; have := h.1; omega) a.eq) (by rw [a.eq, b.eq, Int.toNat_natCast]; exact_mod_cast h.2)⟩
instance (priority := 10) q_shlI [a : NatI i m] : St (W1 (dShl (.int i) (.int j)) Q) (WP (0 ≤ j ∧ j ≤ 1000000 ∧ m < 2 ^ 64) (Q (.int ((m * 2 ^ j.toNat : Nat) : Int)))) := ⟨fun h => q_shl (shl_ok (m := m) h.1 a.eq) (by rw [a.eq]; exact_mod_cast h.2)⟩
instance q_shrN [a : NatI i m] [b : NatI j n] : St (W1 (dShr (.int i) (.int j)) Q) (Q (.int ((m / 2 ^ n : Nat) : Int))) := ⟨fun h => q_shr (by rw [b.eq]; omega) (by rw [a.eq, b.eq, Int.toNat_natCast]; exact_mod_cast h)⟩
instance (priority := low) q_shrI [a : NatI i m] : St (W1 (dShr (.int i) (.int j)) Q) (WP (0 ≤ j) (Q (.int ((m / 2 ^ j.toNat : Nat) : Int)))) := ⟨fun h => q_shr h.1 (by rw [a.eq]; exact_mod_cast h.2)⟩
theorem xor_nn {a b : Int} (ha : 0 ≤ a) (hb : 0 ≤ b) : Builtin.bitXor a b = ((a.toNat ^^^ b.toNat : Nat) : Int) := Bits.bitXor_pp ha hb
instance q_xorN [a : NatI i m] [b : NatI j n] : St (W1 (dXor (.int i) (.int j)) Q) (Q (.int ((m ^^^ n : Nat) : Int))) := ⟨fun h => q_xor (by rw [a.eq, b.eq, xor_nn (by omega) (by omega), Int.toNat_natCast, Int.toNat_natCast]; exact h)⟩
theorem and1 (a : Int) : Builtin.bitAnd a 1 = a % 2 := PyProof.Rows.bitAnd_m1 a
instance (priority := high) q_and1 [a : NatI i m] : St (W1 (dAnd (.int i) (.int ((1 : Nat) : Int))) Q) (Q (.int ((m % 2 : Nat) : Int))) := ⟨fun h => q_and (by rw [show ((1 : Nat) : Int) = 1 from rfl, and1, a.eq]; exact_mod_cast h)⟩
instance q_ltN [a : NatI i m] [b : NatI j n] : St (W1 (dLt (.int i) (.int j)) Q) (Q (.bl (decide (m < n)))) := ⟨fun h => q_lt (by rw [a.eq, b.eq]; simpa using h)⟩
instance q_leN [a : NatI i m] [b : NatI j n] : St (W1 (dLe (.int i) (.int j)) Q) (Q (.bl (decide (m ≤ n)))) := ⟨fun h => q_le (by rw [a.eq, b.eq]; simpa using h)⟩
instance q_gtN [a : NatI i m] [b : NatI j n] : St (W1 (dGt (.int i) (.int j)) Q) (Q (.bl (decide (n < m)))) := ⟨fun h => q_gt (by rw [a.eq, b.eq]; simpa using h)⟩
instance q_geN [a : NatI i m] [b : NatI j n] : St (W1 (dGe (.int i) (.int j)) Q) (Q (.bl (decide (n ≤ m)))) := ⟨fun h => q_ge (by rw [a.eq, b.eq]; simpa using h)⟩
instance q_eqN [a : NatI i m] [b : NatI j n] : St (W1 (dEq (.int i) (.int j)) Q) (Q (.bl (decide (m = n)))) := ⟨fun h => q_eq (by
  have e : decide (i = j) = decide (m = n) := by rw [a.eq, b.eq]; exact decide_eq_decide.mpr Int.ofNat_inj
  rw [e]; exact h)⟩
instance q_neN [a : NatI i m] [b : NatI j n] : St (W1 (dNe (.int i) (.int j)) Q) (Q (.bl (!decide (m = n)))) := ⟨fun h => q_ne (by
  have e : decide (i = j) = decide (m = n) := by rw [a.eq, b.eq]; exact decide_eq_decide.mpr Int.ofNat_inj
  rw [e]; exact h)⟩
instance (priority := low) q_ltI : St (W1 (dLt (.int i) (.int j)) Q) (Q (.bl (decide (i < j)))) := ⟨q_lt⟩
instance (priority := low) q_leI : St (W1 (dLe (.int i) (.int j)) Q) (Q (.bl (decide (i ≤ j)))) := ⟨q_le⟩
instance (priority := low) q_gtI : St (W1 (dGt (.int i) (.int j)) Q) (Q (.bl (decide (j < i)))) := ⟨q_gt⟩
instance (priority := low) q_geI : St (W1 (dGe (.int i) (.int j)) Q) (Q (.bl (decide (j ≤ i)))) := ⟨q_ge⟩
instance (priority := low) q_eqI : St (W1 (dEq (.int i) (.int j)) Q) (Q (.bl (decide (i = j)))) := ⟨q_eq⟩
instance (priority := low) q_neI : St (W1 (dNe (.int i) (.int j)) Q) (Q (.bl (!decide (i = j)))) := ⟨q_ne⟩
instance q_negI : St (W1 (dNeg (.int i)) Q) (Q (.int (-i))) := ⟨q_neg⟩
instance q_is_ {d : D} : St (W1 (dIs d .non) Q) (Q (.bl d.isNon)) := ⟨q_is⟩
instance q_isnot_ {d : D} : St (W1 (dIsNot d .non) Q) (Q (.bl (!d.isNon))) := ⟨q_isnot⟩
instance q_absN [a : NatI i m] : St (W1 (cAbs [.int i]) Q) (Q (.int (m : Int))) := ⟨fun h => q_abs (by rw [a.eq, if_neg (by omega)]; exact h)⟩
instance (priority := low) q_absI : St (W1 (cAbs [.int i]) Q) (Q (.int (i.natAbs : Int))) := ⟨fun h => q_abs (by
  have e : (if i < 0 then -i else i) = (i.natAbs : Int) := by split <;> omega
  rw [e]; exact h)⟩
instance q_minN [a : NatI i m] [b : NatI j n] : St (W1 (cMin2 [.int i, .int j]) Q) (Q (.int ((min m n : Nat) : Int))) := ⟨fun h => q_min (by
  have e : (if j < i then j else i) = ((min m n : Nat) : Int) := by rw [a.eq, b.eq]; split <;> omega
  rw [e]; exact h)⟩
instance q_maxN [a : NatI i m] [b : NatI j n] : St (W1 (cMax2 [.int i, .int j]) Q) (Q (.int ((max m n : Nat) : Int))) := ⟨fun h => q_max (by
  have e : (if j > i then j else i) = ((max m n : Nat) : Int) := by rw [a.eq, b.eq]; split <;> omega
  rw [e]; exact h)⟩
instance (priority := low) q_minI : St (W1 (cMin2 [.int i, .int j]) Q) (Q (.int (min i j))) := ⟨fun h => q_min (by
  have e : (if j < i then j else i) = min i j := by split <;> omega
  rw [e]; exact h)⟩
instance (priority := low) q_maxI : St (W1 (cMax2 [.int i, .int j]) Q) (Q (.int (max i j))) := ⟨fun h => q_max (by
  have e : (if j > i then j else i) = max i j := by split <;> omega
  rw [e]; exact h)⟩
instance q_int_ : St (W1 (cInt [.int i]) Q) (Q (.int i)) := ⟨q_int⟩
instance (priority := low) q_intB_ {b : Bool} : St (W1 (cInt [.bl b]) Q) (Q (.int ((b.toNat : Nat) : Int))) := ⟨fun h => q_intB (by cases b <;> exact h)⟩
instance q_intT : St (W1 (cInt [.bl true]) Q) (Q (.int ((1 : Nat) : Int))) := ⟨fun h => q_intB h⟩
instance q_intF : St (W1 (cInt [.bl false]) Q) (Q (.int ((0 : Nat) : Int))) := ⟨fun h => q_intB h⟩
instance q_divmodN [a : NatI i m] [b : NatI j n] : St (W1 (cDivmod [.int i, .int j]) Q) (WP (0 < n ∧ n < 1073741824) (Q (.tup [.int ((m / n : Nat) : Int), .int ((m % n : Nat) : Int)]))) := ⟨fun h => q_divmod (by rw [b.eq]; have := h.1; omega) (by rw [b.eq]; have := h.1; omega) (by rw [a.eq, b.eq]; exact_mod_cast h.2)⟩
instance q_eqB_ {a b : Bool} : St (W1 (dEq (.bl a) (.bl b)) Q) (Q (.bl (decide (a = b)))) := ⟨fun q => ⟨_, rfl, q⟩⟩
instance q_neB_ {a b : Bool} : St (W1 (dNe (.bl a) (.bl b)) Q) (Q (.bl (!decide (a = b)))) := ⟨fun q => ⟨_, rfl, q⟩⟩
instance q_eqS_ {a b : Str} : St (W1 (dEq (.str a) (.str b)) Q) (Q (.bl (decide (a = b)))) := ⟨fun q => ⟨_, rfl, q⟩⟩
instance q_neS_ {a b : Str} : St (W1 (dNe (.str a) (.str b)) Q) (Q (.bl (!decide (a = b)))) := ⟨fun q => ⟨_, rfl, q⟩⟩
/-! ### lists, tuples -/
class Len (ds : List D) (n : outParam Nat) : Prop where
  eq : ds.length = n
instance le_n : Len [] 0 := ⟨rfl⟩
instance le_c {d : D} {ds : List D} {n : Nat} [h : Len ds n] : Len (d :: ds) (n + 1) := ⟨by simp [h.eq]⟩
instance le_m {α : Type} {f : α → D} {xs : List α} : Len (xs.map f) xs.length := ⟨by simp⟩
instance le_a {a b : List D} {m n : Nat} [h : Len a m] [h' : Len b n] : Len (a ++ b) (m + n) := ⟨by simp [h.eq, h'.eq]⟩
instance (priority := low) le_d {a : List D} : Len a a.length := ⟨rfl⟩
instance q_lenL_ {ds : List D} {n : Nat} [h : Len ds n] : St (W1 (cLen [.lst ds]) Q) (Q (.int (n : Int))) := ⟨fun q => ⟨_, rfl, by rw [h.eq]; exact q⟩⟩
instance q_lenT_ {ds : List D} {n : Nat} [h : Len ds n] : St (W1 (cLen [.tup ds]) Q) (Q (.int (n : Int))) := ⟨fun q => ⟨_, rfl, by rw [h.eq]; exact q⟩⟩
instance q_list_ {ds : List D} [h : PuL ds true] : St (W1 (cList [.lst ds]) Q) (Q (.lst ds)) := ⟨q_list h.eq⟩
instance q_listT_ {ds : List D} [h : PuL ds true] : St (W1 (cList [.tup ds]) Q) (Q (.lst ds)) := ⟨q_listT h.eq⟩
instance q_tuple_ {ds : List D} [h : PuL ds true] : St (W1 (cTuple [.lst ds]) Q) (Q (.tup ds)) := ⟨q_tuple h.eq⟩
instance q_tupleT_ {ds : List D} [h : PuL ds true] : St (W1 (cTuple [.tup ds]) Q) (Q (.tup ds)) := ⟨q_tupleT h.eq⟩
theorem fullLen_of {n : Nat} (h : n ≤ 10000000) : fullLen n = true := decide_eq_true h
instance q_catL {a b : List D} {m n : Nat} [h : PuL a true] [h' : PuL b true] [l : Len a m] [l' : Len b n] : St (W1 (dAdd (.lst a) (.lst b)) Q) (WP (m + n ≤ 10000000) (Q (.lst (a ++ b)))) := ⟨fun q => by
  refine ⟨_, ?_, q.2⟩
  have e3 : fullLen (a.length + b.length) = true := fullLen_of (by rw [l.eq, l'.eq]; exact q.1)
  simp only [dAdd, d2or, i2, dCat, h.eq, h'.eq, e3, Bool.and_self]⟩
class AppL (a b : List D) (c : outParam (List D)) : Prop where
  eq : a ++ b = c
instance ap_0 {b : List D} : AppL [] b b := ⟨rfl⟩
instance ap_s {x : D} {a b c : List D} [h : AppL a b c] : AppL (x :: a) b (x :: c) := ⟨by rw [List.cons_append, h.eq]⟩
instance (priority := high) q_catLit {a b c : List D} {m n : Nat} [h : PuL a true] [h' : PuL b true] [l : Len a m] [l' : Len b n] [e : AppL a b c] : St (W1 (dAdd (.lst a) (.lst b)) Q) (WP (m + n ≤ 10000000) (Q (.lst c))) := ⟨fun q => (q_catL (a := a) (b := b) (Q := Q)).pf (by rw [e.eq]; exact q)⟩
instance (priority := high) q_catM {α : Type} {f : α → D} {xs ys : List α} [h : PuF f] : St (W1 (dAdd (.lst (xs.map f)) (.lst (ys.map f))) Q) (WP (xs.length + ys.length ≤ 10000000) (Q (.lst ((xs ++ ys).map f)))) := ⟨fun q => by
  have := (q_catL (a := xs.map f) (b := ys.map f) (Q := Q) (m := xs.length) (n := ys.length)).pf
  exact this ⟨q.1, by rw [← List.map_append]; exact q.2⟩⟩
end
/-! ### items -/
class GetAt (ds : List D) (n : Nat) (d : outParam D) : Prop where
  eq : ds[n]? = some d
instance ga_0 {d : D} {ds : List D} : GetAt (d :: ds) 0 d := ⟨rfl⟩
instance ga_s {d e : D} {ds : List D} {n : Nat} [h : GetAt ds n d] : GetAt (e :: ds) (n + 1) d := ⟨by simpa using h.eq⟩
theorem atI_nat {ds : List D} {n : Nat} {d : D} (h : ds[n]? = some d) : atI ds (n : Int) = some d := by
  have hl := (List.getElem?_eq_some_iff.mp h).1
  unfold atI
  rw [ixN_in (by omega) (by omega), Option.bind_some, Int.toNat_natCast]
  exact h
section
variable {ρ : Env} {i : Int} {n : Nat} {Q : Opd → Env → Prop} {o : Opd} {d : D} {ds : List D}
/-- where an item that can be changed comes from -/
class IxE (o : Opd) (d : D) (b : Bool) (ρ : Env) (o' : outParam Opd) (ρ' : outParam Env) : Prop where
  eq : ∀ d1 i, itemD d1 i = some d → d.pure = b → ixO o d1 (.int i) ρ = some (o', ρ')
instance ie_p : IxE o d true ρ (.tm true d) ρ := ⟨fun d1 i h p => by simp [ixO, h, p]⟩
instance ie_t {u : Bool} {d0 : D} : IxE (.tm u d0) d false ρ (.tm u d) ρ := ⟨fun d1 i h p => by simp [ixO, h, p]⟩
class IxL (j : Nat) (e : Option (Fl × D)) (d : D) (ρ : Env) (o' : outParam Opd) (ρ' : outParam Env) : Prop where
  eq : look ρ j = e → ∀ d1 i, itemD d1 i = some d → d.pure = false → ixO (.sl j) d1 (.int i) ρ = some (o', ρ')
instance il_s {j : Nat} {d0 : D} : IxL j (some (.s, d0)) d ρ (.tm false d) ρ := ⟨fun l d1 i h p => by simp [ixO, h, p, l]⟩
instance il_h {j : Nat} {d0 : D} : IxL j (some (.h, d0)) d ρ (.tm false d) ρ := ⟨fun l d1 i h p => by simp [ixO, h, p, l]⟩
instance il_o {j : Nat} {d0 : D} {ρ2 : Env} [s : SetAt ρ j (some (.s, d0)) ρ2] : IxL j (some (.o, d0)) d ρ (.tm false d) ρ2 := ⟨fun l d1 i h p => by simp [ixO, h, p, l, s.eq]⟩
instance ie_s {j : Nat} {e : Option (Fl × D)} {o' : Opd} {ρ2 : Env} [l : LookAt ρ j e] [x : IxL j e d ρ o' ρ2] : IxE (.sl j) d false ρ o' ρ2 := ⟨x.eq l.eq⟩
/-- a written row, a written place -/
instance (priority := high) x_lit {o' : Opd} {ρ2 : Env} {b : Bool} [a : NatI i n] [g : GetAt ds n d] [p : Pu d b] [x : IxE o d b ρ o' ρ2] : St (WV (ixO o (.lst ds) (.int i) ρ) Q) (Q o' ρ2) := ⟨fun q => ⟨_, _, x.eq _ _ (by rw [a.eq]; exact atI_nat g.eq) p.eq, q⟩⟩
instance (priority := high) x_litT {o' : Opd} {ρ2 : Env} {b : Bool} [a : NatI i n] [g : GetAt ds n d] [p : Pu d b] [x : IxE o d b ρ o' ρ2] : St (WV (ixO o (.tup ds) (.int i) ρ) Q) (Q o' ρ2) := ⟨fun q => ⟨_, _, x.eq _ _ (by rw [a.eq]; exact atI_nat g.eq) p.eq, q⟩⟩
/-- a row of things of one kind -/
instance x_map {α : Type} {f : α → D} {xs : List α} [a : NatI i n] [p : PuF f] : St (WV (ixO o (.lst (xs.map f)) (.int i) ρ) Q) (WP (n < xs.length) (∀ x, xs[n]? = some x → Q (.tm true (f x)) ρ)) := ⟨fun ⟨h, q⟩ =>
  x_pure (d := f xs[n]) (by rw [a.eq]; exact atI_nat (by rw [List.getElem?_map, List.getElem?_eq_getElem h]; rfl)) (p.eq _) (q _ (List.getElem?_eq_getElem h))⟩
instance x_mapT {α : Type} {f : α → D} {xs : List α} [a : NatI i n] [p : PuF f] : St (WV (ixO o (.tup (xs.map f)) (.int i) ρ) Q) (WP (n < xs.length) (∀ x, xs[n]? = some x → Q (.tm true (f x)) ρ)) := ⟨fun ⟨h, q⟩ =>
  x_pure (d := f xs[n]) (by rw [a.eq]; exact atI_nat (by rw [List.getElem?_map, List.getElem?_eq_getElem h]; rfl)) (p.eq _) (q _ (List.getElem?_eq_getElem h))⟩
theorem atI_last {ds : List D} {d : D} (h : ds.getLast? = some d) : atI ds (-1) = some d := by
  have hl : 0 < ds.length := by cases ds with
    | nil => cases h
    | cons x xs => simp
  unfold atI ixN
  rw [if_neg (by decide)]
  rw [if_pos (by omega)]
  rw [List.getLast?_eq_getElem?] at h
  rw [Option.bind_some, ← h]
  congr 1
  omega
instance x_last {α : Type} {f : α → D} {xs : List α} [p : PuF f] : St (WV (ixO o (.lst (xs.map f)) (.int (-((1 : Nat) : Int))) ρ) Q) (WP (xs ≠ []) (∀ x, xs.getLast? = some x → Q (.tm true (f x)) ρ)) := ⟨fun ⟨h, q⟩ => by
  obtain ⟨x, hx⟩ : ∃ x, xs.getLast? = some x := ⟨xs.getLast h, List.getLast?_eq_getLast h⟩
  exact x_pure (d := f x) (atI_last (by rw [List.getLast?_map, hx]; rfl)) (p.eq _) (q x hx)⟩
/-- one of some written ones -/
class IntsL (ds : List D) (ks : outParam (List Int)) : Prop where
  eq : ds = ks.map D.int
instance it_n : IntsL [] [] := ⟨rfl⟩
instance it_c {k : Int} {ks : List Int} [h : IntsL ds ks] : IntsL (.int k :: ds) (k :: ks) := ⟨by rw [h.eq]; rfl⟩
class NatsL (ds : List D) (ks : outParam (List Nat)) : Prop where
  eq : ds = ks.map nD
instance nt_n : NatsL [] [] := ⟨rfl⟩
instance nt_c {i : Int} {k : Nat} {ks : List Nat} [a : NatI i k] [h : NatsL ds ks] : NatsL (.int i :: ds) (k :: ks) := ⟨by rw [h.eq, a.eq]; rfl⟩
instance x_anyN {ks : List Nat} [a : NatI i n] [h : NatsL ds ks] : St (WV (ixO o (.lst ds) (.int i) ρ) Q) (WP (n < ks.length) (∀ k, k ∈ ks → Q (.tm true (.int ((k : Nat) : Int))) ρ)) := ⟨fun ⟨hl, q⟩ =>
  x_pure (d := .int ks[n]) (by rw [a.eq, h.eq]; exact atI_nat (by rw [List.getElem?_map, List.getElem?_eq_getElem hl]; rfl)) rfl (q _ (List.getElem_mem hl))⟩
instance (priority := low) x_anyI {ks : List Int} [a : NatI i n] [h : IntsL ds ks] : St (WV (ixO o (.lst ds) (.int i) ρ) Q) (WP (n < ks.length) (∀ k, k ∈ ks → Q (.tm true (.int k)) ρ)) := ⟨fun ⟨hl, q⟩ =>
  x_pure (d := .int ks[n]) (by rw [a.eq, h.eq]; exact atI_nat (by rw [List.getElem?_map, List.getElem?_eq_getElem hl]; rfl)) rfl (q _ (List.getElem_mem hl))⟩
end
/-! ### changes -/
/-- a datum as one of a kind -/
class Cv {α : Type} (f : α → D) (d : D) (x : outParam α) : Prop where
  eq : d = f x
instance cv_n {i : Int} {n : Nat} [h : NatI i n] : Cv nD (.int i) n := ⟨by rw [h.eq]⟩
instance cv_i {i : Int} : Cv iD (.int i) i := ⟨rfl⟩
instance cv_p {α β : Type} {f : α → D} {g : β → D} {d e : D} {x : α} {y : β} [h : Cv f d x] [h' : Cv g e y] : Cv (pD f g) (.tup [d, e]) (x, y) := ⟨by rw [h.eq, h'.eq]⟩
instance (priority := low) cv_s {α : Type} {f : α → D} {x : α} : Cv f (f x) x := ⟨rfl⟩
section
variable {ρ : Env} {fl : Fl} {i : Nat} {ds as : List D} {d : D} {Q : D × Option (Fl × D) → Prop}
instance mu_look {f : List D → List D → Option (D × List D)} {e : Option (Fl × D)} [l : LookAt ρ i e] : St (W1 (U.P.mutO f as (look ρ i)) Q) (W1 (U.P.mutO f as e) Q) := ⟨fun q => by rw [l.eq]; exact q⟩
instance (priority := high) u_appM {α : Type} {f : α → D} {xs : List α} {x : α} [m : Mu fl] [c : Cv f d x] : St (W1 (U.P.mutO xAppend [d] (some (fl, .lst (xs.map f)))) Q) (WP (xs.length ≤ 10000000) (Q (.non, some (fl, .lst ((xs ++ [x]).map f))))) := ⟨fun ⟨h, q⟩ => by
  refine u_mut rfl m.eq (d := .non) (ds' := (xs ++ [x]).map f) ?_ q
  simp [xAppend, fullLen, h, c.eq]⟩
instance u_appD {n : Nat} [m : Mu fl] [l : Len ds n] : St (W1 (U.P.mutO xAppend [d] (some (fl, .lst ds))) Q) (WP (n ≤ 10000000) (Q (.non, some (fl, .lst (ds ++ [d]))))) := ⟨fun ⟨h, q⟩ => by
  refine u_mut rfl m.eq (d := .non) (ds' := ds ++ [d]) ?_ q
  simp [xAppend, fullLen, l.eq, h]⟩
instance (priority := high) u_revM {α : Type} {f : α → D} {xs : List α} [m : Mu fl] [p : PuF f] : St (W1 (U.P.mutO xReverse [] (some (fl, .lst (xs.map f)))) Q) (Q (.non, some (fl, .lst (xs.reverse.map f)))) := ⟨fun q => by
  refine u_mut rfl m.eq (d := .non) (ds' := xs.reverse.map f) ?_ q
  have : D.pureL (xs.map f) = true := (pl_map (xs := xs) (f := f)).eq
  simp [xReverse, this]⟩
instance u_revD [m : Mu fl] [p : PuL ds true] : St (W1 (U.P.mutO xReverse [] (some (fl, .lst ds))) Q) (Q (.non, some (fl, .lst ds.reverse))) := ⟨fun q => by
  refine u_mut rfl m.eq (d := .non) (ds' := ds.reverse) ?_ q
  simp [xReverse, p.eq]⟩
instance u_popM {α : Type} {f : α → D} {xs : List α} [m : Mu fl] : St (W1 (U.P.mutO xPop [] (some (fl, .lst (xs.map f)))) Q) (WP (xs ≠ []) (∀ x, xs.getLast? = some x → Q (f x, some (fl, .lst (xs.dropLast.map f))))) := ⟨fun ⟨h, q⟩ => by
  obtain ⟨x, hx⟩ : ∃ x, xs.getLast? = some x := ⟨xs.getLast h, List.getLast?_eq_getLast h⟩
  refine u_mut rfl m.eq (d := f x) (ds' := xs.dropLast.map f) ?_ (q x hx)
  rw [List.getLast?_eq_getElem?] at hx
  simp [xPop, hx, List.map_dropLast]⟩
end
section
variable {ρ : Env} {fl : Fl} {x : Nat} {u : Bool} {k : Int} {n : Nat} {ds : List D} {d d' : D} {Q : Option (Fl × D) → Prop}
instance su_look {e : Option (Fl × D)} [l : LookAt ρ x e] : St (W1 (subO u d d' (look ρ x)) Q) (W1 (subO u d d' e) Q) := ⟨fun q => by rw [l.eq]; exact q⟩
instance (priority := high) s_subM {α : Type} {f : α → D} {xs : List α} {y : α} [b : Bv u true] [m : Mu fl] [p : PuF f] [c : Cv f d y] [a : NatI k n] : St (W1 (subO u d (.int k) (some (fl, .lst (xs.map f)))) Q) (WP (n < xs.length) (Q (some (fl, .lst ((xs.set n y).map f))))) := ⟨fun ⟨h, q⟩ => by
  refine s_sub rfl m.eq b.eq (pl_map (xs := xs) (f := f)).eq (by rw [c.eq]; exact p.eq _) (j := n) (by rw [a.eq, ixN_in (by omega) (by simpa using h), Int.toNat_natCast]) ?_
  rw [c.eq, ← List.map_set]
  exact q⟩
class SetL (ds : List D) (n : Nat) (d : D) (ds' : outParam (List D)) : Prop where
  eq : ds.set n d = ds'
  lt : n < ds.length
instance sl_0 {e : D} : SetL (e :: ds) 0 d (d :: ds) := ⟨rfl, by simp⟩
instance sl_s {e : D} {ds' : List D} [h : SetL ds n d ds'] : SetL (e :: ds) (n + 1) d (e :: ds') := ⟨by rw [List.set_cons_succ, h.eq], by have := h.lt; simpa using this⟩
instance s_subL {ds' : List D} [b : Bv u true] [m : Mu fl] [p : PuL ds true] [pd : Pu d true] [a : NatI k n] [s : SetL ds n d ds'] : St (W1 (subO u d (.int k) (some (fl, .lst ds))) Q) (Q (some (fl, .lst ds'))) := ⟨fun q => by
  refine s_sub rfl m.eq b.eq p.eq pd.eq (j := n) (by rw [a.eq, ixN_in (by omega) (by have := s.lt; omega), Int.toNat_natCast]) ?_
  rw [s.eq]
  exact q⟩
end
end U.P

/-! W3: kinds, loops, comprehensions, ranges. -/
namespace U.P
open PySem L2 U
/-! ### isinstance -/
class TyN (d : D) (n : outParam String) : Prop where
  eq : d.tyN = some n
instance ty_non : TyN .non "NoneType" := ⟨rfl⟩
instance ty_bl {b : Bool} : TyN (.bl b) "bool" := ⟨rfl⟩
instance ty_int {i : Int} : TyN (.int i) "int" := ⟨rfl⟩
instance ty_str {s : Str} : TyN (.str s) "str" := ⟨rfl⟩
instance ty_lst {ds : List D} : TyN (.lst ds) "list" := ⟨rfl⟩
instance ty_tup {ds : List D} : TyN (.tup ds) "tuple" := ⟨rfl⟩
instance ty_dct {ks : List Key} {ds : List D} : TyN (.dct ks ds) "dict" := ⟨rfl⟩
class Kit (n c : String) (b : outParam Bool) : Prop where
  eq : kitB n c = some b
instance kit_NoneType_bool : Kit "NoneType" "bool" false := ⟨by decide +kernel⟩
instance kit_NoneType_int : Kit "NoneType" "int" false := ⟨by decide +kernel⟩
instance kit_NoneType_str : Kit "NoneType" "str" false := ⟨by decide +kernel⟩
instance kit_NoneType_list : Kit "NoneType" "list" false := ⟨by decide +kernel⟩
instance kit_NoneType_tuple : Kit "NoneType" "tuple" false := ⟨by decide +kernel⟩
instance kit_NoneType_dict : Kit "NoneType" "dict" false := ⟨by decide +kernel⟩
instance kit_bool_bool : Kit "bool" "bool" true := ⟨by decide +kernel⟩
instance kit_bool_int : Kit "bool" "int" true := ⟨by decide +kernel⟩
instance kit_bool_str : Kit "bool" "str" false := ⟨by decide +kernel⟩
instance kit_bool_list : Kit "bool" "list" false := ⟨by decide +kernel⟩
instance kit_bool_tuple : Kit "bool" "tuple" false := ⟨by decide +kernel⟩
instance kit_bool_dict : Kit "bool" "dict" false := ⟨by decide +kernel⟩
instance kit_int_bool : Kit "int" "bool" false := ⟨by decide +kernel⟩
instance kit_int_int : Kit "int" "int" true := ⟨by decide +kernel⟩
instance kit_int_str : Kit "int" "str" false := ⟨by decide +kernel⟩
instance kit_int_list : Kit "int" "list" false := ⟨by decide +kernel⟩
instance kit_int_tuple : Kit "int" "tuple" false := ⟨by decide +kernel⟩
instance kit_int_dict : Kit "int" "dict" false := ⟨by decide +kernel⟩
instance kit_str_bool : Kit "str" "bool" false := ⟨by decide +kernel⟩
instance kit_str_int : Kit "str" "int" false := ⟨by decide +kernel⟩
instance kit_str_str : Kit "str" "str" true := ⟨by decide +kernel⟩
instance kit_str_list : Kit "str" "list" false := ⟨by decide +kernel⟩
instance kit_str_tuple : Kit "str" "tuple" false := ⟨by decide +kernel⟩
instance kit_str_dict : Kit "str" "dict" false := ⟨by decide +kernel⟩
instance kit_list_bool : Kit "list" "bool" false := ⟨by decide +kernel⟩
instance kit_list_int : Kit "list" "int" false := ⟨by decide +kernel⟩
instance kit_list_str : Kit "list" "str" false := ⟨by decide +kernel⟩
instance kit_list_list : Kit "list" "list" true := ⟨by decide +kernel⟩
instance kit_list_tuple : Kit "list" "tuple" false := ⟨by decide +kernel⟩
instance kit_list_dict : Kit "list" "dict" false := ⟨by decide +kernel⟩
instance kit_tuple_bool : Kit "tuple" "bool" false := ⟨by decide +kernel⟩
instance kit_tuple_int : Kit "tuple" "int" false := ⟨by decide +kernel⟩
instance kit_tuple_str : Kit "tuple" "str" false := ⟨by decide +kernel⟩
instance kit_tuple_list : Kit "tuple" "list" false := ⟨by decide +kernel⟩
instance kit_tuple_tuple : Kit "tuple" "tuple" true := ⟨by decide +kernel⟩
instance kit_tuple_dict : Kit "tuple" "dict" false := ⟨by decide +kernel⟩
instance kit_dict_bool : Kit "dict" "bool" false := ⟨by decide +kernel⟩
instance kit_dict_int : Kit "dict" "int" false := ⟨by decide +kernel⟩
instance kit_dict_str : Kit "dict" "str" false := ⟨by decide +kernel⟩
instance kit_dict_list : Kit "dict" "list" false := ⟨by decide +kernel⟩
instance kit_dict_tuple : Kit "dict" "tuple" false := ⟨by decide +kernel⟩
instance kit_dict_dict : Kit "dict" "dict" true := ⟨by decide +kernel⟩
theorem isi1 {d : D} {n c : String} {b : Bool} (h1 : d.tyN = some n) (h2 : kitB n c = some b) : cIsiU [d, .ty c] = some (.bl b) := by
  simp only [cIsiU, cor, cIsi, h1, h2, Option.map_some]
theorem isi2 {d : D} {n c1 c2 : String} {b1 b2 : Bool} (h1 : d.tyN = some n) (h2 : kitB n c1 = some b1) (h3 : kitB n c2 = some b2) : cIsiU [d, .tup [.ty c1, .ty c2]] = some (.bl (b1 || b2)) := by
  simp [cIsiU, cor, cIsi, cIsiT, h1, kitBs, h2, h3, tys]
  cases b1 <;> cases b2 <;> rfl
section
variable {Q : D → Prop} {d : D} {n c c2 : String} {b b2 : Bool}
instance q_isi1 [t : TyN d n] [k : Kit n c b] : St (W1 (cIsiU [d, .ty c]) Q) (Q (.bl b)) := ⟨fun q => ⟨_, isi1 t.eq k.eq, q⟩⟩
instance q_isi2t [t : TyN d n] [k : Kit n c b] [k2 : Kit n c2 b2] : St (W1 (cIsiU [d, .tup [.ty c, .ty c2]]) Q) (Q (.bl (b || b2))) := ⟨fun q => ⟨_, isi2 t.eq k.eq k2.eq, q⟩⟩
end
/-! ### ranges -/
section
variable {i j : Int} {m n : Nat} {R : List D → Prop}
instance q_rangeN [a : NatI j n] : St (W1 (rangeD [.int j]) R) (WP (n < 2 ^ 62) (R ((List.range n).map nD))) := ⟨fun ⟨h, q⟩ => q_range (by rw [a.eq]; omega) (by rw [a.eq]; omega) (by
  rw [a.eq, Int.toNat_natCast]
  have e : upTo 0 n = (List.range n).map nD := by simp [upTo]
  rw [e]; exact q)⟩
instance (priority := low) q_rangeI : St (W1 (rangeD [.int j]) R) (WP (-(2 ^ 62) ≤ j ∧ j < 2 ^ 62) (R ((List.range j.toNat).map nD))) := ⟨fun ⟨h, q⟩ => q_range h.1 h.2 (by
  have e : upTo 0 j.toNat = (List.range j.toNat).map nD := by simp [upTo]
  rw [e]; exact q)⟩
instance q_range2N [a : NatI i m] [b : NatI j n] : St (W1 (rangeD2 [.int i, .int j]) R) (WP (m < 2 ^ 62 ∧ n < 2 ^ 62) (R ((List.range' m (n - m)).map nD))) := ⟨fun ⟨h, q⟩ => q_range2 (by rw [a.eq]; omega) (by rw [a.eq]; omega) (by rw [b.eq]; omega) (by rw [b.eq]; omega) (by
  have e : upTo i (j - i).toNat = (List.range' m (n - m)).map nD := by
    rw [a.eq, b.eq, show ((n : Int) - m).toNat = n - m by omega, List.range'_eq_map_range]
    simp [upTo, Function.comp_def]
  rw [e]; exact q)⟩
/-- n - 1, .., 0 -/
def downN : Nat → List Nat
  | 0 => []
  | n + 1 => n :: downN n
theorem downN_mem : ∀ {n k : Nat}, k ∈ downN n ↔ k < n
  | 0, k => by simp [downN]
  | n + 1, k => by
    simp only [downN, List.mem_cons, downN_mem (n := n)]
    omega
theorem downBy_N : ∀ n : Nat, downBy ((n : Int) - 1) n = (downN n).map nD
  | 0 => rfl
  | n + 1 => by
    have ih := downBy_N n
    simp only [downBy] at ih ⊢
    rw [List.range_succ_eq_map, List.map_cons, List.map_map, downN, List.map_cons, ← ih]
    congr 1
    · congr 1; omega
    · apply List.map_congr_left
      intro i _
      simp only [Function.comp_apply, D.int.injEq]
      omega
instance (priority := high) q_down : St (W1 (rangeD3 [.int ((n : Int) - ((1 : Nat) : Int)), .int (-((1 : Nat) : Int)), .int (-((1 : Nat) : Int))]) R) (WP (n < 2 ^ 62) (R ((downN n).map nD))) := ⟨fun ⟨h, q⟩ => q_range3 (by omega) (by omega) (by decide) (by decide) (by
  show R (downBy ((n : Int) - 1) ((n : Int) - 1 - -1).toNat)
  rw [show ((n : Int) - 1 - -1).toNat = n by omega, downBy_N]; exact q)⟩
end
/-! ### loops -/
section
variable {ι α : Type} {g : MG} {mb : MS} {Q : Out → Prop} {ρ : Env}
/-- a loop over things: by an invariant of what is left and a state; E puts the state into its slots -/
theorem fl (e : ι → D) (E : Env → α → Env) (Inv : List ι → α → Prop) (its : List ι) (a0 : α) (h0 : E ρ a0 = ρ) (hi : Inv its a0)
    (step : ∀ x r a, Inv (x :: r) a → WUp (E ρ a) fun ρ0 => WG g (e x).pure (e x) ρ0 fun ρ1 => WS mb ρ1 (WLp (fun ρ2 => ∃ a', ρ2 = E ρ a' ∧ Inv r a') Q))
    (fin : ∀ a, Inv [] a → WUp (E ρ a) fun ρ0 => Q (.nx ρ0)) : WS (fLoop g mb (its.map e)) ρ Q := by
  refine fLoop_inv (fun ds ρ' => ∃ r a, ds = r.map e ∧ ρ' = E ρ a ∧ Inv r a) _ _ ⟨its, a0, rfl, h0.symm, hi⟩ ?_ ?_
  · rintro d r _ ⟨r', a, hr, rfl, hv⟩
    cases r' with
    | nil => cases hr
    | cons x r' =>
      cases hr
      obtain ⟨ρ1, e1, o, e2, q⟩ := step x r' a hv
      refine ⟨ρ1, e1, o, e2, ?_⟩
      cases o with
      | nx ρ2 => obtain ⟨a', h1, h2⟩ := q; exact ⟨r', a', rfl, h1, h2⟩
      | ct ρ2 => obtain ⟨a', h1, h2⟩ := q; exact ⟨r', a', rfl, h1, h2⟩
      | bk ρ2 => exact q
      | rt d ρ2 => exact q
  · rintro _ ⟨r', a, hr, rfl, hv⟩
    cases r' with
    | nil => exact fin a hv
    | cons x r' => cases hr
/-- .. by what is done so far -/
theorem flp (e : ι → D) (E : Env → α → Env) (Inv : List ι → α → Prop) (its : List ι) (a0 : α) (h0 : E ρ a0 = ρ) (hi : Inv [] a0)
    (step : ∀ x l r a, its = l ++ x :: r → Inv l a → WUp (E ρ a) fun ρ0 => WG g (e x).pure (e x) ρ0 fun ρ1 => WS mb ρ1 (WLp (fun ρ2 => ∃ a', ρ2 = E ρ a' ∧ Inv (l ++ [x]) a') Q))
    (fin : ∀ a, Inv its a → WUp (E ρ a) fun ρ0 => Q (.nx ρ0)) : WS (fLoop g mb (its.map e)) ρ Q := by
  refine fl e E (fun r a => ∃ l, its = l ++ r ∧ Inv l a) its a0 h0 ⟨[], rfl, hi⟩ ?_ ?_
  · rintro x r a ⟨l, hl, hv⟩
    obtain ⟨ρ1, e1, o, e2, q⟩ := step x l r a hl hv
    refine ⟨ρ1, e1, o, e2, ?_⟩
    cases o with
    | nx ρ2 => obtain ⟨a', h1, h2⟩ := q; exact ⟨a', h1, l ++ [x], by rw [hl]; simp, h2⟩
    | ct ρ2 => obtain ⟨a', h1, h2⟩ := q; exact ⟨a', h1, l ++ [x], by rw [hl]; simp, h2⟩
    | bk ρ2 => exact q
    | rt d ρ2 => exact q
  · rintro a ⟨l, hl, hv⟩
    rw [List.append_nil] at hl
    subst hl
    exact fin a hv
/-- .. 0, 1, .. -/
theorem flr (n : Nat) (E : Env → α → Env) (Inv : Nat → α → Prop) (a0 : α) (h0 : E ρ a0 = ρ) (hi : Inv 0 a0)
    (step : ∀ k a, k < n → Inv k a → WUp (E ρ a) fun ρ0 => WG g true (nD k) ρ0 fun ρ1 => WS mb ρ1 (WLp (fun ρ2 => ∃ a', ρ2 = E ρ a' ∧ Inv (k + 1) a') Q))
    (fin : ∀ a, Inv n a → WUp (E ρ a) fun ρ0 => Q (.nx ρ0)) : WS (fLoop g mb ((List.range n).map nD)) ρ Q := by
  refine flp nD E (fun l a => Inv l.length a) (List.range n) a0 h0 hi ?_ ?_
  · intro x l r a hl hv
    have hx : x = l.length ∧ l.length < n := by
      have e : (List.range n)[l.length]? = some x := by rw [hl]; simp
      have := (List.getElem?_eq_some_iff.mp e)
      obtain ⟨h1, h2⟩ := this
      simp at h1 h2
      exact ⟨h2.symm, h1⟩
    obtain ⟨rfl, hn⟩ := hx
    have := step l.length a hn hv
    rw [show (l ++ [l.length]).length = l.length + 1 by simp]
    exact this
  · intro a hv
    exact fin a (by simpa using hv)
/-- .. n - 1, .., 0 -/
theorem fld (n : Nat) (E : Env → α → Env) (Inv : Nat → α → Prop) (a0 : α) (h0 : E ρ a0 = ρ) (hi : Inv n a0)
    (step : ∀ k a, k < n → Inv (k + 1) a → WUp (E ρ a) fun ρ0 => WG g true (nD k) ρ0 fun ρ1 => WS mb ρ1 (WLp (fun ρ2 => ∃ a', ρ2 = E ρ a' ∧ Inv k a') Q))
    (fin : ∀ a, Inv 0 a → WUp (E ρ a) fun ρ0 => Q (.nx ρ0)) : WS (fLoop g mb ((downN n).map nD)) ρ Q := by
  refine fl nD E (fun r a => ∃ k, k ≤ n ∧ r = downN k ∧ Inv k a) (downN n) a0 h0 ⟨n, Nat.le_refl _, rfl, hi⟩ ?_ ?_
  · rintro x r a ⟨k, hk, hr, hv⟩
    cases k with
    | zero => cases hr
    | succ k =>
      obtain ⟨rfl, rfl⟩ : x = k ∧ r = downN k := by
        simp only [downN, List.cons.injEq] at hr
        exact hr
      obtain ⟨ρ1, e1, o, e2, q⟩ := step x a (by omega) hv
      refine ⟨ρ1, e1, o, e2, ?_⟩
      cases o with
      | nx ρ2 => obtain ⟨a', h1, h2⟩ := q; exact ⟨a', h1, x, by omega, rfl, h2⟩
      | ct ρ2 => obtain ⟨a', h1, h2⟩ := q; exact ⟨a', h1, x, by omega, rfl, h2⟩
      | bk ρ2 => exact q
      | rt d ρ2 => exact q
  · rintro a ⟨k, hk, hr, hv⟩
    cases k with
    | zero => exact fin a hv
    | succ k => cases hr
/-- while -/
theorem wl {mt : MT} (n : Nat) (E : Env → α → Env) (Inv : α → Prop) (mes : α → Nat) (a0 : α) (h0 : E ρ a0 = ρ) (hi : Inv a0) (hn : mes a0 < n)
    (step : ∀ a, Inv a → WUp (E ρ a) fun ρ0 => WT mt ρ0 fun b ρ1 => WIf b (WS mb ρ1 (WLp (fun ρ2 => ∃ a', ρ2 = E ρ a' ∧ Inv a' ∧ mes a' < mes a) Q)) (Q (.nx ρ1))) : WS (mWhile n mt mb) ρ Q := by
  have go : ∀ (n : Nat) (a : α), Inv a → mes a < n → WS (wLoop mt mb n) (E ρ a) Q := by
    intro n
    induction n with
    | zero => intro a _ h; omega
    | succ n ih =>
      intro a hv hm
      obtain ⟨b, ρ1, e1, q⟩ := step a hv
      cases b with
      | false => exact ⟨_, by simp only [wLoop, e1], q.2 rfl⟩
      | true =>
        obtain ⟨o, e2, q⟩ := q.1 rfl
        cases o with
        | nx ρ2 =>
          obtain ⟨a', rfl, h1, h2⟩ := q
          obtain ⟨o, e3, q⟩ := ih a' h1 (by omega)
          exact ⟨o, by simp only [wLoop, e1, e2, e3], q⟩
        | ct ρ2 =>
          obtain ⟨a', rfl, h1, h2⟩ := q
          obtain ⟨o, e3, q⟩ := ih a' h1 (by omega)
          exact ⟨o, by simp only [wLoop, e1, e2, e3], q⟩
        | bk ρ2 => exact ⟨_, by simp only [wLoop, e1, e2], q⟩
        | rt d ρ2 => exact ⟨_, by simp only [wLoop, e1, e2], q⟩
  have := go n a0 hi hn
  rw [h0] at this
  exact this
/-- what follows a branching, once for all ways -/
def WJn (E : Env → α → Env) (ρ : Env) (P : α → Prop) (R : Out → Prop) : Out → Prop
  | .nx ρ1 => ∃ a, ρ1 = E ρ a ∧ P a
  | o => R o
instance jn_nx {E : Env → α → Env} {ρ ρ1 : Env} {P : α → Prop} {R : Out → Prop} : St (WJn E ρ P R (.nx ρ1)) (∃ a, ρ1 = E ρ a ∧ P a) := ⟨fun h => h⟩
instance jn_rt {E : Env → α → Env} {ρ ρ1 : Env} {P : α → Prop} {R : Out → Prop} {d : D} : St (WJn E ρ P R (.rt d ρ1)) (R (.rt d ρ1)) := ⟨fun h => h⟩
instance jn_bk {E : Env → α → Env} {ρ ρ1 : Env} {P : α → Prop} {R : Out → Prop} : St (WJn E ρ P R (.bk ρ1)) (R (.bk ρ1)) := ⟨fun h => h⟩
instance jn_ct {E : Env → α → Env} {ρ ρ1 : Env} {P : α → Prop} {R : Out → Prop} : St (WJn E ρ P R (.ct ρ1)) (R (.ct ρ1)) := ⟨fun h => h⟩
theorem jn {m b : MS} (E : Env → α → Env) (P : α → Prop) (h1 : WS m ρ (WJn E ρ P (WSq b Q))) (h2 : ∀ a, P a → WUp (E ρ a) fun ρ1 => WS b ρ1 Q) : WS m ρ (WSq b Q) := by
  obtain ⟨o, e, q⟩ := h1
  refine ⟨o, e, ?_⟩
  cases o with
  | nx ρ1 => obtain ⟨a, rfl, hp⟩ := q; exact h2 a hp
  | bk ρ1 => exact q
  | ct ρ1 => exact q
  | rt d ρ1 => exact q
theorem jif {m1 m2 b : MS} {p : Prop} {inst : Decidable p} (E : Env → α → Env) (P : α → Prop) (h1 : p → WS m1 ρ (WJn E ρ P (WSq b Q))) (h2 : ¬ p → WS m2 ρ (WJn E ρ P (WSq b Q))) (h3 : ∀ a, P a → WUp (E ρ a) fun ρ1 => WS b ρ1 Q) : WIf (decide p) (WS m1 ρ (WSq b Q)) (WS m2 ρ (WSq b Q)) :=
  wif_d (fun h => jn E P (h1 h) h3) (fun h => jn E P (h2 h) h3)
theorem jifn {m1 m2 b : MS} {p : Prop} {inst : Decidable p} (E : Env → α → Env) (P : α → Prop) (h1 : ¬ p → WS m1 ρ (WJn E ρ P (WSq b Q))) (h2 : p → WS m2 ρ (WJn E ρ P (WSq b Q))) (h3 : ∀ a, P a → WUp (E ρ a) fun ρ1 => WS b ρ1 Q) : WIf (!decide p) (WS m1 ρ (WSq b Q)) (WS m2 ρ (WSq b Q)) :=
  wif_nd (fun h => jn E P (h1 h) h3) (fun h => jn E P (h2 h) h3)
end
/-! ### comprehensions -/
section
variable {ι α : Type} {g : MG} {mt : MT} {me : M} {vs : List Nat} {ρ : Env} {Q : List D → Env → Prop}
/-- what stands around stays -/
theorem cfmG {e f : ι → D} (c : ι → Bool) (ps : List ι) (as : List D) (hl : ps.length + as.length ≤ 1000000)
    (h : ∀ p ∈ ps, WG g (e p).pure (e p) ρ fun ρ1 => WT mt ρ1 fun b ρ2 => WP (b = c p) (WIf b (WE me ρ2 fun o ρ3 => WTm o fun u a => WP (u = true) <| WP (a = f p) <| WP (canWipe ρ3 vs = true) <| WUp (wipe0 ρ3 vs) fun ρ4 => ρ4 = ρ) (WP (canWipe ρ2 vs = true) <| WUp (wipe0 ρ2 vs) fun ρ4 => ρ4 = ρ)))
    (q : Q (as ++ (ps.filter c).map f) ρ) : WC g mt me vs (ps.map e) as ρ Q := by
  induction ps generalizing as with
  | nil => exact w_cl_nil (by simpa using q)
  | cons p ps ih =>
    rw [List.map_cons]
    simp only [List.length_cons] at hl
    obtain ⟨ρ1, e1, b, ρ2, e2, hb, hif⟩ := h p List.mem_cons_self
    refine w_cl_cons ⟨ρ1, e1, b, ρ2, e2, fun z => ?_, fun z => ?_⟩
    · obtain ⟨o, ρ3, e3, ht⟩ := hif.1 z
      refine ⟨o, ρ3, e3, ?_⟩
      cases o with
      | sl i => exact ht
      | tm u a =>
        obtain ⟨hu, ha, hc, hw⟩ := ht
        refine ⟨hu, hc, by omega, ?_⟩
        show WC g mt me vs (ps.map e) (as ++ [a]) (wipe0 ρ3 vs) Q
        rw [show wipe0 ρ3 vs = ρ from hw]
        refine ih _ (by simp; omega) (fun p' hp' => h p' (List.mem_cons_of_mem _ hp')) ?_
        rw [List.filter_cons_of_pos (by rw [← hb]; exact z), List.map_cons] at q
        rw [ha, List.append_assoc]
        exact q
    · obtain ⟨hc, hw⟩ := hif.2 z
      refine ⟨hc, ?_⟩
      show WC g mt me vs (ps.map e) as (wipe0 ρ2 vs) Q
      rw [show wipe0 ρ2 vs = ρ from hw]
      refine ih _ (by omega) (fun p' hp' => h p' (List.mem_cons_of_mem _ hp')) ?_
      rw [List.filter_cons_of_neg (by rw [← hb, z]; decide)] at q
      exact q
theorem cfm {e f : ι → D} (c : ι → Bool) (ps : List ι) (hl : ps.length ≤ 1000000)
    (h : ∀ p ∈ ps, WG g (e p).pure (e p) ρ fun ρ1 => WT mt ρ1 fun b ρ2 => WP (b = c p) (WIf b (WE me ρ2 fun o ρ3 => WTm o fun u a => WP (u = true) <| WP (a = f p) <| WP (canWipe ρ3 vs = true) <| WUp (wipe0 ρ3 vs) fun ρ4 => ρ4 = ρ) (WP (canWipe ρ2 vs = true) <| WUp (wipe0 ρ2 vs) fun ρ4 => ρ4 = ρ)))
    (q : Q ((ps.filter c).map f) ρ) : WC g mt me vs (ps.map e) [] ρ Q := cfmG c ps [] (by simpa using hl) h (by simpa using q)
theorem cmap {e f : ι → D} (ps : List ι) (hl : ps.length ≤ 1000000)
    (h : ∀ p ∈ ps, WG g (e p).pure (e p) ρ fun ρ1 => WE me ρ1 fun o ρ3 => WTm o fun u a => WP (u = true) <| WP (a = f p) <| WP (canWipe ρ3 vs = true) <| WUp (wipe0 ρ3 vs) fun ρ4 => ρ4 = ρ)
    (q : Q (ps.map f) ρ) : WC g mYes me vs (ps.map e) [] ρ Q := by
  refine cfm (f := f) (fun _ => true) ps hl (fun p hp => ?_) (by rw [List.filter_eq_self.mpr (fun _ _ => rfl)]; exact q)
  obtain ⟨ρ1, e1, hh⟩ := h p hp
  exact ⟨ρ1, e1, true, ρ1, rfl, rfl, fun _ => hh, (fun z => nomatch z)⟩
/-- .. as things of a kind -/
theorem cmapN {κ : Type} {e : ι → D} (k : κ → D) (f : ι → κ) (ps : List ι) (hl : ps.length ≤ 1000000)
    (h : ∀ p ∈ ps, WG g (e p).pure (e p) ρ fun ρ1 => WE me ρ1 fun o ρ3 => WTm o fun u a => WP (u = true) <| WP (a = k (f p)) <| WP (canWipe ρ3 vs = true) <| WUp (wipe0 ρ3 vs) fun ρ4 => ρ4 = ρ)
    (q : Q ((ps.map f).map k) ρ) : WC g mYes me vs (ps.map e) [] ρ Q := cmap (f := fun p => k (f p)) ps hl h (by rw [List.map_map] at q; exact q)
theorem cfmN {κ : Type} {e : ι → D} (k : κ → D) (f : ι → κ) (c : ι → Bool) (ps : List ι) (hl : ps.length ≤ 1000000)
    (h : ∀ p ∈ ps, WG g (e p).pure (e p) ρ fun ρ1 => WT mt ρ1 fun b ρ2 => WP (b = c p) (WIf b (WE me ρ2 fun o ρ3 => WTm o fun u a => WP (u = true) <| WP (a = k (f p)) <| WP (canWipe ρ3 vs = true) <| WUp (wipe0 ρ3 vs) fun ρ4 => ρ4 = ρ) (WP (canWipe ρ2 vs = true) <| WUp (wipe0 ρ2 vs) fun ρ4 => ρ4 = ρ)))
    (q : Q (((ps.filter c).map f).map k) ρ) : WC g mt me vs (ps.map e) [] ρ Q := cfm (f := fun p => k (f p)) c ps hl h (by rw [List.map_map] at q; exact q)
/-- a state that changes -/
theorem cst {e : ι → D} (E : Env → α → Env) (Inv : List ι → List D → α → Prop) (its : List ι) (a0 : α) (h0 : E ρ a0 = ρ) (hi : Inv its [] a0)
    (step : ∀ x r as a, Inv (x :: r) as a → WUp (E ρ a) fun ρ0 => WG g (e x).pure (e x) ρ0 fun ρ1 => WT mt ρ1 fun b ρ2 => WIf b (WE me ρ2 fun o ρ3 => WTm o fun u d => WP (u = true) <| WP (canWipe ρ3 vs = true) <| WP (as.length < 1000000) <| WUp (wipe0 ρ3 vs) fun ρ4 => ∃ a', ρ4 = E ρ a' ∧ Inv r (as ++ [d]) a') (WP (canWipe ρ2 vs = true) <| WUp (wipe0 ρ2 vs) fun ρ4 => ∃ a', ρ4 = E ρ a' ∧ Inv r as a'))
    (fin : ∀ as a, Inv [] as a → WUp (E ρ a) fun ρ0 => Q as ρ0) : WC g mt me vs (its.map e) [] ρ Q := by
  refine w_cl_inv (fun ds as ρ' => ∃ r a, ds = r.map e ∧ ρ' = E ρ a ∧ Inv r as a) _ _ _ ⟨its, a0, rfl, h0.symm, hi⟩ ?_ ?_
  · rintro d r as _ ⟨r', a, hr, rfl, hv⟩
    cases r' with
    | nil => cases hr
    | cons x r' =>
      cases hr
      obtain ⟨ρ1, e1, b, ρ2, e2, q⟩ := step x r' as a hv
      refine ⟨ρ1, e1, b, ρ2, e2, fun z => ?_, fun z => ?_⟩
      · obtain ⟨o, ρ3, e3, q⟩ := q.1 z
        refine ⟨o, ρ3, e3, ?_⟩
        cases o with
        | sl i => exact q
        | tm u d =>
          obtain ⟨h1, h2, h3, a', h4, h5⟩ := q
          exact ⟨h1, h2, h3, r', a', rfl, h4, h5⟩
      · obtain ⟨h2, a', h4, h5⟩ := q.2 z
        exact ⟨h2, r', a', rfl, h4, h5⟩
  · rintro as _ ⟨r', a, hr, rfl, hv⟩
    cases r' with
    | nil => exact fin as a hv
    | cons x r' => cases hr
class Snoc (as : List D) (a : D) (as' : outParam (List D)) : Prop where
  eq : as ++ [a] = as'
instance sn_0 {a : D} : Snoc [] a [a] := ⟨rfl⟩
instance sn_s {x a : D} {as as' : List D} [h : Snoc as a as'] : Snoc (x :: as) a (x :: as') := ⟨by rw [List.cons_append, h.eq]⟩
instance (priority := high) c_snoc {ds as as' : List D} {a : D} [h : Snoc as a as'] : St (WC g mt me vs ds (as ++ [a]) ρ Q) (WC g mt me vs ds as' ρ Q) := ⟨fun q => by rw [h.eq]; exact q⟩
instance c_nil {as : List D} : St (WC g mt me vs [] as ρ Q) (Q as ρ) := ⟨w_cl_nil⟩
end
end U.P

/-! W4: rows: walked with places, cut, compared. -/
namespace U.P
open PySem L2 U
/-! ### places with things -/
abbrev eD {α : Type} (f : α → D) (p : α × Nat) : D := .tup [nD p.2, f p.1]
class Enm (ds : List D) (es : outParam (List D)) : Prop where
  eq : enumD ds = es
instance en_m {α : Type} {f : α → D} {xs : List α} : Enm (xs.map f) (xs.zipIdx.map (eD f)) := ⟨by
  simp only [enumD, List.zipIdx_map, List.map_map, Function.comp_def, Prod.map]
  rfl⟩
instance (priority := low) en_d {ds : List D} : Enm ds (enumD ds) := ⟨rfl⟩
instance wen {ds es : List D} {Q : List D → Prop} [h : Enm ds es] : St (WEn ds Q) (Q es) := ⟨fun q => by unfold WEn; rw [h.eq]; exact q⟩
class Zpm (xs ys : List D) (zs : outParam (List D)) : Prop where
  eq : zipD xs ys = zs
theorem zipD_map {α β : Type} {f : α → D} {g : β → D} : ∀ (xs : List α) (ys : List β), zipD (xs.map f) (ys.map g) = (xs.zip ys).map (pD f g)
  | [], ys => by simp [zipD]
  | x :: xs, [] => by simp [zipD]
  | x :: xs, y :: ys => by
    have := zipD_map (f := f) (g := g) xs ys
    simp only [zipD, List.map_cons, List.zipWith_cons_cons, List.zip_cons_cons] at this ⊢
    rw [this]
instance zp_m {α β : Type} {f : α → D} {g : β → D} {xs : List α} {ys : List β} : Zpm (xs.map f) (ys.map g) ((xs.zip ys).map (pD f g)) := ⟨zipD_map xs ys⟩
instance (priority := low) zp_d {xs ys : List D} : Zpm xs ys (zipD xs ys) := ⟨rfl⟩
instance wzp {xs ys zs : List D} {Q : List D → Prop} [h : Zpm xs ys zs] : St (WZp xs ys Q) (Q zs) := ⟨fun q => by unfold WZp; rw [h.eq]; exact q⟩
/-! ### parts -/
class Cut {α : Type} (xs : List α) (lo hi : Option Int) (ys : outParam (List α)) : Prop where
  eq : (xs.drop (HT.sIx xs.length 0 lo)).take (HT.sIx xs.length xs.length hi - HT.sIx xs.length 0 lo) = ys
section
variable {α : Type} {xs : List α} {i j : Int} {m n : Nat}
theorem dropMin (xs : List α) (n : Nat) : xs.drop (min n xs.length) = xs.drop n := by
  by_cases h : n ≤ xs.length
  · rw [Nat.min_eq_left h]
  · rw [Nat.min_eq_right (by omega), List.drop_eq_nil_of_le (by omega), List.drop_eq_nil_of_le (by omega)]
instance ct_to [a : NatI j n] : Cut xs none (some j) (xs.take n) := ⟨by
  rw [a.eq]
  simp only [HT.sIx_none, HT.sIx_nat, List.drop_zero, Nat.sub_zero]
  rw [← List.take_eq_take_min]⟩
instance ct_from [a : NatI i n] : Cut xs (some i) none (xs.drop n) := ⟨by
  rw [a.eq]
  simp only [HT.sIx_none, HT.sIx_nat]
  rw [List.take_of_length_le (by simp), dropMin]⟩
instance ct_both [a : NatI i m] [b : NatI j n] : Cut xs (some i) (some j) ((xs.take n).drop m) := ⟨by
  rw [a.eq, b.eq]
  simp only [HT.sIx_nat]
  rw [dropMin, List.drop_take]
  by_cases h : m ≤ xs.length
  · rw [Nat.min_eq_left h]
    by_cases h2 : n ≤ xs.length
    · rw [Nat.min_eq_left h2]
    · rw [Nat.min_eq_right (by omega), List.take_of_length_le (by simp), List.take_of_length_le (by simp; omega)]
  · rw [List.drop_eq_nil_of_le (by omega), List.take_nil, List.take_nil]⟩
instance ct_all : Cut xs none none xs := ⟨by
  simp only [HT.sIx_none, List.drop_zero, Nat.sub_zero, List.take_length]⟩
end
section
variable {α : Type} {f : α → D} {xs ys : List α} {lo hi : Option Int} {Q : D → Prop}
theorem cutD_map : cutD (xs.map f) lo hi = ((xs.drop (HT.sIx xs.length 0 lo)).take (HT.sIx xs.length xs.length hi - HT.sIx xs.length 0 lo)).map f := by
  simp only [cutD, List.length_map, List.map_drop, List.map_take]
instance q_slLm [p : PuF f] [c : Cut xs lo hi ys] : St (W1 (slD (.lst (xs.map f)) lo hi) Q) (Q (.lst (ys.map f))) := ⟨fun q => ⟨_, by simp only [slD, (pl_map (xs := xs) (f := f)).eq, cutD_map, c.eq], q⟩⟩
instance q_slFm [p : PuF f] [c : Cut xs lo hi ys] : St (W1 (slD (.fz (xs.map f)) lo hi) Q) (Q (.lst (ys.map f))) := ⟨fun q => ⟨_, by simp only [slD, (pl_map (xs := xs) (f := f)).eq, cutD_map, c.eq], q⟩⟩
instance q_slTm [p : PuF f] [c : Cut xs lo hi ys] : St (W1 (slD (.tup (xs.map f)) lo hi) Q) (Q (.tup (ys.map f))) := ⟨fun q => ⟨_, by simp only [slD, (pl_map (xs := xs) (f := f)).eq, cutD_map, c.eq], q⟩⟩
instance (priority := low) q_slT {ds es : List D} [p : PuL ds true] [c : Cut ds lo hi es] : St (W1 (slD (.tup ds) lo hi) Q) (Q (.tup es)) := ⟨fun q => ⟨_, by simp only [slD, p.eq, cutD, c.eq], q⟩⟩
instance (priority := low) q_slL0 {ds es : List D} [p : PuL ds true] [c : Cut ds lo hi es] : St (W1 (slD (.lst ds) lo hi) Q) (Q (.lst es)) := ⟨fun q => ⟨_, by simp only [slD, p.eq, cutD, c.eq], q⟩⟩
instance q_revL [p : PuF f] : St (W1 (dRev (.lst (xs.map f))) Q) (Q (.lst (xs.reverse.map f))) := ⟨fun q => ⟨_, by simp only [dRev, (pl_map (xs := xs) (f := f)).eq, List.map_reverse], q⟩⟩
end
/-! ### n times -/
theorem rep_map {α : Type} {f : α → D} (x : α) (n : Nat) : (List.replicate n [f x]).flatten = (List.replicate n x).map f := by
  induction n with
  | zero => rfl
  | succ n ih => rw [List.replicate_succ, List.flatten_cons, ih, List.replicate_succ]; rfl
instance q_repN {i : Int} {k : Int} {n : Nat} {Q : D → Prop} [a : NatI k n] : St (W1 (dMul (.lst [.int i]) (.int k)) Q) (WP (n ≤ 1000000) (Q (.lst ((List.replicate n i).map iD)))) := ⟨fun ⟨h, q⟩ => by
  refine ⟨_, ?_, q⟩
  have e1 : decide (-(2 ^ 63) ≤ k) = true := decide_eq_true (by rw [a.eq]; omega)
  have e2 : decide (k < 2 ^ 63) = true := decide_eq_true (by rw [a.eq]; omega)
  have e3 : fullLen ([D.int i].length * k.toNat) = true := decide_eq_true (by rw [a.eq]; simp only [List.length_cons, List.length_nil, Int.toNat_natCast]; omega)
  have e4 : D.pureL [D.int i] = true := rfl
  have e5 : (List.replicate k.toNat [D.int i]).flatten = (List.replicate n i).map iD := by rw [a.eq, Int.toNat_natCast]; exact rep_map (f := iD) i n
  simp only [dMul, d2or, i2c, dRepL, e1, e2, e3, e4, Bool.and_self, e5]⟩
/-! ### == of data of a kind -/
/-- things of a kind that == tells apart as = does -/
class EqF {α : Type} [DecidableEq α] (f : α → D) (k : outParam Nat) : Prop where
  ok : ∀ x, (f x).ok = true
  lay : ∀ x, PyData.canLay0 (f x).py = true
  dep : ∀ x, PyData.depth (f x).py ≤ k
  eqv : ∀ x y, PyData.eqv (f x).py (f y).py = decide (x = y)
instance ef_n : EqF nD 0 := ⟨fun _ => rfl, fun _ => rfl, fun _ => Nat.le_refl _, fun x y => by
  simp only [D.py, PyData.eqv]
  by_cases h : x = y
  · simp [h]
  · simp [h]; omega⟩
instance ef_i : EqF iD 0 := ⟨fun _ => rfl, fun _ => rfl, fun _ => Nat.le_refl _, fun x y => by
  simp only [D.py, PyData.eqv]
  by_cases h : x = y
  · simp [h]
  · simp [h]⟩
section
variable {α : Type} [DecidableEq α] {f : α → D} {k : Nat}
theorem ef_oks (h : EqF f k) : ∀ xs : List α, D.oks (xs.map f) = true
  | [] => rfl
  | x :: xs => by rw [List.map_cons, D.oks, h.ok, ef_oks h xs]; rfl
theorem ef_lays (h : EqF f k) : ∀ xs : List α, PyData.canLayAll0 (D.pys (xs.map f)) = true
  | [] => by simp [D.pys, PyData.canLayAll0]
  | x :: xs => by
    rw [List.map_cons, D.pys, PyData.canLayAll0, h.lay, ef_lays h xs]; rfl
theorem ef_deps (h : EqF f k) : ∀ xs : List α, PyData.depthAll (D.pys (xs.map f)) ≤ k
  | [] => by simp [D.pys, PyData.depthAll]
  | x :: xs => by
    rw [List.map_cons, D.pys, PyData.depthAll]
    have h1 := h.dep x
    have h2 := ef_deps h xs
    omega
theorem ef_eqvs (h : EqF f k) : ∀ xs ys : List α, PyData.eqvAll (D.pys (xs.map f)) (D.pys (ys.map f)) = decide (xs = ys)
  | [], [] => by simp [D.pys, PyData.eqvAll]
  | x :: xs, [] => by simp [D.pys, PyData.eqvAll]
  | [], y :: ys => by simp [D.pys, PyData.eqvAll]
  | x :: xs, y :: ys => by
    rw [List.map_cons, List.map_cons, D.pys, D.pys, PyData.eqvAll, h.eqv, ef_eqvs h xs ys]
    by_cases h1 : x = y <;> by_cases h2 : xs = ys <;> simp [h1, h2]
instance ef_l [h : EqF f k] : EqF (lD f) (k + 1) := ⟨fun xs => by rw [D.ok]; exact ef_oks h xs, fun xs => by rw [D.py, PyData.canLay0]; exact ef_lays h xs, fun xs => by
  rw [D.py, PyData.depth]; have := ef_deps h xs; omega, fun xs ys => by rw [D.py, D.py, PyData.eqv]; exact ef_eqvs h xs ys⟩
instance ef_t [h : EqF f k] : EqF (tD f) (k + 1) := ⟨fun xs => by rw [D.ok]; exact ef_oks h xs, fun xs => by rw [D.py, PyData.canLay0]; exact ef_lays h xs, fun xs => by
  rw [D.py, PyData.depth]; have := ef_deps h xs; omega, fun xs ys => by rw [D.py, D.py, PyData.eqv]; exact ef_eqvs h xs ys⟩
theorem ef_shaped (h : EqF f k) (hk : k < 60) (x : α) : SeqAt.shaped (f x).py = true := by
  have := h.dep x
  simp only [SeqAt.shaped, h.lay, Bool.true_and]
  exact decide_eq_true (by omega)
theorem ef_eqD (h : EqF f k) (hk : k < 60) (x y : α) : eqD (f x) (f y) = some (decide (x = y)) := by
  simp only [eqD, h.ok, ef_shaped h hk, Bool.and_self, h.eqv]
variable {Q : D → Prop} {xs ys : List α}
instance q_eqLm [h : EqF f k] : St (W1 (dEq (.lst (xs.map f)) (.lst (ys.map f))) Q) (WP (k < 59) (Q (.bl (decide (xs = ys))))) := ⟨fun ⟨hk, q⟩ => ⟨_, by
  have := ef_eqD (f := lD f) inferInstance (show k + 1 < 60 by omega) xs ys
  simp only [dEq, this, Option.map_some], q⟩⟩
instance q_neLm [h : EqF f k] : St (W1 (dNe (.lst (xs.map f)) (.lst (ys.map f))) Q) (WP (k < 59) (Q (.bl (!decide (xs = ys))))) := ⟨fun ⟨hk, q⟩ => ⟨_, by
  have := ef_eqD (f := lD f) inferInstance (show k + 1 < 60 by omega) xs ys
  simp only [dNe, this, Option.map_some], q⟩⟩
instance q_eqL0 [h : EqF f k] : St (W1 (dEq (.lst (xs.map f)) (.lst [])) Q) (WP (k < 59) (Q (.bl (decide (xs = []))))) := ⟨fun ⟨hk, q⟩ => ⟨_, by
  have := ef_eqD (f := lD f) inferInstance (show k + 1 < 60 by omega) xs []
  simp only [dEq]
  rw [show (D.lst []) = lD f [] from rfl, this]; rfl, q⟩⟩
instance q_neL0 [h : EqF f k] : St (W1 (dNe (.lst (xs.map f)) (.lst [])) Q) (WP (k < 59) (Q (.bl (!decide (xs = []))))) := ⟨fun ⟨hk, q⟩ => ⟨_, by
  have := ef_eqD (f := lD f) inferInstance (show k + 1 < 60 by omega) xs []
  simp only [dNe]
  rw [show (D.lst []) = lD f [] from rfl, this]; rfl, q⟩⟩
end
/-! ### all, any -/
section
variable {Q : D → Prop}
theorem blsOf_map : ∀ bs : List Bool, blsOf (bs.map D.bl) = some bs
  | [] => rfl
  | b :: bs => by simp [blsOf, blsOf_map bs]
abbrev bD (b : Bool) : D := .bl b
instance q_allM {α : Type} {xs : List α} {f : α → Bool} : St (W1 (cAll [.lst (xs.map fun x => D.bl (f x))]) Q) (Q (.bl (xs.all f))) := ⟨fun q => ⟨_, by
  have e : (xs.map fun x => D.bl (f x)) = (xs.map f).map D.bl := by rw [List.map_map]; rfl
  simp only [cAll]
  rw [e, blsOf_map, Option.map_some, List.all_map]; rfl, q⟩⟩
instance q_anyM {α : Type} {xs : List α} {f : α → Bool} : St (W1 (cAny [.lst (xs.map fun x => D.bl (f x))]) Q) (Q (.bl (xs.any f))) := ⟨fun q => ⟨_, by
  have e : (xs.map fun x => D.bl (f x)) = (xs.map f).map D.bl := by rw [List.map_map]; rfl
  simp only [cAny]
  rw [e, blsOf_map, Option.map_some, List.any_map]; rfl, q⟩⟩
end
end U.P

/-! W5: what laws share. -/
namespace U.P
open PySem L2 U
/-- a box of the law's: N bounds how often it was drawn from -/
def Box (N : Nat) (d : D) : Prop := ∃ a b c : Nat, d = .lst [.int a, .int b, .int c] ∧ b < 2147483647 ∧ c ≤ N
theorem Box.up {N M : Nat} {d : D} (h : Box N d) (l : N ≤ M) : Box M d := by
  obtain ⟨a, b, c, e, h1, h2⟩ := h
  exact ⟨a, b, c, e, h1, by omega⟩
section
variable {Q : D → Prop} {i : Int} {m : Nat} {b : Bool}
instance (priority := high) q_mulBr [a : NatI i m] : St (W1 (dMul (.int i) (.int ((b.toNat : Nat) : Int))) Q) (Q (.int ((m * b.toNat : Nat) : Int))) := ⟨fun h => (q_mulN (m := m) (n := b.toNat)).pf ⟨.inr (by have := Bool.toNat_lt b; omega), h⟩⟩
instance (priority := high) q_mulBl [a : NatI i m] : St (W1 (dMul (.int ((b.toNat : Nat) : Int)) (.int i)) Q) (Q (.int ((b.toNat * m : Nat) : Int))) := ⟨fun h => (q_mulN (m := b.toNat) (n := m)).pf ⟨.inl (by have := Bool.toNat_lt b; omega), h⟩⟩
end
/-- rows of numbers of so many bits -/
def Bd (w : Nat) (xs : List Nat) : Prop := ∀ x ∈ xs, x < 2 ^ w
theorem Bd.nil {w : Nat} : Bd w [] := fun _ h => nomatch h
theorem Bd.snoc {w x : Nat} {xs : List Nat} (h : Bd w xs) (h1 : x < 2 ^ w) : Bd w (xs ++ [x]) := by
  intro y hy
  rcases List.mem_append.mp hy with hy | hy
  · exact h y hy
  · rw [List.mem_singleton.mp hy]; exact h1
theorem Bd.set {w x : Nat} {xs : List Nat} (h : Bd w xs) (n : Nat) (h1 : x < 2 ^ w) : Bd w (xs.set n x) := by
  intro y hy
  rcases List.mem_or_eq_of_mem_set hy with hy | rfl
  · exact h y hy
  · exact h1
theorem Bd.at {w : Nat} {xs : List Nat} (h : Bd w xs) {n x : Nat} (hn : xs[n]? = some x) : x < 2 ^ w := h _ (List.mem_of_getElem? hn)
theorem mod_bd {a n : Nat} : a % 2 ^ n < 2 ^ n := Nat.mod_lt _ (Nat.two_pow_pos n)
theorem xor_bd {a b n : Nat} (ha : a < 2 ^ n) (hb : b < 2 ^ n) : a ^^^ b < 2 ^ n := Nat.xor_lt_two_pow ha hb
end U.P

/-! U15c: sorted, min, max of whole numbers; pop(i), extend, count, remove. -/
namespace U
open PySem L2
/-! ### the one rising list -/
theorem sorted_uniq : ∀ {l m : List Int}, l.Perm m → l.Pairwise (· ≤ ·) → m.Pairwise (· ≤ ·) → l = m
  | [], m, p, _, _ => (List.Perm.eq_nil p.symm).symm
  | x :: l, [], p, _, _ => absurd p.length_eq (by simp)
  | x :: l, y :: m, p, hl, hm => by
    have h1 : x ≤ y := by
      rcases List.mem_cons.mp (p.mem_iff.mpr (List.mem_cons_self (a := y) (l := m))) with e | h
      · rw [e]; exact Int.le_refl _
      · exact (List.pairwise_cons.mp hl).1 y h
    have h2 : y ≤ x := by
      rcases List.mem_cons.mp (p.mem_iff.mp (List.mem_cons_self (a := x) (l := l))) with e | h
      · rw [e]; exact Int.le_refl _
      · exact (List.pairwise_cons.mp hm).1 x h
    have e : x = y := by omega
    subst e
    rw [sorted_uniq p.cons_inv (List.pairwise_cons.mp hl).2 (List.pairwise_cons.mp hm).2]
def sortI (ns : List Int) : List Int := ns.mergeSort fun a b => decide (a ≤ b)
theorem sortI_perm (ns : List Int) : (sortI ns).Perm ns := List.mergeSort_perm ns _
theorem sortI_le (ns : List Int) : (sortI ns).Pairwise (· ≤ ·) := by
  have := List.pairwise_mergeSort (le := fun a b : Int => decide (a ≤ b)) (fun a b c h1 h2 => by simp at *; omega) (fun a b => by simp; omega) ns
  exact this.imp fun h => by simpa using h
theorem sortI_eq {ns ms : List Int} (p : ms.Perm ns) (h : ms.Pairwise (· ≤ ·)) : ms = sortI ns := sorted_uniq (p.trans (sortI_perm ns).symm) h (sortI_le ns)
section
variable {K : PySem.W.Frag}
def cSorted : List D → Option D
  | [.lst ds] => (intsOf ds).map fun ns => .lst ((sortI ns).map D.int)
  | _ => none
theorem rc_sorted : RCall K (rSortedI K) cSorted := by
  intro ds d e H vs rs Q q
  unfold cSorted at e
  split at e
  · simp only [Option.map_eq_some_iff] at e
    obtain ⟨ns, e, rfl⟩ := e
    obtain ⟨v, F, rfl, r⟩ := rs.one
    obtain ⟨a, xs, G, rfl, sq, rl, _⟩ := RepL.sql r
    obtain ⟨rfl, _⟩ := intsOf_ok e rl
    refine ⟨a, ns, rfl, sq, fun ns' p h1 h2 hp => ?_⟩
    rw [sortI_eq h1 h2]
    exact q (.ref p) _ [p] (New.one hp) (Rep.lst_of upd_same (RepL.ints _))
  · cases e
def maxL : List Int → Option Int
  | [] => none
  | n :: ns => some (ns.foldl max n)
def minL : List Int → Option Int
  | [] => none
  | n :: ns => some (ns.foldl min n)
theorem foldl_max : ∀ (ns : List Int) (n : Int), (ns.foldl max n = n ∨ ns.foldl max n ∈ ns) ∧ n ≤ ns.foldl max n ∧ ∀ y ∈ ns, y ≤ ns.foldl max n
  | [], n => ⟨.inl rfl, Int.le_refl _, fun _ h => nomatch h⟩
  | m :: ns, n => by
    obtain ⟨h1, h2, h3⟩ := foldl_max ns (max n m)
    rw [List.foldl_cons]
    refine ⟨?_, by omega, fun y hy => ?_⟩
    · rcases h1 with h1 | h1
      · rw [h1]
        by_cases h : n ≤ m
        · right; rw [Int.max_eq_right h]; exact List.mem_cons_self
        · left; rw [Int.max_eq_left (by omega)]
      · right; exact List.mem_cons_of_mem _ h1
    · rcases List.mem_cons.mp hy with rfl | hy
      · omega
      · exact h3 y hy
theorem foldl_min : ∀ (ns : List Int) (n : Int), (ns.foldl min n = n ∨ ns.foldl min n ∈ ns) ∧ ns.foldl min n ≤ n ∧ ∀ y ∈ ns, ns.foldl min n ≤ y
  | [], n => ⟨.inl rfl, Int.le_refl _, fun _ h => nomatch h⟩
  | m :: ns, n => by
    obtain ⟨h1, h2, h3⟩ := foldl_min ns (min n m)
    rw [List.foldl_cons]
    refine ⟨?_, by omega, fun y hy => ?_⟩
    · rcases h1 with h1 | h1
      · rw [h1]
        by_cases h : n ≤ m
        · left; rw [Int.min_eq_left h]
        · right; rw [Int.min_eq_right (by omega)]; exact List.mem_cons_self
      · right; exact List.mem_cons_of_mem _ h1
    · rcases List.mem_cons.mp hy with rfl | hy
      · omega
      · exact h3 y hy
theorem maxL_some {ns : List Int} {m : Int} (h : maxL ns = some m) : m ∈ ns ∧ ∀ y ∈ ns, y ≤ m := by
  cases ns with
  | nil => cases h
  | cons n ns =>
    cases h
    obtain ⟨h1, h2, h3⟩ := foldl_max ns n
    refine ⟨?_, fun y hy => ?_⟩
    · rcases h1 with h1 | h1
      · rw [h1]; exact List.mem_cons_self
      · exact List.mem_cons_of_mem _ h1
    · rcases List.mem_cons.mp hy with rfl | hy
      · exact h2
      · exact h3 y hy
theorem minL_some {ns : List Int} {m : Int} (h : minL ns = some m) : m ∈ ns ∧ ∀ y ∈ ns, m ≤ y := by
  cases ns with
  | nil => cases h
  | cons n ns =>
    cases h
    obtain ⟨h1, h2, h3⟩ := foldl_min ns n
    refine ⟨?_, fun y hy => ?_⟩
    · rcases h1 with h1 | h1
      · rw [h1]; exact List.mem_cons_self
      · exact List.mem_cons_of_mem _ h1
    · rcases List.mem_cons.mp hy with rfl | hy
      · exact h2
      · exact h3 y hy
def cMax1 : List D → Option D
  | [.lst ds] => ((intsOf ds).bind maxL).map D.int
  | _ => none
def cMin1 : List D → Option D
  | [.lst ds] => ((intsOf ds).bind minL).map D.int
  | _ => none
theorem rc_max1 : RCall K (rMax K) cMax1 := by
  intro ds d e H vs rs Q q
  unfold cMax1 at e
  split at e
  · simp only [Option.map_eq_some_iff, Option.bind_eq_some_iff] at e
    obtain ⟨m, ⟨ns, e, hm⟩, rfl⟩ := e
    obtain ⟨v, F, rfl, r⟩ := rs.one
    obtain ⟨a, xs, G, rfl, sq, rl, _⟩ := RepL.sql r
    obtain ⟨rfl, _⟩ := intsOf_ok e rl
    obtain ⟨g1, g2⟩ := maxL_some hm
    refine ⟨a, ns, rfl, sq, by cases ns with | nil => cases hm | cons x y => simp, fun m' h1 h2 => ?_⟩
    have : m' = m := by have := h2 m g1; have := g2 m' h1; omega
    subst this
    exact q _ H [] (New.nil H) (by simp [Rep])
  · cases e
theorem rc_min1 : RCall K (rMin K) cMin1 := by
  intro ds d e H vs rs Q q
  unfold cMin1 at e
  split at e
  · simp only [Option.map_eq_some_iff, Option.bind_eq_some_iff] at e
    obtain ⟨m, ⟨ns, e, hm⟩, rfl⟩ := e
    obtain ⟨v, F, rfl, r⟩ := rs.one
    obtain ⟨a, xs, G, rfl, sq, rl, _⟩ := RepL.sql r
    obtain ⟨rfl, _⟩ := intsOf_ok e rl
    obtain ⟨g1, g2⟩ := minL_some hm
    refine ⟨a, ns, rfl, sq, by cases ns with | nil => cases hm | cons x y => simp, fun m' h1 h2 => ?_⟩
    have : m' = m := by have := h2 m g1; have := g2 m' h1; omega
    subst this
    exact q _ H [] (New.nil H) (by simp [Rep])
  · cases e
/-! ### pop(i), extend -/
theorem RepL.erase0 {H : Hp} {ds : List D} {xs : List V} (h : RepL K H ds xs []) (n : Nat) : RepL K H (ds.eraseIdx n) (xs.eraseIdx n) [] := by
  rw [List.eraseIdx_eq_take_drop_succ, List.eraseIdx_eq_take_drop_succ]
  have := (h.take0 n).app (h.drop0 (n + 1))
  simpa using this
def xPopAt : List D → List D → Option (D × List D)
  | ds, [.int i] => match D.pureL ds && decide (0 ≤ i) && decide (i < 2 ^ 62) with
    | true => (ds[i.toNat]?).map fun d => (d, ds.eraseIdx i.toNat)
    | false => none
  | _, _ => none
theorem rm_popAt : RMut K rPopAt xPopAt := by
  intro ds as d ds' e H a xs vs G Fa he rl ra Q h
  unfold xPopAt at e
  split at e
  · rename_i i
    split at e
    · rename_i hc
      simp only [Bool.and_eq_true, decide_eq_true_eq] at hc
      simp only [Option.map_eq_some_iff] at e
      obtain ⟨d', e, q⟩ := e
      cases q
      have hG := RepL.pure _ xs G rl hc.1.1; subst hG
      simp only [RepL] at ra
      obtain ⟨v0, ws0, F0, F00, rfl, rfl, h0, rfl, rfl⟩ := ra
      simp only [Rep] at h0
      obtain ⟨rfl, rfl⟩ := h0
      obtain ⟨v, G1, ev, rv, sb⟩ := RepL.get rl e
      have hG1 : G1 = [] := by simpa using sb
      subst hG1
      have hlt : i.toNat < xs.length := (List.getElem?_eq_some_iff.mp ev).1
      refine ⟨a, xs, i, i.toNat, v, rfl, rfl, he, by omega, by omega, ?_, ev, h v _ [] [] rv (rl.erase0 _) ⟨fun _ => List.nodup_nil, (fun _ z => nomatch z)⟩⟩
      unfold seqIndex?
      have h1 : ¬ i < 0 := by omega
      simp only [h1, if_false]
      first | rw [if_pos (by omega)] | simp; omega
    · cases e
  · cases e
def xExtend : List D → List D → Option (D × List D)
  | ds, [.lst es] => match fullLen (ds.length + es.length) with
    | true => some (.non, ds ++ es)
    | false => none
  | ds, [.tup es] => match fullLen (ds.length + es.length) with
    | true => some (.non, ds ++ es)
    | false => none
  | _, _ => none
/-- xs.extend(t), t a tuple -/
def rExtendT : V → List V → Hp → VK → Prop := fun x vs H Q => ∃ l b xs zs, x = .ref l ∧ vs = [.ref b] ∧ H l = some (.lst xs) ∧ H b = some (.tup zs) ∧ xs.length + zs.length ≤ sizeLine ∧ Q .non (upd H l (.lst (xs ++ zs)))
def rExtendU : V → List V → Hp → VK → Prop := fun x vs H Q => rExtend x vs H Q ∨ rExtendT x vs H Q
theorem rm_extend : RMut K rExtendU xExtend := by
  intro ds as d ds' e H a xs vs G Fa he rl ra Q h
  unfold xExtend at e
  split at e
  · rename_i es
    split at e
    · rename_i hl
      cases e
      simp only [RepL] at ra
      obtain ⟨v, ws, F1, F2, rfl, rfl, h1, rfl, rfl⟩ := ra
      simp only [Rep] at h1
      obtain ⟨b, zs, Gb, rfl, rb, eb, rfl⟩ := h1
      refine .inl ⟨a, b, xs, zs, rfl, rfl, he, eb, by rw [← rl.length, ← rb.length]; exact fullLen_ok hl, h .non (xs ++ zs) [] (G ++ Gb) (by simp [Rep]) (rl.app rb) ?_⟩
      simp only [List.nil_append, List.append_nil]
      exact Sb.of_sublist (List.Sublist.append (List.Sublist.refl _) (List.sublist_cons_self _ _))
    · cases e
  · rename_i es
    split at e
    · rename_i hl
      cases e
      simp only [RepL] at ra
      obtain ⟨v, ws, F1, F2, rfl, rfl, h1, rfl, rfl⟩ := ra
      simp only [Rep] at h1
      obtain ⟨b, zs, rfl, eb, rb⟩ := h1
      refine .inr ⟨a, b, xs, zs, rfl, rfl, he, eb, by rw [← rl.length, ← rb.length]; exact fullLen_ok hl, h .non (xs ++ zs) [] (G ++ F1) (by simp [Rep]) (rl.app rb) ?_⟩
      simp only [List.nil_append, List.append_nil]
      exact Sb.refl _
    · cases e
  · cases e
end
theorem extend_tup (l : Addr) (items : Array Value) (n : Nat) (b : Addr) (items2 : Array Value) (n2 : Nat) (dct : Option Addr) (sl : Array (Option Value)) (hs0 : ¬(!items.isEmpty && Builtin.List.listTooLong (items.size + items2.size)) = true) (hs1 : items.size ≤ sizeLine) (hs2 : items.size + items2.size ≤ sizeLine + 1) :
    Meets (Builtin.«list.extend» ⟨[.ref l, .ref b], []⟩) (fun _ R s => s.heap.get? l = some { cls := .type "list", dict := none, data := .seq items n, slots := #[] } ∧ s.heap.get? b = some { cls := .type "tuple", dict := dct, data := .seq items2 n2, slots := sl } ∧ R (.ok (.ret Value.none)) { s with heap := s.heap.update l (Obj.mapSeq fun x => x ++ items2), toks := s.toks }) :=
  .of_wp fun prog w A R s h => by
    obtain ⟨hp, g, d, tk, os⟩ := s; obtain ⟨hl, hb, h⟩ := h
    have hz' : (items ++ items2).size ≤ sizeLine + 1 := by rw [Array.size_append]; exact hs2
    wp_walk using (wpAny_updateSeq hl rfl (hz := hs1) (_hz' := hz')), wpAny_loadPart' hl, wpAny_loadPart' hb; exact ⟨_, rfl, h⟩
section
variable {X : Cx}
theorem mt_extendT : MtM X "list.extend" rExtendT := by
  intro pins s σ H x vs v us Q I rx rv h
  obtain ⟨l, b, xs, zs, rfl, rfl, hH, hB, hz, q⟩ := h
  cases rx
  obtain ⟨u, rfl, ru⟩ := rv.one
  cases ru
  obtain ⟨z, its, n, r, hl, e⟩ := I.lstM hH
  obtain ⟨_, its2, r2, o, ho, hc, n2, hd⟩ := I.hok _ _ hB
  have hl2 : zs.length = its2.length := r2.length
  obtain ⟨oc, od, oda, os⟩ := o
  dsimp only at hc hd
  subst hc hd
  have hsz : its.toArray.size + its2.toArray.size ≤ sizeLine := by rw [List.size_toArray, List.size_toArray]; omega
  have hlong : ¬ (!its.toArray.isEmpty && Builtin.List.listTooLong (its.toArray.size + its2.toArray.size)) = true := by
    rw [notLongL hsz, Bool.and_false]
    exact Bool.false_ne_true
  refine call_meets F.slot_list_extend ⟨_, e, rfl⟩ F.entry_list_extend (F.args_list_extend_2 _ _)
    (extend_tup l its.toArray n b its2.toArray n2 od os hlong (by rw [List.size_toArray]; omega) (by omega)) ⟨e, ho, ?_⟩
  refine ⟨.non, _, I.lset (its' := its ++ its2) hH e (by simp) (r.append r2) ?_, rfl, q⟩
  rw [List.length_append]
  omega
theorem mt_extendU : MtR X "list.extend" rExtendU := fun pins s σ H x vs v us Q I rx rv h => h.elim (fun h => mt_extend pins s σ H x vs v us Q I rx rv h) fun h => mt_extendT pins s σ H x vs v us Q I rx rv h
theorem m_popAt : MtR X "list.pop" rPopAt := mt_popAt
end
/-! ### methods that read -/
section
variable {K : PySem.W.Frag}
def RMeth (K : PySem.W.Frag) (r : V → List V → Hp → VK → Prop) (f : List D → List D → Option D) : Prop := ∀ xs ds d, f xs ds = some d → ∀ H v vs F, Rep K H (.lst xs) v F → Reps K H ds vs → ∀ Q : VK, (∀ x H' N, New H H' N → Rep K H' d x N → Q x H') → r v vs H Q
def mRM (f : List D → List D → Option D) (mo : M) (ms : MA) : M := fun ρ => match mo ρ with
  | none => none
  | some (o, ρ1) => match opD ρ1 o, ms ρ1 with
    | some (.lst _), some (os, ρ2) => match opD ρ2 o, opDs ρ2 os with
      | some (.lst xs), some ds => (f xs ds).map fun d => (.tm true d, ρ2)
      | _, _ => none
    | _, _ => none
theorem so_rm {r : V → List V → Hp → VK → Prop} {f : List D → List D → Option D} {to : TE} {ts : TA} {mo : M} {ms : MA} (hr : RMeth K r f) (ho : SO K to mo) (ha : SA K ts ms) : SO K (tBM K "list" r to ts) (mRM f mo ms) := by
  intro ρ o ρ' e T σ H fp R Q h
  unfold mRM at e
  split at e
  · cases e
  · rename_i o1 ρ1 e1
    split at e
    · rename_i xs0 os ρ2 k0 e2
      split at e
      · rename_i xs ds k1 k2
        simp only [Option.map_eq_some_iff] at e
        obtain ⟨d, k, e⟩ := e
        cases e
        refine ho ρ o1 ρ1 e1 T σ H fp R _ fun v H1 fp1 F R1 p1 n1 f1 r1 => ?_
        obtain ⟨F0, q0⟩ := r1.rep R1 k0
        obtain ⟨a, ys, G0, rfl, sq0, _, _⟩ := RepL.sql q0
        refine ⟨.inl ⟨rfl, ys, sq0⟩, ?_⟩
        refine ha ρ1 os _ e2 _ σ H1 fp1 R1 _ fun vs H2 fp2 G R2 p2 n2 f2 r2 => ?_
        have r1' := r1.later p2 n2
        obtain ⟨F1, q1⟩ := r1'.rep R2 k1
        refine hr xs ds d k H2 _ vs F1 q1 (ORs.reps R2 r2 k2) Q fun x H3 N nw q => ?_
        obtain ⟨R3, r3⟩ := (R2.mono (T' := T) fun a t => .inl (.inl t)).new nw q
        exact h x H3 fp2 N R3 ((p1.trans (p2.mono fun a t => .inl t)).trans (Pin.same nw.same)) (n1.trans (n2.mono fun a t => .inl t)) (f1.trans f2) r3
      · cases e
    · cases e
/-- how often -/
def xCount : List D → List D → Option D
  | ds, [.int k] => (intsOf ds).map fun ns => .int (ns.count k : Nat)
  | _, _ => none
theorem rm_count : RMeth K (rCntI K) xCount := by
  intro xs ds d e H v vs F r rs Q q
  unfold xCount at e
  split at e
  · rename_i k
    simp only [Option.map_eq_some_iff] at e
    obtain ⟨ns, e, rfl⟩ := e
    obtain ⟨a, ys, G, rfl, sq, rl, _⟩ := RepL.sql r
    obtain ⟨rfl, _⟩ := intsOf_ok e rl
    obtain ⟨w, Fw, rfl, rw'⟩ := rs.one
    simp only [Rep] at rw'
    obtain ⟨rfl, _⟩ := rw'
    exact ⟨a, ns, k, rfl, rfl, sq, q _ H [] (New.nil H) (by simp [Rep])⟩
  · cases e
/-- one goes -/
def xRemove : List D → List D → Option (D × List D)
  | ds, [.int k] => match intsOf ds with
    | some ns => match ns.idxOf? k with
      | some j => some (.non, (ns.eraseIdx j).map D.int)
      | none => none
    | none => none
  | _, _ => none
theorem rm_remove : RMut K rRemI xRemove := by
  intro ds as d ds' e H a xs vs G Fa he rl ra Q h
  unfold xRemove at e
  split at e
  · rename_i k
    split at e
    · rename_i ns en
      split at e
      · rename_i j ej
        cases e
        obtain ⟨rfl, rfl⟩ := intsOf_ok en rl
        simp only [RepL] at ra
        obtain ⟨v0, ws0, F0, F00, rfl, rfl, h0, rfl, rfl⟩ := ra
        simp only [Rep] at h0
        obtain ⟨rfl, rfl⟩ := h0
        have hj := List.findIdx?_eq_some_iff_getElem.mp ej
        obtain ⟨h1, h2, h3⟩ := hj
        have h2' : ns[j] = k := by simpa using h2
        refine ⟨a, ns, k, j, rfl, rfl, he, by rw [List.getElem?_eq_getElem h1, h2'], fun m hm q => ?_, h .non _ [] [] (by simp [Rep]) (RepL.ints _) ⟨fun _ => List.nodup_nil, (fun _ z => nomatch z)⟩⟩
        have hm' : m < ns.length := by omega
        rw [List.getElem?_eq_getElem hm'] at q
        have := h3 m hm
        simp at this
        exact this (Option.some.inj q)
      · cases e
    · cases e
  · cases e
end
section
variable {G : Gb} {S : Sc}
variable {p pos : Pos} {e : Expr} {t : TA} {m : MA}
theorem b_sorted (hm : G.mg "sorted" = none) (hg : globOk S "sorted" = true) (ha : BA G S [e] t m) (h1 : ∀ env, starEach [e] env = [(false, eval e env)] := by intro _; rfl) : BE G S (.Call (.Name "sorted" p) [e] [] pos) (tCB (rSortedI G.K) t) (mCB cSorted m) :=
  b_callB (fun X g => by rw [← g.K]; exact cr_sortedI) rc_sorted (by decide +kernel) hm hg ha h1 (by intro _; rfl)
theorem b_max1 (hm : G.mg "max" = none) (hg : globOk S "max" = true) (ha : BA G S [e] t m) (h1 : ∀ env, starEach [e] env = [(false, eval e env)] := by intro _; rfl) : BE G S (.Call (.Name "max" p) [e] [] pos) (tCB (rMax G.K) t) (mCB cMax1 m) :=
  b_callB (fun X g => by rw [← g.K]; exact cr_max g.calm) rc_max1 (by decide +kernel) hm hg ha h1 (by intro _; rfl)
theorem b_min1 (hm : G.mg "min" = none) (hg : globOk S "min" = true) (ha : BA G S [e] t m) (h1 : ∀ env, starEach [e] env = [(false, eval e env)] := by intro _; rfl) : BE G S (.Call (.Name "min" p) [e] [] pos) (tCB (rMin G.K) t) (mCB cMin1 m) :=
  b_callB (fun X g => by rw [← g.K]; exact cr_min g.calm) rc_min1 (by decide +kernel) hm hg ha h1 (by intro _; rfl)
theorem b_methR {o : Expr} {to : TE} {mo : M} {name : Str} {id : String} {r : V → List V → Hp → VK → Prop} {f : List D → List D → Option D} {es : List Expr} {apos cpos : Pos} (slot : Slot "list" name id) (hty : typeOf (.builtin id) = pure (.type "method_descriptor")) (hm : ∀ X, Good G S X → MtR X id r) (hr : RMeth G.K r f) (ho : BE G S o to mo) (ha : BA G S (e :: es) t m)
    (h2 : ∀ env, ((((backTo cpos (starEach (e :: es) env)).all fun x => !x.1) && (backToKw cpos (keywordEach [] env)).all fun x => x.1.isSome) && decide ((e :: es).length + ([] : List Keyword).length + (if ([] : List Keyword).isEmpty then 0 else 1) < 30)) = true := by intro _; rfl) (h3 : (apos.endLine == cpos.line) = true := by rfl)
    (h4 : ∀ env, starEach (e :: es) env = (false, eval e env) :: starEach es env := by intro _; rfl) (h5 : ∀ env, (backTo cpos (starEach es env)).any (·.1) = false := by intro _; rfl) (h6 : ∀ env, attributeBase o name env (eval o env) = eval o env := by intro _; rfl) :
    BE G S (.Call (.Attribute o name apos) (e :: es) [] cpos) (tBM G.K "list" r to t) (mRM f mo m) :=
  ⟨fun X g => by rw [← g.K]; exact pe_bm F.plainAttrs_list slot hty (hm X g) (ho.pe X g) (ha.pa X g) (h6 X.env) (h2 X.env) h3 (h4 X.env) (h5 X.env), so_rm hr ho.so ha.sa⟩
end
end U

/-! W6: sorted, min, max, pop(i), extend, count, remove. -/
namespace U.P
open PySem L2 U
theorem erase_map {α β : Type} (f : α → β) (xs : List α) (n : Nat) : (xs.map f).eraseIdx n = (xs.eraseIdx n).map f := by
  rw [List.eraseIdx_eq_take_drop_succ, List.eraseIdx_eq_take_drop_succ, List.map_append, List.map_take, List.map_drop]
theorem beq_cast (a b : Nat) : ((a : Int) == (b : Int)) = (a == b) := by
  by_cases h : a = b
  · subst h; simp
  · have h2 : ¬ (a : Int) = (b : Int) := by omega
    rw [beq_eq_false_iff_ne.mpr h, beq_eq_false_iff_ne.mpr h2]
def sortN (xs : List Nat) : List Nat := xs.mergeSort fun a b => decide (a ≤ b)
theorem sortN_perm (xs : List Nat) : (sortN xs).Perm xs := List.mergeSort_perm xs _
theorem sortN_le (xs : List Nat) : (sortN xs).Pairwise (· ≤ ·) := by
  have := List.pairwise_mergeSort (le := fun a b : Nat => decide (a ≤ b)) (fun a b c h1 h2 => by simp at *; omega) (fun a b => by simp; omega) xs
  exact this.imp fun h => by simpa using h
theorem sortN_len (xs : List Nat) : (sortN xs).length = xs.length := (sortN_perm xs).length_eq
theorem sortN_mem {xs : List Nat} {x : Nat} : x ∈ sortN xs ↔ x ∈ xs := (sortN_perm xs).mem_iff
theorem intsOf_map : ∀ ns : List Int, intsOf (ns.map D.int) = some ns
  | [] => rfl
  | n :: ns => by simp [intsOf, intsOf_map ns]
theorem intsOf_nD (xs : List Nat) : intsOf (xs.map nD) = some (xs.map fun n : Nat => (n : Int)) := by
  have : xs.map nD = (xs.map fun n : Nat => (n : Int)).map D.int := by rw [List.map_map]; rfl
  rw [this, intsOf_map]
theorem sortI_nat (xs : List Nat) : sortI (xs.map fun n : Nat => (n : Int)) = (sortN xs).map fun n : Nat => (n : Int) := by
  symm
  refine sortI_eq ((sortN_perm xs).map _) ?_
  rw [List.pairwise_map]
  exact (sortN_le xs).imp fun h => by omega
section
variable {Q : D → Prop} {xs : List Nat}
instance q_sortedN : St (W1 (cSorted [.lst (xs.map nD)]) Q) (Q (.lst ((sortN xs).map nD))) := ⟨fun q => ⟨_, by
  simp only [cSorted]
  rw [intsOf_nD, Option.map_some, sortI_nat, List.map_map]; rfl, q⟩⟩
instance q_sorted0 : St (W1 (cSorted [.lst []]) Q) (Q (.lst [])) := ⟨fun q => ⟨_, by simp [cSorted, intsOf, sortI], q⟩⟩
theorem natMax {xs : List Nat} (h : xs ≠ []) : ∃ m, m ∈ xs ∧ (∀ y ∈ xs, y ≤ m) ∧ maxL (xs.map fun n : Nat => (n : Int)) = some (m : Int) := by
  cases e : maxL (xs.map fun n : Nat => (n : Int)) with
  | none => cases xs with
    | nil => exact absurd rfl h
    | cons x y => cases e
  | some k =>
    obtain ⟨h1, h2⟩ := maxL_some e
    obtain ⟨m, hm, rfl⟩ := List.mem_map.mp h1
    exact ⟨m, hm, fun y hy => by have := h2 _ (List.mem_map.mpr ⟨y, hy, rfl⟩); omega, rfl⟩
theorem natMin {xs : List Nat} (h : xs ≠ []) : ∃ m, m ∈ xs ∧ (∀ y ∈ xs, m ≤ y) ∧ minL (xs.map fun n : Nat => (n : Int)) = some (m : Int) := by
  cases e : minL (xs.map fun n : Nat => (n : Int)) with
  | none => cases xs with
    | nil => exact absurd rfl h
    | cons x y => cases e
  | some k =>
    obtain ⟨h1, h2⟩ := minL_some e
    obtain ⟨m, hm, rfl⟩ := List.mem_map.mp h1
    exact ⟨m, hm, fun y hy => by have := h2 _ (List.mem_map.mpr ⟨y, hy, rfl⟩); omega, rfl⟩
instance q_max1N : St (W1 (cMax1 [.lst (xs.map nD)]) Q) (WP (xs ≠ []) (∀ m, m ∈ xs → (∀ y ∈ xs, y ≤ m) → Q (.int ((m : Nat) : Int)))) := ⟨fun ⟨h, q⟩ => by
  obtain ⟨m, h1, h2, h3⟩ := natMax h
  exact ⟨_, by simp only [cMax1]; rw [intsOf_nD, Option.bind_some, h3]; rfl, q m h1 h2⟩⟩
instance q_min1N : St (W1 (cMin1 [.lst (xs.map nD)]) Q) (WP (xs ≠ []) (∀ m, m ∈ xs → (∀ y ∈ xs, m ≤ y) → Q (.int ((m : Nat) : Int)))) := ⟨fun ⟨h, q⟩ => by
  obtain ⟨m, h1, h2, h3⟩ := natMin h
  exact ⟨_, by simp only [cMin1]; rw [intsOf_nD, Option.bind_some, h3]; rfl, q m h1 h2⟩⟩
theorem sum_nat : ∀ xs : List Nat, (xs.map fun n : Nat => (n : Int)).sum = ((xs.sum : Nat) : Int)
  | [] => rfl
  | x :: xs => by simp [sum_nat xs]
instance q_sumN : St (W1 (cSum [.lst (xs.map nD)]) Q) (Q (.int ((xs.sum : Nat) : Int))) := ⟨fun q => ⟨_, by
  simp only [cSum]
  rw [intsOf_nD, Option.map_some]
  rw [sum_nat], q⟩⟩
end
section
variable {fl : Fl} {ds es : List D} {d : D} {Q : D × Option (Fl × D) → Prop}
instance u_popAtM {α : Type} {f : α → D} {xs : List α} {i : Int} {n : Nat} [m : Mu fl] [p : PuF f] [a : NatI i n] : St (W1 (U.P.mutO xPopAt [.int i] (some (fl, .lst (xs.map f)))) Q) (WP (n < xs.length ∧ n < 2 ^ 62) (∀ x, xs[n]? = some x → Q (f x, some (fl, .lst ((xs.eraseIdx n).map f))))) := ⟨fun ⟨h, q⟩ => by
  have hx : xs[n]? = some xs[n] := List.getElem?_eq_getElem h.1
  refine u_mut rfl m.eq (d := f xs[n]) (ds' := (xs.eraseIdx n).map f) ?_ (q _ hx)
  have e1 : D.pureL (xs.map f) = true := (pl_map (xs := xs) (f := f)).eq
  have e2 : decide (0 ≤ i) = true := decide_eq_true (by rw [a.eq]; omega)
  have e3 : decide (i < 2 ^ 62) = true := decide_eq_true (by rw [a.eq]; omega)
  simp only [xPopAt, e1, e2, e3, Bool.and_self]
  rw [a.eq, Int.toNat_natCast, List.getElem?_map, hx, erase_map]; rfl⟩
instance (priority := high) u_extM {α : Type} {f : α → D} {xs ys : List α} [m : Mu fl] : St (W1 (U.P.mutO xExtend [.lst (ys.map f)] (some (fl, .lst (xs.map f)))) Q) (WP (xs.length + ys.length ≤ 10000000) (Q (.non, some (fl, .lst ((xs ++ ys).map f))))) := ⟨fun ⟨h, q⟩ => by
  refine u_mut rfl m.eq (d := .non) (ds' := (xs ++ ys).map f) ?_ q
  simp [xExtend, fullLen, h]⟩
instance u_extL {k n : Nat} [m : Mu fl] [l : Len ds k] [l' : Len es n] : St (W1 (U.P.mutO xExtend [.lst es] (some (fl, .lst ds))) Q) (WP (k + n ≤ 10000000) (Q (.non, some (fl, .lst (ds ++ es))))) := ⟨fun ⟨h, q⟩ => by
  refine u_mut rfl m.eq (d := .non) (ds' := ds ++ es) ?_ q
  simp [xExtend, fullLen, l.eq, l'.eq, h]⟩
class CvL {α : Type} (f : α → D) (ds : List D) (xs : outParam (List α)) : Prop where
  eq : ds = xs.map f
instance cl_n {α : Type} {f : α → D} : CvL f [] [] := ⟨rfl⟩
instance cl_c {α : Type} {f : α → D} {x : α} {xs : List α} [h : Cv f d x] [h' : CvL f ds xs] : CvL f (d :: ds) (x :: xs) := ⟨by rw [h.eq, h'.eq]; rfl⟩
instance cl_m {α : Type} {f : α → D} {xs : List α} : CvL f (xs.map f) xs := ⟨rfl⟩
instance (priority := high) u_extT {α : Type} {f : α → D} {xs ys : List α} [m : Mu fl] [c : CvL f es ys] : St (W1 (U.P.mutO xExtend [.tup es] (some (fl, .lst (xs.map f)))) Q) (WP (xs.length + ys.length ≤ 10000000) (Q (.non, some (fl, .lst ((xs ++ ys).map f))))) := ⟨fun ⟨h, q⟩ => by
  refine u_mut rfl m.eq (d := .non) (ds' := (xs ++ ys).map f) ?_ q
  simp [xExtend, fullLen, h, c.eq]⟩
instance (priority := high) u_extC {α : Type} {f : α → D} {xs ys : List α} [m : Mu fl] [c : CvL f es ys] : St (W1 (U.P.mutO xExtend [.lst es] (some (fl, .lst (xs.map f)))) Q) (WP (xs.length + ys.length ≤ 10000000) (Q (.non, some (fl, .lst ((xs ++ ys).map f))))) := ⟨fun ⟨h, q⟩ => by
  refine u_mut rfl m.eq (d := .non) (ds' := (xs ++ ys).map f) ?_ q
  simp [xExtend, fullLen, h, c.eq]⟩
theorem idx_map (xs : List Nat) (n : Nat) : (xs.map fun k : Nat => (k : Int)).idxOf? (n : Int) = xs.idxOf? n := by
  simp only [List.idxOf?, List.findIdx?_map]
  congr 1
  funext k
  simp only [Function.comp_apply, beq_cast]
theorem erase_idx : ∀ {xs : List Nat} {n j : Nat}, xs.idxOf? n = some j → xs.eraseIdx j = xs.erase n
  | [], n, j, h => by cases h
  | x :: xs, n, j, h => by
    rw [List.idxOf?_cons] at h
    by_cases hx : x = n
    · subst hx
      simp at h
      subst h
      simp
    · rw [if_neg (by simpa using hx)] at h
      simp only [Option.map_eq_some_iff] at h
      obtain ⟨k, hk, rfl⟩ := h
      rw [List.eraseIdx_cons_succ, erase_idx hk, List.erase_cons_tail (by simpa using hx)]
instance u_remM {xs : List Nat} {i : Int} {n : Nat} [m : Mu fl] [a : NatI i n] : St (W1 (U.P.mutO xRemove [.int i] (some (fl, .lst (xs.map nD)))) Q) (WP (n ∈ xs) (Q (.non, some (fl, .lst ((xs.erase n).map nD))))) := ⟨fun ⟨h, q⟩ => by
  refine u_mut rfl m.eq (d := .non) (ds' := (xs.erase n).map nD) ?_ q
  simp only [xRemove]
  rw [intsOf_nD]
  dsimp only
  rw [a.eq, idx_map]
  cases e : xs.idxOf? n with
  | none => exact absurd h (by simpa using e)
  | some j =>
    dsimp only
    rw [erase_map, erase_idx e, List.map_map]; rfl⟩
end
/-! ### methods that read -/
def WLs (x : Option D) (Q : List D → Prop) : Prop := ∃ xs, x = some (.lst xs) ∧ Q xs
section
variable {ρ : Env} {Q : Opd → Env → Prop}
theorem w_rm {f : List D → List D → Option D} {mo : M} {ms : MA} (h : WE mo ρ fun o ρ1 => WLs (opD ρ1 o) fun _ => WA ms ρ1 fun os ρ2 => WLs (opD ρ2 o) fun xs => W1 (opDs ρ2 os) fun ds => W1 (f xs ds) fun d => Q (.tm true d) ρ2) : WE (mRM f mo ms) ρ Q := by
  obtain ⟨o, ρ1, e1, xs0, k0, os, ρ2, e2, xs, k1, ds, k2, d, k, q⟩ := h
  exact ⟨_, _, by simp only [mRM, e1, k0, e2, k1, k2, k]; rfl, q⟩
instance w_rm_ {f : List D → List D → Option D} {mo : M} {ms : MA} : St (WE (mRM f mo ms) ρ Q) (WE mo ρ fun o ρ1 => WLs (opD ρ1 o) fun _ => WA ms ρ1 fun os ρ2 => WLs (opD ρ2 o) fun xs => W1 (opDs ρ2 os) fun ds => W1 (f xs ds) fun d => Q (.tm true d) ρ2) := ⟨w_rm⟩
instance ls_sl {i : Nat} {fl : Fl} {xs : List D} {Q : List D → Prop} [l : LookAt ρ i (some (fl, .lst xs))] : St (WLs (opD ρ (.sl i)) Q) (Q xs) := ⟨fun q => ⟨xs, by simp [opD, l.eq], q⟩⟩
instance ls_tm {u : Bool} {xs : List D} {Q : List D → Prop} : St (WLs (opD ρ (.tm u (.lst xs))) Q) (Q xs) := ⟨fun q => ⟨xs, rfl, q⟩⟩
instance q_countN {xs : List Nat} {i : Int} {n : Nat} {Q : D → Prop} [a : NatI i n] : St (W1 (xCount (xs.map nD) [.int i]) Q) (Q (.int ((xs.count n : Nat) : Int))) := ⟨fun q => ⟨_, by
  simp only [xCount]
  rw [intsOf_nD, Option.map_some, a.eq]
  have : (xs.map fun n : Nat => (n : Int)).count (n : Int) = xs.count n := by
    rw [List.count, List.count, List.countP_map]
    congr 1
    funext k
    simp only [Function.comp_apply, beq_cast]
  rw [this], q⟩⟩
end
end U.P

/-! U15d: sorted, min, max of numbers and of rows of numbers, any length; count and remove of data. -/
namespace U
open PySem L2
def D.isInt : D → Bool
  | .int _ => true
  | _ => false
def D.isRow : D → Bool
  | .tup es => !es.isEmpty && es.all D.isInt
  | _ => false
/-- all numbers, or all rows of numbers -/
def sortOk (ds : List D) : Bool := ds.all D.isInt || ds.all D.isRow
def sortD (b : Bool) (ds : List D) : List D := ds.mergeSort (PySem.W.dataLe b D.py)
theorem pys_map : ∀ ds : List D, D.pys ds = ds.map D.py
  | [] => rfl
  | d :: ds => by rw [D.pys, pys_map ds]; rfl
theorem isInt_py {d : D} (h : d.isInt = true) : ∃ i, d = .int i := by
  cases d <;> first | exact ⟨_, rfl⟩ | cases h
theorem isInts_py : ∀ {es : List D}, es.all D.isInt = true → ∃ ns : List Int, es = ns.map D.int
  | [], _ => ⟨[], rfl⟩
  | d :: ds, h => by
    simp only [List.all_cons, Bool.and_eq_true] at h
    obtain ⟨i, rfl⟩ := isInt_py h.1
    obtain ⟨ns, rfl⟩ := isInts_py h.2
    exact ⟨i :: ns, rfl⟩
theorem isRow_py {d : D} (h : d.isRow = true) : ∃ (n : Int) (ns : List Int), d = .tup ((n :: ns).map D.int) := by
  cases d <;> first | cases h; done | skip
  rename_i es
  simp only [D.isRow, Bool.and_eq_true, Bool.not_eq_true'] at h
  obtain ⟨ns, rfl⟩ := isInts_py h.2
  cases ns with
  | nil => exact absurd h.1 (by simp)
  | cons n ns => exact ⟨n, ns, rfl⟩
theorem pys_ints (ns : List Int) : D.pys (ns.map D.int) = ns.map PyData.int := by
  rw [pys_map, List.map_map]
  rfl
theorem row_py (ns : List Int) : (D.tup (ns.map D.int)).py = .tuple (ns.map PyData.int) := by
  rw [D.py, pys_ints]
theorem oks_ints (ns : List Int) : D.oks (ns.map D.int) = true := by
  induction ns with
  | nil => rfl
  | cons n ns ih => show ((D.int n).ok && D.oks (ns.map D.int)) = true; rw [ih]; rfl
/-- what the two kinds give -/
structure SOk (ds : List D) : Prop where
  ok : ∀ d ∈ ds, d.ok = true
  alike : ∀ d ∈ ds, ∀ e ∈ ds, PySem.W.alike d.py e.py = true
  non : ∀ d ∈ ds, d.py ≠ .none
  sortable : PySem.W.Sortable (ds.map D.py)
  depth : ∀ d ∈ ds, d.py.depth ≤ 1
  pure : ∀ d ∈ ds, D.pureL [d] = true
  inj : ∀ d ∈ ds, ∀ e ∈ ds, d.py = e.py → d = e
theorem ints_inj : ∀ {a b : List Int}, a.map PyData.int = b.map PyData.int → a = b
  | [], [], _ => rfl
  | [], _ :: _, h => by cases h
  | _ :: _, [], h => by cases h
  | x :: a, y :: b, h => by
    rw [List.map_cons, List.map_cons] at h
    injection h with h1 h2
    injection h1 with h1
    rw [h1, ints_inj h2]
theorem pure_ints : ∀ ns : List Int, D.pureL (ns.map D.int) = true
  | [] => rfl
  | n :: ns => by rw [List.map_cons, D.pureL, pure_ints ns]; rfl
theorem SOk.of {ds : List D} (h : sortOk ds = true) : SOk ds := by
  unfold sortOk at h
  rw [Bool.or_eq_true, List.all_eq_true, List.all_eq_true] at h
  rcases h with h | h
  · refine ⟨fun d m => ?_, fun d m e m' => ?_, fun d m => ?_, .inr fun d m => ?_, fun d m => ?_, fun d m => ?_, fun d m e m' q => ?_⟩
    · obtain ⟨i, rfl⟩ := isInt_py (h d m); rfl
    · obtain ⟨i, rfl⟩ := isInt_py (h d m); obtain ⟨j, rfl⟩ := isInt_py (h e m')
      simp [D.py, PySem.W.alike]
    · obtain ⟨i, rfl⟩ := isInt_py (h d m); simp [D.py]
    · obtain ⟨e, m', rfl⟩ := List.mem_map.mp m
      obtain ⟨i, rfl⟩ := isInt_py (h e m'); simp [D.py]
    · obtain ⟨i, rfl⟩ := isInt_py (h d m); simp [D.py, PyData.depth]
    · obtain ⟨i, rfl⟩ := isInt_py (h d m); rfl
    · obtain ⟨i, rfl⟩ := isInt_py (h d m); obtain ⟨j, rfl⟩ := isInt_py (h e m')
      simp only [D.py] at q
      injection q with q
      rw [q]
  · refine ⟨fun d m => ?_, fun d m e m' => ?_, fun d m => ?_, .inl fun d m => ?_, fun d m => ?_, fun d m => ?_, fun d m e m' q => ?_⟩
    · obtain ⟨i, ns, rfl⟩ := isRow_py (h d m)
      show D.oks _ = true
      exact oks_ints _
    · obtain ⟨i, ns, rfl⟩ := isRow_py (h d m); obtain ⟨j, ms, rfl⟩ := isRow_py (h e m')
      rw [row_py, row_py, PySem.W.alike]
      exact PySem.W.alike_ints _ _
    · obtain ⟨i, ns, rfl⟩ := isRow_py (h d m); rw [row_py]; simp
    · obtain ⟨e, m', rfl⟩ := List.mem_map.mp m
      obtain ⟨i, ns, rfl⟩ := isRow_py (h e m'); rw [row_py]
      exact ⟨_, _, rfl⟩
    · obtain ⟨i, ns, rfl⟩ := isRow_py (h d m); rw [row_py, PyData.depth, PySem.W.depth_ints]; omega
    · obtain ⟨i, ns, rfl⟩ := isRow_py (h d m)
      show (D.pureL _ && true) = true
      rw [pure_ints]; rfl
    · obtain ⟨i, ns, rfl⟩ := isRow_py (h d m); obtain ⟨j, ms, rfl⟩ := isRow_py (h e m')
      rw [row_py, row_py] at q
      injection q with q
      rw [ints_inj q]
section
variable {K : PySem.W.Frag}
/-- values and the data they stand for, one by one -/
def Prs (K : PySem.W.Frag) (H : Hp) (ps : List (V × D)) : Prop := ∀ p ∈ ps, Rep K H p.2 p.1 []
theorem RepL.prs {H : Hp} : ∀ {ds : List D} {xs : List V}, RepL K H ds xs [] → ∃ ps : List (V × D), ps.map Prod.fst = xs ∧ ps.map Prod.snd = ds ∧ Prs K H ps
  | [], xs, h => by
    simp only [RepL] at h
    exact ⟨[], h.1.symm, rfl, fun p m => nomatch m⟩
  | d :: ds, xs, h => by
    simp only [RepL] at h
    obtain ⟨v, vs, F1, F2, rfl, e, h1, h2⟩ := h
    obtain ⟨rfl, rfl⟩ := List.append_eq_nil_iff.mp e.symm
    obtain ⟨ps, rfl, rfl, hp⟩ := RepL.prs h2
    refine ⟨(v, d) :: ps, rfl, rfl, fun p m => ?_⟩
    rcases List.mem_cons.mp m with rfl | m
    · exact h1
    · exact hp p m
theorem Prs.repL {H : Hp} : ∀ {ps : List (V × D)}, Prs K H ps → RepL K H (ps.map Prod.snd) (ps.map Prod.fst) []
  | [], h => by simp [RepL]
  | p :: ps, h => by
    have := Prs.repL (ps := ps) fun q m => h q (List.mem_cons_of_mem _ m)
    simp only [List.map_cons, RepL]
    exact ⟨p.1, ps.map Prod.fst, [], [], rfl, rfl, h p List.mem_cons_self, this⟩
/-- sorted(xs[, reverse=b]) -/
def rSortedD (K : PySem.W.Frag) (b : Bool) : List V → Hp → VK → Prop := fun vs H Q => ∃ (a : Addr) (ps : List (V × D)), vs = [V.ref a] ∧ SqL K H a (ps.map Prod.fst) ∧ Prs K H ps ∧ sortOk (ps.map Prod.snd) = true ∧
  ∀ p : Addr, H p = none → Q (.ref p) (upd H p (.lst ((ps.mergeSort (PySem.W.dataLe b fun q => q.2.py)).map Prod.fst)))
def cSortD (b : Bool) : List D → Option D
  | [.lst ds] => match sortOk ds with
    | true => some (.lst (sortD b ds))
    | false => none
  | [.fz ds] => match sortOk ds with
    | true => some (.lst (sortD b ds))
    | false => none
  | _ => none
theorem pureL_all {ds : List D} (h : ∀ d ∈ ds, D.pureL [d] = true) : D.pureL ds = true := by
  induction ds with
  | nil => rfl
  | cons d ds ih =>
    have h1 := h d List.mem_cons_self
    have h2 := ih fun e m => h e (List.mem_cons_of_mem _ m)
    rw [D.pureL] at h1 ⊢
    rw [h2]
    simpa [D.pureL] using h1
theorem rc_sortD {b : Bool} : RCall K (rSortedD K b) (cSortD b) := by
  intro ds d e H vs rs Q q
  unfold cSortD at e
  split at e
  · split at e
    · rename_i ds hc
      cases e
      obtain ⟨v, F, rfl, r⟩ := rs.one
      obtain ⟨a, xs, G, rfl, sq, rl, _⟩ := RepL.sql r
      have hG := RepL.pure _ xs G rl (pureL_all (SOk.of hc).pure); subst hG
      obtain ⟨ps, rfl, rfl, hp⟩ := RepL.prs rl
      refine ⟨a, ps, rfl, sq, hp, hc, fun p hn => ?_⟩
      have hs : Prs K H (ps.mergeSort (PySem.W.dataLe b fun q => q.2.py)) := fun q m => hp q ((List.mergeSort_perm ps _).mem_iff.mp m)
      have e1 : sortD b (ps.map Prod.snd) = (ps.mergeSort (PySem.W.dataLe b fun q => q.2.py)).map Prod.snd := by
        unfold sortD
        rw [List.map_mergeSort (r := PySem.W.dataLe b fun q : V × D => q.2.py) (s := PySem.W.dataLe b D.py)]
        intro x _ y _; rfl
      rw [e1] at q
      exact q (.ref p) _ [p] (New.one hn) (Rep.lst_of upd_same (hs.repL.same (same_upd hn)))
    · cases e
  · split at e
    · rename_i ds hc
      cases e
      obtain ⟨v, F, rfl, r⟩ := rs.one
      simp only [Rep] at r
      obtain ⟨a, xs, rfl, sq, rl⟩ := r
      have hG := RepL.pure _ xs F rl (pureL_all (SOk.of hc).pure); subst hG
      obtain ⟨ps, rfl, rfl, hp⟩ := RepL.prs rl
      refine ⟨a, ps, rfl, sq.sq, hp, hc, fun p hn => ?_⟩
      have hs : Prs K H (ps.mergeSort (PySem.W.dataLe b fun q => q.2.py)) := fun q m => hp q ((List.mergeSort_perm ps _).mem_iff.mp m)
      have e1 : sortD b (ps.map Prod.snd) = (ps.mergeSort (PySem.W.dataLe b fun q => q.2.py)).map Prod.snd := by
        unfold sortD
        rw [List.map_mergeSort (r := PySem.W.dataLe b fun q : V × D => q.2.py) (s := PySem.W.dataLe b D.py)]
        intro x _ y _; rfl
      rw [e1] at q
      exact q (.ref p) _ [p] (New.one hn) (Rep.lst_of upd_same (hs.repL.same (same_upd hn)))
    · cases e
  · cases e
end
section
variable {X : Cx}
open PySem.W in
theorem vals_each {xs : List V} {us : List Value} (r : Vals xs us) : ∀ {ps : List (V × D)}, ps.map Prod.fst = xs → EachIs (fun v p => RelV p.1 v) us ps := by
  induction r with
  | nil => intro ps h; cases ps with
    | nil => exact .nil
    | cons _ _ => cases h
  | cons h1 h2 ih => intro ps h; cases ps with
    | nil => cases h
    | cons p ps =>
      rw [List.map_cons] at h
      injection h with h3 h4
      subst h3
      exact .cons h1 (ih h4)
open PySem.W in
theorem each_vals : ∀ {us : List Value} {ps : List (V × D)}, EachIs (fun v (p : V × D) => RelV p.1 v) us ps → Vals (ps.map Prod.fst) us
  | _, _, .nil => .nil
  | _, _, .cons h t => .cons h (each_vals t)
open PySem.W in
theorem each_reads {pins : List (Addr × Obj)} {σ : St} {H : Hp} {s : Shared} (I : Inv X pins σ H s) : ∀ {us : List Value} {ps : List (V × D)}, EachIs (fun v (p : V × D) => RelV p.1 v) us ps → Prs X.K H ps → (∀ p ∈ ps, p.2.ok = true) → EachIs (fun v (p : V × D) => ∃ as, Reads s.heap v p.2.py as) us ps
  | _, _, .nil, _, _ => .nil
  | _, _, .cons h t, hp, ho => .cons (Dp.reads I _ _ _ (Rep.dp _ _ _ (hp _ List.mem_cons_self) (ho _ List.mem_cons_self)) h) (each_reads I t (fun p m => hp p (List.mem_cons_of_mem _ m)) fun p m => ho p (List.mem_cons_of_mem _ m))
theorem cr_sortedD (hu : X.A.units + 64 < cLine) : CallR X (.builtin "sorted") (rSortedD X.K false) := by
  intro pins s σ H vs us Q I r h
  obtain ⟨a, ps, rfl, hs, hp, ho, q⟩ := h
  have so := SOk.of ho
  have so1 : ∀ p ∈ ps, p.2 ∈ ps.map Prod.snd := fun p m => List.mem_map.mpr ⟨p, m, rfl⟩
  obtain ⟨its, rv, hl, hz⟩ := I.list hs
  rw [Vals.ref1 r]
  have ev := vals_each rv rfl
  have er := each_reads I ev hp fun p m => so.ok _ (so1 p m)
  have em : ps.map (fun q => q.2.py) = (ps.map Prod.snd).map D.py := by rw [List.map_map]; rfl
  refine PySem.W.sorted_data (enc := fun q : V × D => q.2.py) hl.isList ev er ?_ ?_ (by simpa using hz) (fun p m => ?_) fun out h1 h2 => ?_
  · rw [em]
    intro d hd e he
    obtain ⟨x, hx, rfl⟩ := List.mem_map.mp hd
    obtain ⟨y, hy, rfl⟩ := List.mem_map.mp he
    exact so.alike x hx y hy
  · rw [em]; exact so.sortable
  · have := so.depth _ (so1 p m)
    omega
  · obtain ⟨ep, he'⟩ := PyProof.Rows.sortedAll_at s.heap its out.toArray
    have hlen : ((ps.mergeSort (PySem.W.dataLe false fun q => q.2.py)).map Prod.fst).length ≤ sizeLine := by
      rw [List.length_map, List.length_mergeSort]
      simpa using hz
    exact ⟨.ref _, upd H (s.heap.objs.size + 1) (.lst ((ps.mergeSort (PySem.W.dataLe false fun q => q.2.py)).map Prod.fst)), I.laid (t' := s.toks) (fun _ _ => PyProof.Rows.sortedAll_old) (Nat.le_succ _) ⟨hlen, out, ep, each_vals h2, he'⟩, rfl, q _ (I.hok.fresh (Nat.le_succ _))⟩
/-- with reverse= -/
def rSortedKD (K : PySem.W.Frag) (b : Bool) : List V → List V → Hp → VK → Prop := fun vs zs H Q => zs = [.bl b] ∧ rSortedD K b vs H Q
theorem cr_sortedKD {b : Bool} (hu : X.A.units + 64 < cLine) : CallRK X (.builtin "sorted") [Str.ofString "reverse"] (rSortedKD X.K b) := by
  intro pins s σ H vs zs us ws Q I r rz h
  obtain ⟨rfl, a, ps, rfl, hs, hp, ho, q⟩ := h
  obtain ⟨w1, rfl, e1⟩ := vals1 rz
  obtain rfl : w1 = Value.bool b := e1
  have so := SOk.of ho
  have so1 : ∀ p ∈ ps, p.2 ∈ ps.map Prod.snd := fun p m => List.mem_map.mpr ⟨p, m, rfl⟩
  obtain ⟨its, rv, hl, hz⟩ := I.list hs
  rw [Vals.ref1 r]
  have ev := vals_each rv rfl
  have er := each_reads I ev hp fun p m => so.ok _ (so1 p m)
  have em : ps.map (fun q => q.2.py) = (ps.map Prod.snd).map D.py := by rw [List.map_map]; rfl
  refine PySem.W.sorted_rev_data (enc := fun q : V × D => q.2.py) hl.isList ev er ?_ ?_ (by simpa using hz) (fun p m => ?_) fun out h1 h2 => ?_
  · rw [em]
    intro d hd e he
    obtain ⟨x, hx, rfl⟩ := List.mem_map.mp hd
    obtain ⟨y, hy, rfl⟩ := List.mem_map.mp he
    exact so.alike x hx y hy
  · rw [em]; exact so.sortable
  · have := so.depth _ (so1 p m)
    omega
  · obtain ⟨ep, he'⟩ := PyProof.Rows.sortedAll_at s.heap its out.toArray
    have hlen : ((ps.mergeSort (PySem.W.dataLe b fun q => q.2.py)).map Prod.fst).length ≤ sizeLine := by
      rw [List.length_map, List.length_mergeSort]
      simpa using hz
    exact ⟨.ref _, upd H (s.heap.objs.size + 1) (.lst ((ps.mergeSort (PySem.W.dataLe b fun q => q.2.py)).map Prod.fst)), I.laid (t' := s.toks) (fun _ _ => PyProof.Rows.sortedAll_old) (Nat.le_succ _) ⟨hlen, out, ep, each_vals h2, he'⟩, rfl, q _ (I.hok.fresh (Nat.le_succ _))⟩
end
/-! ### min, max -/
def minDD (d : D) (ds : List D) : D := ds.foldl (fun a y => if PySem.W.dataLt y.py a.py then y else a) d
def maxDD (d : D) (ds : List D) : D := ds.foldl (fun a y => if PySem.W.dataLt a.py y.py then y else a) d
theorem minDD_py : ∀ (ds : List D) (d : D), (minDD d ds).py = PySem.W.minD d.py (ds.map D.py)
  | [], d => rfl
  | e :: ds, d => by
    have h := minDD_py ds (if PySem.W.dataLt e.py d.py then e else d)
    unfold minDD PySem.W.minD at h ⊢
    rw [List.foldl_cons, h, List.map_cons, List.foldl_cons]
    congr 1
    split <;> rfl
theorem maxDD_py : ∀ (ds : List D) (d : D), (maxDD d ds).py = PySem.W.maxD d.py (ds.map D.py)
  | [], d => rfl
  | e :: ds, d => by
    have h := maxDD_py ds (if PySem.W.dataLt d.py e.py then e else d)
    unfold maxDD PySem.W.maxD at h ⊢
    rw [List.foldl_cons, h, List.map_cons, List.foldl_cons]
    congr 1
    split <;> rfl
theorem minDD_mem : ∀ (ds : List D) (d : D), minDD d ds ∈ d :: ds
  | [], d => List.mem_cons_self
  | e :: ds, d => by
    have h := minDD_mem ds (if PySem.W.dataLt e.py d.py then e else d)
    show minDD (if PySem.W.dataLt e.py d.py then e else d) ds ∈ _
    revert h
    split
    · exact fun h => List.mem_cons_of_mem _ h
    · intro h
      rcases List.mem_cons.mp h with h | h
      · rw [h]; exact List.mem_cons_self
      · exact List.mem_cons_of_mem _ (List.mem_cons_of_mem _ h)
theorem maxDD_mem : ∀ (ds : List D) (d : D), maxDD d ds ∈ d :: ds
  | [], d => List.mem_cons_self
  | e :: ds, d => by
    have h := maxDD_mem ds (if PySem.W.dataLt d.py e.py then e else d)
    show maxDD (if PySem.W.dataLt d.py e.py then e else d) ds ∈ _
    revert h
    split
    · exact fun h => List.mem_cons_of_mem _ h
    · intro h
      rcases List.mem_cons.mp h with h | h
      · rw [h]; exact List.mem_cons_self
      · exact List.mem_cons_of_mem _ (List.mem_cons_of_mem _ h)
def bestOf : Bool → List D → Option D
  | _, [] => none
  | true, d :: ds => some (maxDD d ds)
  | false, d :: ds => some (minDD d ds)
/-- max(xs), min(xs), xs a list -/
def rBest (K : PySem.W.Frag) (b : Bool) : List V → Hp → VK → Prop := fun vs H Q => ∃ (a : Addr) (ps : List (V × D)) (d : D), vs = [V.ref a] ∧ SqL K H a (ps.map Prod.fst) ∧ Prs K H ps ∧ sortOk (ps.map Prod.snd) = true ∧ bestOf b (ps.map Prod.snd) = some d ∧
  ∀ v : V, Rep K H d v [] → Q v H
def cBest (b : Bool) : List D → Option D
  | [.lst ds] => match sortOk ds with
    | true => bestOf b ds
    | false => none
  | _ => none
section
variable {K : PySem.W.Frag}
theorem rc_best {b : Bool} : RCall K (rBest K b) (cBest b) := by
  intro ds d e H vs rs Q q
  unfold cBest at e
  split at e
  · split at e
    · rename_i ds hc
      obtain ⟨v, F, rfl, r⟩ := rs.one
      obtain ⟨a, xs, G, rfl, sq, rl, _⟩ := RepL.sql r
      have hG := RepL.pure _ xs G rl (pureL_all (SOk.of hc).pure); subst hG
      obtain ⟨ps, rfl, rfl, hp⟩ := RepL.prs rl
      exact ⟨a, ps, d, rfl, sq, hp, hc, e, fun v r => q v H [] (New.nil H) r⟩
    · cases e
  · cases e
end
section
variable {X : Cx}
open PySem.W in
theorem each_at : ∀ {us : List Value} {ps : List (V × D)}, EachIs (fun v (p : V × D) => RelV p.1 v) us ps → ∀ {i : Nat} {v : Value}, us[i]? = some v → ∃ p ∈ ps, RelV p.1 v
  | _, _, .nil, i, v, h => by simp at h
  | _, _, .cons h t, 0, v, e => by
    cases e
    exact ⟨_, List.mem_cons_self, h⟩
  | _, _, .cons h t, i + 1, v, e => by
    obtain ⟨p, m, r⟩ := each_at t (i := i) (v := v) (by simpa using e)
    exact ⟨p, List.mem_cons_of_mem _ m, r⟩
theorem depthAll_le {ds : List D} (h : ∀ d ∈ ds, d.py.depth ≤ 1) : PyData.depthAll (ds.map D.py) ≤ 1 := by
  induction ds with
  | nil => simp [PyData.depthAll]
  | cons d ds ih =>
    rw [List.map_cons, PyData.depthAll]
    have := h d List.mem_cons_self
    have := ih fun e m => h e (List.mem_cons_of_mem _ m)
    omega
theorem best_fin {pins : List (Addr × Obj)} {σ : St} {H : Hp} {s : Shared} {ps : List (V × D)} {its : List Value} {d : D} {i : Nat} {v : Value} {h' : Heap} {bs : List Addr} (I : Inv X pins σ H s) (hp : Prs X.K H ps) (so : SOk (ps.map Prod.snd)) (ev : PySem.W.EachIs (fun v (p : V × D) => RelV p.1 v) its ps) (hd : d ∈ ps.map Prod.snd)
    (hi : its[i]? = some v) (hk : ∀ b o, s.heap.get? b = some o → h'.get? b = some o) (r : Reads h' v d.py bs) : ∃ x : V, RelV x v ∧ Rep X.K H d x [] := by
  obtain ⟨p, m, rp⟩ := each_at ev hi
  have m2 : p.2 ∈ ps.map Prod.snd := List.mem_map.mpr ⟨p, m, rfl⟩
  obtain ⟨as, r2⟩ := Dp.reads I _ _ _ (Rep.dp _ _ _ (hp p m) (so.ok _ m2)) rp
  have e := so.inj _ m2 _ hd (PySem.W.alike_unique _ _ _ _ _ (so.alike _ m2 _ hd) (PyProof.Rows.Reads.keeps hk r2) r)
  exact ⟨p.1, rp, by rw [← e]; exact hp p m⟩
theorem cr_best {b : Bool} (hc : X.calm = true) (hu : X.A.units + 64 < cLine) : CallR X (.builtin (if b then "max" else "min")) (rBest X.K b) := by
  intro pins s σ H vs us Q I r h
  obtain ⟨a, ps, d, rfl, hs, hp, ho, hd, q⟩ := h
  have so := SOk.of ho
  have so1 : ∀ p ∈ ps, p.2 ∈ ps.map Prod.snd := fun p m => List.mem_map.mpr ⟨p, m, rfl⟩
  obtain ⟨its, rv, hl, hz⟩ := I.list hs
  rw [Vals.ref1 r]
  have ev := vals_each rv rfl
  have er := each_reads I ev hp fun p m => so.ok _ (so1 p m)
  obtain ⟨as, ra⟩ := PySem.W.each_readsAll _ er
  have em : ps.map (fun q => q.2.py) = (ps.map Prod.snd).map D.py := by rw [List.map_map]; rfl
  rw [em] at ra
  have al : PySem.W.AlikeAll ((ps.map Prod.snd).map D.py) := by
    refine ⟨fun d hd e he => ?_, fun d hd => ?_⟩
    · obtain ⟨x, hx, rfl⟩ := List.mem_map.mp hd
      obtain ⟨y, hy, rfl⟩ := List.mem_map.mp he
      exact so.alike x hx y hy
    · obtain ⟨x, hx, rfl⟩ := List.mem_map.mp hd
      exact so.non x hx
  have dp := depthAll_le so.depth
  have hmem : d ∈ ps.map Prod.snd := by
    generalize ps.map Prod.snd = ds at hd
    cases ds with
    | nil => cases b <;> cases hd
    | cons e ds =>
      cases b <;> cases hd
      · exact minDD_mem ds e
      · exact maxDD_mem ds e
  have fin : ∀ (i : Nat) (v : Value) (h' : Heap) (tk : Nat) (bs : List Addr), its.toArray[i]? = some v → Reads h' v d.py bs → (∀ b o, s.heap.get? b = some o → h'.get? b = some o) → EP X pins σ Q v { s with heap := h', toks := tk } := by
    intro i v h' tk bs hi r hk
    obtain ⟨x, r1, r2⟩ := best_fin I hp so ev hmem (by simpa using hi) hk r
    exact ⟨x, H, I.kept hk, r1, q x r2⟩
  generalize ps.map Prod.snd = ds at hd ra al dp
  cases ds with
  | nil => cases b <;> cases hd
  | cons e ds =>
    rw [List.map_cons] at ra al dp
    cases b
    · cases hd
      rw [minDD_py] at fin
      exact PySem.W.min_list_data (I.ok.hd hc) hl.isList (by simpa using ra) al (by omega) fin
    · cases hd
      rw [maxDD_py] at fin
      exact PySem.W.max_list_data (I.ok.hd hc) hl.isList (by simpa using ra) al (by omega) fin
end
/-! ### the printed rules -/
section
variable {G : Gb} {S : Sc}
variable {p pos kpos : Pos} {e : Expr} {t : TA} {m : MA}
theorem b_sortD (hm : G.mg "sorted" = none) (hg : globOk S "sorted" = true) (ha : BA G S [e] t m) (h1 : ∀ env, starEach [e] env = [(false, eval e env)] := by intro _; rfl) : BE G S (.Call (.Name "sorted" p) [e] [] pos) (tCB (rSortedD G.K false) t) (mCB (cSortD false) m) :=
  b_callB (fun X g => by rw [← g.K]; exact cr_sortedD g.room.units) rc_sortD (by decide +kernel) hm hg ha h1 (by intro _; rfl)
theorem b_bestMax (hm : G.mg "max" = none) (hg : globOk S "max" = true) (ha : BA G S [e] t m) (h1 : ∀ env, starEach [e] env = [(false, eval e env)] := by intro _; rfl) : BE G S (.Call (.Name "max" p) [e] [] pos) (tCB (rBest G.K true) t) (mCB (cBest true) m) :=
  b_callB (fun X g => by rw [← g.K]; exact cr_best (b := true) g.calm g.room.units) rc_best (by decide +kernel) hm hg ha h1 (by intro _; rfl)
theorem b_bestMin (hm : G.mg "min" = none) (hg : globOk S "min" = true) (ha : BA G S [e] t m) (h1 : ∀ env, starEach [e] env = [(false, eval e env)] := by intro _; rfl) : BE G S (.Call (.Name "min" p) [e] [] pos) (tCB (rBest G.K false) t) (mCB (cBest false) m) :=
  b_callB (fun X g => by rw [← g.K]; exact cr_best (b := false) g.calm g.room.units) rc_best (by decide +kernel) hm hg ha h1 (by intro _; rfl)
/-- sorted(xs, reverse=True) -/
theorem b_sortR {apos : Pos} {j : Nat} (hm : G.mg "sorted" = none) (hg : globOk S "sorted" = true) (ha : BA G S [e] t m) (h1 : ∀ env, starEach [e] env = [(false, eval e env)] := by intro _; rfl) : BE G S (.Call (.Name "sorted" p) [e] [⟨some "reverse", .Constant (.bool true) j apos, kpos⟩] pos) (tCKw (rSortedKD G.K true) t (tCons (tC (.bl true)) tNil)) (mCB (cSortD true) m) := by
  refine ⟨fun X g => ?_, ?_⟩
  · refine pe_callBK (ks := [Str.ofString "reverse"]) (by rw [← g.K]; exact cr_sortedKD g.room.units) (globOk_gl g hg).1 (by rw [g.mg]; exact hm) (by decide +kernel) (ha.pa X g) (pk_cons pe_bl pk_nil) (globOk_gl g hg).2.2 (globOk_gl g hg).2.1 (by rw [h1]; rfl) (by rw [h1]; rfl) rfl rfl rfl
  · have h0 : RCall G.K (fun vs H Q => rSortedKD G.K true vs [.bl true] H Q) (cSortD true) := fun ds d e H vs rs Q q => ⟨rfl, rc_sortD ds d e H vs rs Q q⟩
    have := so_cb (K := G.K) h0 ha.sa
    intro ρ o ρ' e1 T σ H fp R Q h
    exact this ρ o ρ' e1 T σ H fp R _ h
end
end U

/-! W7: sorted, min, max by rows of numbers. -/
namespace U.P
open PySem L2 U
/-- data that are numbers, with the number -/
class IntF {α : Type} (f : α → D) (a : outParam (α → Int)) : Prop where
  eq : ∀ x, f x = .int (a x)
instance if_n : IntF nD (fun n => (n : Int)) := ⟨fun _ => rfl⟩
instance if_i : IntF iD (fun i => i) := ⟨fun _ => rfl⟩
/-- three -/
abbrev t3D {α β γ : Type} (f : α → D) (g : β → D) (h : γ → D) (p : α × β × γ) : D := .tup [f p.1, g p.2.1, h p.2.2]
instance pu_t3 {α β γ : Type} {f : α → D} {g : β → D} {h : γ → D} [a : PuF f] [b : PuF g] [c : PuF h] : PuF (t3D f g h) := ⟨fun p => by simp [D.pure, D.pureL, a.eq, b.eq, c.eq]⟩
/-- data that can be put in order: by rows of numbers -/
class RowF {α : Type} (f : α → D) (k : outParam (α → List Int)) : Prop where
  ok : (∀ x, (f x).isInt = true) ∨ ∀ x, (f x).isRow = true
  lt : ∀ x y, PySem.W.dataLt (f x).py (f y).py = decide (k x < k y)
theorem lt_one (i j : Int) : ([i] < [j]) ↔ i < j := by simp [List.cons_lt_cons_iff]
theorem lt_two (a b c d : Int) : ([a, b] < [c, d]) ↔ a < c ∨ (a = c ∧ b < d) := by simp [List.cons_lt_cons_iff]
theorem lt_three (a b c d e f : Int) : ([a, b, c] < [d, e, f]) ↔ a < d ∨ (a = d ∧ (b < e ∨ (b = e ∧ c < f))) := by simp [List.cons_lt_cons_iff]
theorem dataLt_row (xs ys : List Int) : PySem.W.dataLt (D.tup (xs.map D.int)).py (D.tup (ys.map D.int)).py = decide (xs < ys) := by
  rw [row_py, row_py, PySem.W.dataLt_tuple]
  exact PySem.W.dataLt_ints xs ys
instance (priority := low) rf_i {α : Type} {f : α → D} {a : α → Int} [h : IntF f a] : RowF f (fun x => [a x]) := ⟨.inl fun x => by rw [h.eq]; rfl, fun x y => by
  rw [h.eq, h.eq]
  show PySem.W.dataLt (.int _) (.int _) = _
  rw [PySem.W.dataLt_int]
  exact decide_eq_decide.mpr (lt_one _ _).symm⟩
instance rf_p {α β : Type} {f : α → D} {g : β → D} {a : α → Int} {b : β → Int} [h : IntF f a] [h' : IntF g b] : RowF (pD f g) (fun p => [a p.1, b p.2]) := ⟨.inr fun x => by show (D.tup _).isRow = true; simp [h.eq, h'.eq, D.isRow, D.isInt], fun x y => by
  show PySem.W.dataLt (D.tup [f x.1, g x.2]).py (D.tup [f y.1, g y.2]).py = _
  rw [h.eq, h'.eq, h.eq, h'.eq]
  exact dataLt_row [_, _] [_, _]⟩
instance rf_t {α β γ : Type} {f : α → D} {g : β → D} {h : γ → D} {a : α → Int} {b : β → Int} {c : γ → Int} [hf : IntF f a] [hg : IntF g b] [hh : IntF h c] : RowF (t3D f g h) (fun p => [a p.1, b p.2.1, c p.2.2]) := ⟨.inr fun x => by show (D.tup _).isRow = true; simp [hf.eq, hg.eq, hh.eq, D.isRow, D.isInt], fun x y => by
  show PySem.W.dataLt (D.tup [f x.1, g x.2.1, h x.2.2]).py (D.tup [f y.1, g y.2.1, h y.2.2]).py = _
  rw [hf.eq, hg.eq, hh.eq, hf.eq, hg.eq, hh.eq]
  exact dataLt_row [_, _, _] [_, _, _]⟩
theorem sortOk_map {α : Type} {f : α → D} {k : α → List Int} (h : RowF f k) (xs : List α) : sortOk (xs.map f) = true := by
  unfold sortOk
  rw [Bool.or_eq_true, List.all_eq_true, List.all_eq_true]
  rcases h.ok with h | h
  · left
    intro d m
    obtain ⟨x, _, rfl⟩ := List.mem_map.mp m
    exact h x
  · right
    intro d m
    obtain ⟨x, _, rfl⟩ := List.mem_map.mp m
    exact h x
/-- put in order by the rows k -/
def sortK {α : Type} (b : Bool) (k : α → List Int) (xs : List α) : List α := xs.mergeSort fun x y => cond b (!decide (k x < k y)) (!decide (k y < k x))
theorem sortD_map {α : Type} {f : α → D} {k : α → List Int} (h : RowF f k) (b : Bool) (xs : List α) : sortD b (xs.map f) = (sortK b k xs).map f := by
  unfold sortD sortK
  rw [List.map_mergeSort (s := PySem.W.dataLe b D.py)]
  intro x _ y _
  rw [PySem.W.dataLe_eq]
  dsimp only
  rw [h.lt, h.lt]
section
variable {α : Type} {k : α → List Int}
theorem ltL_trans {a b c : List Int} (h : a < b) (h' : b < c) : a < c := List.lt_trans h h'
theorem ltL_irr (a : List Int) : ¬ a < a := List.lt_irrefl a
theorem ltL_tot {a b : List Int} (h : ¬ a < b) (h' : ¬ b < a) : a = b := List.le_antisymm (List.not_lt.mp h') (List.not_lt.mp h)
theorem nlt_trans {a b c : List Int} (h : ¬ b < a) (h' : ¬ c < b) : ¬ c < a := fun hc => by
  rcases Classical.em (b = c) with e | e
  · subst e; exact h hc
  · rcases Classical.em (b < c) with hb | hb
    · exact h (ltL_trans hb hc)
    · exact e (ltL_tot hb h')
theorem sortK_perm (b : Bool) (k : α → List Int) (xs : List α) : (sortK b k xs).Perm xs := List.mergeSort_perm xs _
theorem sortK_mem {b : Bool} {xs : List α} {x : α} : x ∈ sortK b k xs ↔ x ∈ xs := (sortK_perm b k xs).mem_iff
theorem sortK_len (b : Bool) (k : α → List Int) (xs : List α) : (sortK b k xs).length = xs.length := (sortK_perm b k xs).length_eq
/-- rising -/
theorem sortK_up (k : α → List Int) (xs : List α) : (sortK false k xs).Pairwise fun x y => ¬ k y < k x := by
  have := List.pairwise_mergeSort (le := fun x y : α => cond false (!decide (k x < k y)) (!decide (k y < k x))) (fun a b c h1 h2 => by
    simp only [cond_false, Bool.not_eq_true', decide_eq_false_iff_not] at *
    exact nlt_trans h1 h2) (fun a b => by
    simp only [cond_false, Bool.or_eq_true, Bool.not_eq_true', decide_eq_false_iff_not]
    rcases Classical.em (k b < k a) with h | h
    · exact .inr fun h' => ltL_irr _ (ltL_trans h h')
    · exact .inl h) xs
  exact this.imp fun h => by simpa using h
/-- falling -/
theorem sortK_down (k : α → List Int) (xs : List α) : (sortK true k xs).Pairwise fun x y => ¬ k x < k y := by
  have := List.pairwise_mergeSort (le := fun x y : α => cond true (!decide (k x < k y)) (!decide (k y < k x))) (fun a b c h1 h2 => by
    simp only [cond_true, Bool.not_eq_true', decide_eq_false_iff_not] at *
    exact nlt_trans h2 h1) (fun a b => by
    simp only [cond_true, Bool.or_eq_true, Bool.not_eq_true', decide_eq_false_iff_not]
    rcases Classical.em (k a < k b) with h | h
    · exact .inr fun h' => ltL_irr _ (ltL_trans h h')
    · exact .inl h) xs
  exact this.imp fun h => by simpa using h
def minK (k : α → List Int) (x : α) (xs : List α) : α := xs.foldl (fun a y => if k y < k a then y else a) x
def maxK (k : α → List Int) (x : α) (xs : List α) : α := xs.foldl (fun a y => if k a < k y then y else a) x
theorem minK_ok (k : α → List Int) : ∀ (xs : List α) (x : α), minK k x xs ∈ x :: xs ∧ ∀ y ∈ x :: xs, ¬ k y < k (minK k x xs)
  | [], x => ⟨List.mem_cons_self, fun y m => by rcases List.mem_cons.mp m with rfl | m <;> first | exact ltL_irr _ | cases m⟩
  | z :: xs, x => by
    obtain ⟨h1, h2⟩ := minK_ok k xs (if k z < k x then z else x)
    have e : minK k x (z :: xs) = minK k (if k z < k x then z else x) xs := rfl
    rw [e]
    generalize minK k (if k z < k x then z else x) xs = w at h1 h2
    by_cases hz : k z < k x
    · rw [if_pos hz] at h1 h2
      refine ⟨List.mem_cons_of_mem _ h1, fun y m => ?_⟩
      rcases List.mem_cons.mp m with rfl | m
      · exact fun h => h2 z List.mem_cons_self (ltL_trans hz h)
      · exact h2 y m
    · rw [if_neg hz] at h1 h2
      refine ⟨?_, fun y m => ?_⟩
      · rcases List.mem_cons.mp h1 with h | h
        · rw [h]; exact List.mem_cons_self
        · exact List.mem_cons_of_mem _ (List.mem_cons_of_mem _ h)
      · rcases List.mem_cons.mp m with rfl | m
        · exact h2 _ List.mem_cons_self
        · rcases List.mem_cons.mp m with rfl | m
          · exact nlt_trans (h2 x List.mem_cons_self) hz
          · exact h2 y (List.mem_cons_of_mem _ m)
theorem maxK_ok (k : α → List Int) : ∀ (xs : List α) (x : α), maxK k x xs ∈ x :: xs ∧ ∀ y ∈ x :: xs, ¬ k (maxK k x xs) < k y
  | [], x => ⟨List.mem_cons_self, fun y m => by rcases List.mem_cons.mp m with rfl | m <;> first | exact ltL_irr _ | cases m⟩
  | z :: xs, x => by
    obtain ⟨h1, h2⟩ := maxK_ok k xs (if k x < k z then z else x)
    have e : maxK k x (z :: xs) = maxK k (if k x < k z then z else x) xs := rfl
    rw [e]
    generalize maxK k (if k x < k z then z else x) xs = w at h1 h2
    by_cases hz : k x < k z
    · rw [if_pos hz] at h1 h2
      refine ⟨List.mem_cons_of_mem _ h1, fun y m => ?_⟩
      rcases List.mem_cons.mp m with rfl | m
      · exact fun h => h2 z List.mem_cons_self (ltL_trans h hz)
      · exact h2 y m
    · rw [if_neg hz] at h1 h2
      refine ⟨?_, fun y m => ?_⟩
      · rcases List.mem_cons.mp h1 with h | h
        · rw [h]; exact List.mem_cons_self
        · exact List.mem_cons_of_mem _ (List.mem_cons_of_mem _ h)
      · rcases List.mem_cons.mp m with rfl | m
        · exact h2 _ List.mem_cons_self
        · rcases List.mem_cons.mp m with rfl | m
          · exact nlt_trans hz (h2 x List.mem_cons_self)
          · exact h2 y (List.mem_cons_of_mem _ m)
theorem minDD_map {f : α → D} (h : RowF f k) : ∀ (xs : List α) (x : α), minDD (f x) (xs.map f) = f (minK k x xs)
  | [], x => rfl
  | z :: xs, x => by
    have e : minDD (f x) ((z :: xs).map f) = minDD (if PySem.W.dataLt (f z).py (f x).py then f z else f x) (xs.map f) := rfl
    have e2 : minK k x (z :: xs) = minK k (if k z < k x then z else x) xs := rfl
    rw [e, e2, h.lt, ← minDD_map h xs]
    by_cases hz : k z < k x <;> simp [hz]
theorem maxDD_map {f : α → D} (h : RowF f k) : ∀ (xs : List α) (x : α), maxDD (f x) (xs.map f) = f (maxK k x xs)
  | [], x => rfl
  | z :: xs, x => by
    have e : maxDD (f x) ((z :: xs).map f) = maxDD (if PySem.W.dataLt (f x).py (f z).py then f z else f x) (xs.map f) := rfl
    have e2 : maxK k x (z :: xs) = maxK k (if k x < k z then z else x) xs := rfl
    rw [e, e2, h.lt, ← maxDD_map h xs]
    by_cases hz : k x < k z <;> simp [hz]
end
theorem sortK_nat (xs : List Nat) : sortK false (fun n : Nat => [(n : Int)]) xs = sortN xs := by
  unfold sortK sortN
  congr 1
  funext x y
  simp only [cond_false, lt_one]
  by_cases h : (y : Int) < x
  · have : ¬ x ≤ y := by omega
    simp [h, this]
  · have : x ≤ y := by omega
    simp [h, this]
/-- falling -/
def sortR (xs : List Nat) : List Nat := sortK true (fun n : Nat => [(n : Int)]) xs
theorem sortR_perm (xs : List Nat) : (sortR xs).Perm xs := sortK_perm _ _ _
theorem sortR_ge (xs : List Nat) : (sortR xs).Pairwise (· ≥ ·) := (sortK_down _ xs).imp fun {x y} h => by
  rw [lt_one] at h
  omega
theorem sortR_mem {xs : List Nat} {x : Nat} : x ∈ sortR xs ↔ x ∈ xs := (sortR_perm xs).mem_iff
theorem sortR_len (xs : List Nat) : (sortR xs).length = xs.length := (sortR_perm xs).length_eq
section
variable {Q : D → Prop} {α : Type} {f : α → D} {k : α → List Int} {xs : List α}
instance (priority := low) q_sortD {b : Bool} [h : RowF f k] : St (W1 (cSortD b [.lst (xs.map f)]) Q) (Q (.lst ((sortK b k xs).map f))) := ⟨fun q => ⟨_, by
  simp only [cSortD, sortOk_map h, sortD_map h], q⟩⟩
instance q_sortDN {xs : List Nat} : St (W1 (cSortD false [.lst (xs.map nD)]) Q) (Q (.lst ((sortN xs).map nD))) := ⟨fun q => ⟨_, by
  simp only [cSortD, sortOk_map (rf_i (f := nD)), sortD_map (rf_i (f := nD)), sortK_nat], q⟩⟩
instance q_sortDR {xs : List Nat} : St (W1 (cSortD true [.lst (xs.map nD)]) Q) (Q (.lst ((sortR xs).map nD))) := ⟨fun q => ⟨_, by
  simp only [cSortD, sortOk_map (rf_i (f := nD)), sortD_map (rf_i (f := nD))]; rfl, q⟩⟩
instance q_sortD0 {b : Bool} : St (W1 (cSortD b [.lst []]) Q) (Q (.lst [])) := ⟨fun q => ⟨_, by simp [cSortD, sortOk, sortD], q⟩⟩
instance (priority := low) q_bestMin [h : RowF f k] : St (W1 (cBest false [.lst (xs.map f)]) Q) (WP (xs ≠ []) (∀ m, m ∈ xs → (∀ y ∈ xs, ¬ k y < k m) → Q (f m))) := ⟨fun ⟨h0, q⟩ => by
  cases xs with
  | nil => exact absurd rfl h0
  | cons x xs =>
    obtain ⟨h1, h2⟩ := minK_ok k xs x
    exact ⟨f (minK k x xs), by simp only [cBest, sortOk_map h]; rw [List.map_cons, bestOf, minDD_map h], q _ h1 h2⟩⟩
instance (priority := low) q_bestMax [h : RowF f k] : St (W1 (cBest true [.lst (xs.map f)]) Q) (WP (xs ≠ []) (∀ m, m ∈ xs → (∀ y ∈ xs, ¬ k m < k y) → Q (f m))) := ⟨fun ⟨h0, q⟩ => by
  cases xs with
  | nil => exact absurd rfl h0
  | cons x xs =>
    obtain ⟨h1, h2⟩ := maxK_ok k xs x
    exact ⟨f (maxK k x xs), by simp only [cBest, sortOk_map h]; rw [List.map_cons, bestOf, maxDD_map h], q _ h1 h2⟩⟩
instance q_bestMinN {xs : List Nat} : St (W1 (cBest false [.lst (xs.map nD)]) Q) (WP (xs ≠ []) (∀ m, m ∈ xs → (∀ y ∈ xs, m ≤ y) → Q (.int ((m : Nat) : Int)))) := ⟨fun ⟨h0, q⟩ => (q_bestMin (f := nD)).pf ⟨h0, fun m h1 h2 => q m h1 fun y hy => by
  have := h2 y hy
  rw [lt_one] at this
  omega⟩⟩
instance q_bestMaxN {xs : List Nat} : St (W1 (cBest true [.lst (xs.map nD)]) Q) (WP (xs ≠ []) (∀ m, m ∈ xs → (∀ y ∈ xs, y ≤ m) → Q (.int ((m : Nat) : Int)))) := ⟨fun ⟨h0, q⟩ => (q_bestMax (f := nD)).pf ⟨h0, fun m h1 h2 => q m h1 fun y hy => by
  have := h2 y hy
  rw [lt_one] at this
  omega⟩⟩
/-- the least of pairs of numbers -/
instance q_bestMinP {xs : List (Nat × Nat)} : St (W1 (cBest false [.lst (xs.map (pD nD nD))]) Q) (WP (xs ≠ []) (∀ m, m ∈ xs → (∀ y ∈ xs, m.1 < y.1 ∨ (m.1 = y.1 ∧ m.2 ≤ y.2)) → Q (pD nD nD m))) := ⟨fun ⟨h0, q⟩ => (q_bestMin (f := pD nD nD)).pf ⟨h0, fun m h1 h2 => q m h1 fun y hy => by
  have := h2 y hy
  rw [lt_two] at this
  omega⟩⟩
instance q_bestMaxP {xs : List (Nat × Nat)} : St (W1 (cBest true [.lst (xs.map (pD nD nD))]) Q) (WP (xs ≠ []) (∀ m, m ∈ xs → (∀ y ∈ xs, y.1 < m.1 ∨ (y.1 = m.1 ∧ y.2 ≤ m.2)) → Q (pD nD nD m))) := ⟨fun ⟨h0, q⟩ => (q_bestMax (f := pD nD nD)).pf ⟨h0, fun m h1 h2 => q m h1 fun y hy => by
  have := h2 y hy
  rw [lt_two] at this
  omega⟩⟩
end
/-! ### a stretch -/
theorem Bd.sub {w : Nat} {xs ys : List Nat} (h : Bd w xs) (hs : ∀ y ∈ ys, y ∈ xs) : Bd w ys := fun y hy => h y (hs y hy)
abbrev cutN (xs : List Nat) (b e : Nat) : List Nat := (xs.take e).drop b
theorem cut_mem {xs : List Nat} {b e : Nat} : ∀ y ∈ cutN xs b e, y ∈ xs := fun y hy => List.mem_of_mem_take (List.mem_of_mem_drop hy)
theorem cut_len {xs : List Nat} {b e : Nat} : (cutN xs b e).length ≤ xs.length := by simp; omega
/-! ### == of more kinds -/
section
variable {α β γ : Type} [DecidableEq α] [DecidableEq β] [DecidableEq γ] {f : α → D} {g : β → D} {h : γ → D} {k l m : Nat}
instance ef_b : EqF bD 0 := ⟨fun _ => rfl, fun _ => rfl, fun _ => Nat.le_refl _, fun x y => by
  simp only [D.py, PyData.eqv]
  cases x <;> cases y <;> rfl⟩
abbrev sD (x : Str) : D := .str x
theorem dec_pair {α β : Type} [DecidableEq α] [DecidableEq β] (x y : α × β) : (decide (x.1 = y.1) && decide (x.2 = y.2)) = decide (x = y) := by
  rw [← Bool.decide_and]
  exact decide_eq_decide.mpr ⟨fun h => Prod.ext h.1 h.2, fun h => by rw [h]; exact ⟨rfl, rfl⟩⟩
instance ef_p [a : EqF f k] [b : EqF g l] : EqF (pD f g) (max k l + 1) := ⟨fun x => by simp [D.ok, D.oks, a.ok, b.ok], fun x => by simp [D.py, D.pys, PyData.canLay0, PyData.canLayAll0, a.lay, b.lay], fun x => by
  have h1 := a.dep x.1
  have h2 := b.dep x.2
  simp only [D.py, D.pys, PyData.depth, PyData.depthAll]
  omega, fun x y => by
  simp only [D.py, D.pys, PyData.eqv, PyData.eqvAll, a.eqv, b.eqv, Bool.and_true]
  exact dec_pair x y⟩
instance ef_t3 [a : EqF f k] [b : EqF g l] [c : EqF h m] : EqF (t3D f g h) (max k (max l m) + 1) := ⟨fun x => by simp [D.ok, D.oks, a.ok, b.ok, c.ok], fun x => by simp [D.py, D.pys, PyData.canLay0, PyData.canLayAll0, a.lay, b.lay, c.lay], fun x => by
  have h1 := a.dep x.1
  have h2 := b.dep x.2.1
  have h3 := c.dep x.2.2
  simp only [D.py, D.pys, PyData.depth, PyData.depthAll]
  omega, fun x y => by
  simp only [D.py, D.pys, PyData.eqv, PyData.eqvAll, a.eqv, b.eqv, c.eqv, Bool.and_true]
  rw [dec_pair x.2 y.2, dec_pair x y]⟩
end
/-- two data, and whether they are == -/
class Eq2 (d e : D) (b : outParam Bool) (k : outParam Nat) : Prop where
  ok : d.ok = true ∧ e.ok = true
  lay : PyData.canLay0 d.py = true ∧ PyData.canLay0 e.py = true
  dep : PyData.depth d.py ≤ k ∧ PyData.depth e.py ≤ k
  eqv : PyData.eqv d.py e.py = b
class Eq2L (ds es : List D) (b : outParam Bool) (k : outParam Nat) : Prop where
  ok : D.oks ds = true ∧ D.oks es = true
  lay : PyData.canLayAll0 (D.pys ds) = true ∧ PyData.canLayAll0 (D.pys es) = true
  dep : PyData.depthAll (D.pys ds) ≤ k ∧ PyData.depthAll (D.pys es) ≤ k
  eqv : PyData.eqvAll (D.pys ds) (D.pys es) = b
section
variable {d e : D} {ds es : List D} {b c : Bool} {k l : Nat}
instance (priority := low) e2_i {i j : Int} : Eq2 (.int i) (.int j) (decide (i = j)) 0 := ⟨⟨rfl, rfl⟩, ⟨rfl, rfl⟩, ⟨Nat.le_refl _, Nat.le_refl _⟩, by
  have := (ef_i).eqv i j
  exact this⟩
instance e2_n {i j : Int} {m n : Nat} [a : NatI i m] [b : NatI j n] : Eq2 (.int i) (.int j) (decide (m = n)) 0 := ⟨⟨rfl, rfl⟩, ⟨rfl, rfl⟩, ⟨Nat.le_refl _, Nat.le_refl _⟩, by
  rw [a.eq, b.eq]
  exact (ef_n).eqv m n⟩
instance e2_b {x y : Bool} : Eq2 (.bl x) (.bl y) (decide (x = y)) 0 := ⟨⟨rfl, rfl⟩, ⟨rfl, rfl⟩, ⟨Nat.le_refl _, Nat.le_refl _⟩, (ef_b).eqv x y⟩
instance e2_non : Eq2 .non .non true 0 := ⟨⟨rfl, rfl⟩, ⟨rfl, rfl⟩, ⟨Nat.le_refl _, Nat.le_refl _⟩, rfl⟩
instance e2_ni {i : Int} : Eq2 .non (.int i) false 0 := ⟨⟨rfl, rfl⟩, ⟨rfl, rfl⟩, ⟨Nat.le_refl _, Nat.le_refl _⟩, rfl⟩
instance e2_in {i : Int} : Eq2 (.int i) .non false 0 := ⟨⟨rfl, rfl⟩, ⟨rfl, rfl⟩, ⟨Nat.le_refl _, Nat.le_refl _⟩, rfl⟩
instance e2l_n : Eq2L [] [] true 0 := ⟨⟨rfl, rfl⟩, ⟨rfl, rfl⟩, ⟨Nat.le_refl _, Nat.le_refl _⟩, rfl⟩
instance e2l_c [h : Eq2 d e b k] [h' : Eq2L ds es c l] : Eq2L (d :: ds) (e :: es) (b && c) (max k l) := ⟨⟨by simp [D.oks, h.ok.1, h'.ok.1], by simp [D.oks, h.ok.2, h'.ok.2]⟩, ⟨by simp [D.pys, PyData.canLayAll0, h.lay.1, h'.lay.1], by simp [D.pys, PyData.canLayAll0, h.lay.2, h'.lay.2]⟩, ⟨by
  have h1 := h.dep.1
  have h2 := h'.dep.1
  simp only [D.pys, PyData.depthAll]
  omega, by
  have h1 := h.dep.2
  have h2 := h'.dep.2
  simp only [D.pys, PyData.depthAll]
  omega⟩, by simp only [D.pys, PyData.eqvAll, h.eqv, h'.eqv]⟩
instance (priority := high) e2l_m {α : Type} [DecidableEq α] {f : α → D} {xs ys : List α} [h : EqF f k] : Eq2L (xs.map f) (ys.map f) (decide (xs = ys)) k := ⟨⟨ef_oks h xs, ef_oks h ys⟩, ⟨ef_lays h xs, ef_lays h ys⟩, ⟨ef_deps h xs, ef_deps h ys⟩, ef_eqvs h xs ys⟩
instance e2l_m0 {α : Type} [DecidableEq α] {f : α → D} {xs : List α} [h : EqF f k] : Eq2L (xs.map f) [] (decide (xs = [])) k := ⟨⟨ef_oks h xs, rfl⟩, ⟨ef_lays h xs, rfl⟩, ⟨ef_deps h xs, Nat.zero_le _⟩, ef_eqvs h xs []⟩
instance e2_t [h : Eq2L ds es b k] : Eq2 (.tup ds) (.tup es) b (k + 1) := ⟨h.ok, h.lay, ⟨by have := h.dep.1; simp only [D.py, PyData.depth]; omega, by have := h.dep.2; simp only [D.py, PyData.depth]; omega⟩, by simp only [D.py, PyData.eqv, h.eqv]⟩
instance e2_l [h : Eq2L ds es b k] : Eq2 (.lst ds) (.lst es) b (k + 1) := ⟨h.ok, h.lay, ⟨by have := h.dep.1; simp only [D.py, PyData.depth]; omega, by have := h.dep.2; simp only [D.py, PyData.depth]; omega⟩, by simp only [D.py, PyData.eqv, h.eqv]⟩
theorem eq2_D (h : Eq2 d e b k) (hk : k < 60) : eqD d e = some b := by
  have h1 := h.dep
  have s1 : SeqAt.shaped d.py = true := by
    simp only [SeqAt.shaped, h.lay.1, Bool.true_and]
    exact decide_eq_true (by omega)
  have s2 : SeqAt.shaped e.py = true := by
    simp only [SeqAt.shaped, h.lay.2, Bool.true_and]
    exact decide_eq_true (by omega)
  simp only [eqD, h.ok.1, h.ok.2, s1, s2, Bool.and_self, h.eqv]
variable {Q : D → Prop}
instance (priority := low) q_eqT2 [h : Eq2 (.tup ds) (.tup es) b k] : St (W1 (dEq (.tup ds) (.tup es)) Q) (WP (k < 60) (Q (.bl b))) := ⟨fun ⟨hk, q⟩ => ⟨_, by simp only [dEq, eq2_D h hk, Option.map_some], q⟩⟩
instance (priority := low) q_neT2 [h : Eq2 (.tup ds) (.tup es) b k] : St (W1 (dNe (.tup ds) (.tup es)) Q) (WP (k < 60) (Q (.bl (!b)))) := ⟨fun ⟨hk, q⟩ => ⟨_, by simp only [dNe, eq2_D h hk, Option.map_some], q⟩⟩
instance (priority := low) q_eqL2 [h : Eq2 (.lst ds) (.lst es) b k] : St (W1 (dEq (.lst ds) (.lst es)) Q) (WP (k < 60) (Q (.bl b))) := ⟨fun ⟨hk, q⟩ => ⟨_, by simp only [dEq, eq2_D h hk, Option.map_some], q⟩⟩
instance (priority := low) q_neL2 [h : Eq2 (.lst ds) (.lst es) b k] : St (W1 (dNe (.lst ds) (.lst es)) Q) (WP (k < 60) (Q (.bl (!b)))) := ⟨fun ⟨hk, q⟩ => ⟨_, by simp only [dNe, eq2_D h hk, Option.map_some], q⟩⟩
end
end U.P

/-! U15e: count, remove, index, in of data; str, bool of a number; list(range). -/
namespace U
open PySem L2
def D.isBl : D → Bool
  | .bl _ => true
  | _ => false
/-- all truths, all numbers, or all rows of numbers -/
def kindOk (ds : List D) : Bool := ds.all D.isBl || sortOk ds
structure KOk (ds : List D) : Prop where
  ok : ∀ d ∈ ds, d.ok = true
  lay : ∀ d ∈ ds, PyData.canLay0 d.py = true
  plain : ∀ d ∈ ds, d.py.plain = true
  depth : ∀ d ∈ ds, d.py.depth ≤ 1
  pure : ∀ d ∈ ds, D.pureL [d] = true
theorem isBl_py {d : D} (h : d.isBl = true) : ∃ i, d = .bl i := by
  cases d <;> first | exact ⟨_, rfl⟩ | cases h
theorem lay_ints : ∀ ns : List Int, PyData.canLayAll0 (ns.map .int) = true
  | [] => rfl
  | n :: ns => by rw [List.map_cons, PyData.canLayAll0, lay_ints ns]; rfl
theorem KOk.of {ds : List D} (h : kindOk ds = true) : KOk ds := by
  unfold kindOk at h
  rw [Bool.or_eq_true] at h
  have pl : ∀ {d : D}, PyData.canLay0 d.py = true → d.py.plain = true := fun h => PyData.plain_of_canLay0 _ h
  rcases h with h | h
  · rw [List.all_eq_true] at h
    refine ⟨fun d m => ?_, fun d m => ?_, fun d m => ?_, fun d m => ?_, fun d m => ?_⟩ <;> (obtain ⟨i, rfl⟩ := isBl_py (h d m)) <;> first | rfl | simp [D.py, PyData.depth]
  · have so := SOk.of h
    have hl : ∀ d ∈ ds, PyData.canLay0 d.py = true := fun d m => by
      unfold sortOk at h
      rw [Bool.or_eq_true, List.all_eq_true, List.all_eq_true] at h
      rcases h with h | h
      · obtain ⟨i, rfl⟩ := isInt_py (h d m); rfl
      · obtain ⟨i, ns, rfl⟩ := isRow_py (h d m)
        rw [row_py, PyData.canLay0]
        exact lay_ints _
    exact ⟨so.ok, hl, fun d m => pl (hl d m), so.depth, so.pure⟩
theorem oks_all {ds : List D} (h : ∀ d ∈ ds, d.ok = true) : D.oks ds = true := by
  induction ds with
  | nil => rfl
  | cons d ds ih => rw [D.oks, h d List.mem_cons_self, ih fun e m => h e (List.mem_cons_of_mem _ m)]; rfl
theorem plain_all {ds : List D} (h : ∀ d ∈ ds, d.py.plain = true) : PyData.plainAll (D.pys ds) = true := by
  induction ds with
  | nil => rfl
  | cons d ds ih => rw [D.pys, PyData.plainAll, h d List.mem_cons_self, ih fun e m => h e (List.mem_cons_of_mem _ m)]; rfl
theorem lay_all {ds : List D} (h : ∀ d ∈ ds, PyData.canLay0 d.py = true) : PyData.canLayAll0 (D.pys ds) = true := by
  induction ds with
  | nil => rfl
  | cons d ds ih => rw [D.pys, PyData.canLayAll0, h d List.mem_cons_self, ih fun e m => h e (List.mem_cons_of_mem _ m)]; rfl
/-- d is y, as Python's == says -/
def eqB (k y : D) : Bool := PyData.eqv y.py k.py
theorem count_pys (k : D) (ds : List D) : (D.pys ds).countP (fun y => PyData.eqv y k.py) = ds.countP (eqB k) := by
  rw [pys_map, List.countP_map]
  rfl
theorem place_pys (k : D) (ds : List D) : PySem.SeqAt.dataPlace (D.pys ds) k.py = ds.findIdx? (eqB k) := by
  unfold PySem.SeqAt.dataPlace
  rw [pys_map, List.findIdx?_map]
  rfl
theorem any_pys (k : D) (ds : List D) : (D.pys ds).any (fun y => PyData.eqv y k.py) = ds.any (eqB k) := by
  rw [pys_map, List.any_map]
  rfl
section
variable {K : PySem.W.Frag}
def xCountD : List D → List D → Option D
  | ds, [k] => match kindOk (k :: ds) with
    | true => some (.int (ds.countP (eqB k) : Nat))
    | false => none
  | _, _ => none
def rCntD (K : PySem.W.Frag) : V → List V → Hp → VK → Prop := fun x xs H Q => ∃ (a : Addr) (y : V) (vs : List V) (k : D) (ds : List D), x = V.ref a ∧ xs = [y] ∧ SqL K H a vs ∧ DpAll K H vs (D.pys ds) ∧ Dp K H y k.py ∧ kindOk (k :: ds) = true ∧ Q (.int (ds.countP (eqB k) : Nat)) H
theorem rm_countD : RMeth K (rCntD K) xCountD := by
  intro xs ds d e H v vs F r rs Q q
  unfold xCountD at e
  split at e
  · rename_i k
    split at e
    · rename_i hc
      cases e
      have ko := KOk.of hc
      obtain ⟨a, ys, G, rfl, sq, rl, _⟩ := RepL.sql r
      obtain ⟨w, Fw, rfl, rw'⟩ := rs.one
      exact ⟨a, w, ys, k, xs, rfl, rfl, sq, RepL.dps _ _ _ rl (oks_all fun d m => ko.ok d (List.mem_cons_of_mem _ m)), Rep.dp _ _ _ rw' (ko.ok _ List.mem_cons_self), hc, q _ H [] (New.nil H) (by simp [Rep])⟩
    · cases e
  · cases e
/-- xs.index(k) -/
def xIndexD : List D → List D → Option D
  | ds, [k] => match kindOk (k :: ds), ds.findIdx? (eqB k) with
    | true, some j => some (.int (j : Nat))
    | _, _ => none
  | _, _ => none
theorem shaped_k {d : D} (h : PyData.canLay0 d.py = true) (h' : d.py.depth ≤ 1) : SeqAt.shaped d.py = true := by
  simp only [SeqAt.shaped, h, Bool.true_and]
  exact decide_eq_true (by omega)
theorem shaped_l {ds : List D} (ko : KOk ds) : SeqAt.shaped (.list (D.pys ds)) = true := by
  have h1 : PyData.canLay0 (.list (D.pys ds)) = true := lay_all ko.lay
  have h2 : PyData.depth (.list (D.pys ds)) ≤ 2 := by
    rw [PyData.depth]
    have := depthAll_le ko.depth
    rw [← pys_map] at this
    omega
  simp only [SeqAt.shaped, h1, Bool.true_and]
  exact decide_eq_true (by omega)
theorem KOk.tail {d : D} {ds : List D} (h : KOk (d :: ds)) : KOk ds := ⟨fun e m => h.ok e (List.mem_cons_of_mem _ m), fun e m => h.lay e (List.mem_cons_of_mem _ m), fun e m => h.plain e (List.mem_cons_of_mem _ m), fun e m => h.depth e (List.mem_cons_of_mem _ m), fun e m => h.pure e (List.mem_cons_of_mem _ m)⟩
theorem rm_indexD : RMeth K (rIndexD K) xIndexD := by
  intro xs ds d e H v vs F r rs Q q
  unfold xIndexD at e
  split at e
  · rename_i k
    split at e
    · rename_i j hc hj
      cases e
      have ko := KOk.of hc
      obtain ⟨a, ys, G, rfl, sq, rl, _⟩ := RepL.sql r
      obtain ⟨w, Fw, rfl, rw'⟩ := rs.one
      have hp := hj
      rw [List.findIdx?_eq_some_iff_getElem] at hp
      obtain ⟨h1, h2, h3⟩ := hp
      refine ⟨a, w, k.py, D.pys xs, j, xs[j].py, rfl, rfl, .lst sq (RepL.dps _ _ _ rl (oks_all ko.tail.ok)), Rep.dp _ _ _ rw' (ko.ok _ List.mem_cons_self), shaped_l ko.tail, shaped_k (ko.lay _ List.mem_cons_self) (ko.depth _ List.mem_cons_self), ?_, h2, fun m z hm hz => ?_, q _ H [] (New.nil H) (by simp [Rep])⟩
      · rw [pys_map, List.getElem?_map, List.getElem?_eq_getElem h1]; rfl
      · have hm' : m < xs.length := by omega
        rw [pys_map, List.getElem?_map, List.getElem?_eq_getElem hm'] at hz
        cases hz
        have := h3 m hm
        simpa [eqB] using this
    · cases e
  · cases e
/-- xs.remove(k) -/
def xRemoveD : List D → List D → Option (D × List D)
  | ds, [k] => match kindOk (k :: ds), ds.findIdx? (eqB k) with
    | true, some j => some (.non, ds.eraseIdx j)
    | _, _ => none
  | _, _ => none
def rRemD (K : PySem.W.Frag) : V → List V → Hp → VK → Prop := fun x xs H Q => ∃ (a : Addr) (y : V) (vs : List V) (k : D) (ds : List D) (j : Nat), x = V.ref a ∧ xs = [y] ∧ H a = some (.lst vs) ∧ DpAll K H vs (D.pys ds) ∧ Dp K H y k.py ∧ kindOk (k :: ds) = true ∧ ds.findIdx? (eqB k) = some j ∧ Q .non (upd H a (.lst (vs.eraseIdx j)))
theorem rm_removeD : RMut K (rRemD K) xRemoveD := by
  intro ds as d ds' e H a xs vs G Fa he rl ra Q h
  unfold xRemoveD at e
  split at e
  · rename_i k
    split at e
    · rename_i j hc hj
      cases e
      have ko := KOk.of hc
      have hG := RepL.pure _ xs G rl (pureL_all ko.tail.pure); subst hG
      simp only [RepL] at ra
      obtain ⟨v0, ws0, F0, F00, rfl, rfl, h0, rfl, rfl⟩ := ra
      refine ⟨a, v0, xs, k, ds, j, rfl, rfl, he, RepL.dps _ _ _ rl (oks_all ko.tail.ok), Rep.dp _ _ _ h0 (ko.ok _ List.mem_cons_self), hc, hj, h .non _ [] [] (by simp [Rep]) (rl.erase0 j) ⟨fun _ => List.nodup_nil, (fun _ z => nomatch z)⟩⟩
    · cases e
  · cases e
/-- k in xs -/
def dInL : D → D → Option D
  | k, .lst ds => match kindOk (k :: ds) with
    | true => some (.bl (ds.any (eqB k)))
    | false => none
  | _, _ => none
def dNotInL : D → D → Option D
  | k, .lst ds => match kindOk (k :: ds) with
    | true => some (.bl (!ds.any (eqB k)))
    | false => none
  | _, _ => none
theorem rop_inL : ROp K (rInD K) dInL := by
  intro d1 d2 d e H v w F G r1 r2 Q h
  unfold dInL at e
  split at e
  · split at e
    · rename_i ds _ hc
      cases e
      have ko := KOk.of hc
      obtain ⟨a, ys, G, rfl, sq, rl, _⟩ := RepL.sql r2
      refine ⟨d1.py, D.pys ds, Rep.dp _ _ _ r1 (ko.ok _ List.mem_cons_self), .lst sq (RepL.dps _ _ _ rl (oks_all ko.tail.ok)), shaped_k (ko.lay _ List.mem_cons_self) (ko.depth _ List.mem_cons_self), shaped_l ko.tail, ?_⟩
      rw [any_pys]
      exact h _ H [] (New.nil H) (by simp [Rep])
    · cases e
  · cases e
theorem rop_notInL : ROp K (rNotInD K) dNotInL := by
  intro d1 d2 d e H v w F G r1 r2 Q h
  unfold dNotInL at e
  split at e
  · split at e
    · rename_i ds _ hc
      cases e
      have ko := KOk.of hc
      obtain ⟨a, ys, G, rfl, sq, rl, _⟩ := RepL.sql r2
      refine ⟨d1.py, D.pys ds, Rep.dp _ _ _ r1 (ko.ok _ List.mem_cons_self), .lst sq (RepL.dps _ _ _ rl (oks_all ko.tail.ok)), shaped_k (ko.lay _ List.mem_cons_self) (ko.depth _ List.mem_cons_self), shaped_l ko.tail, ?_⟩
      rw [any_pys]
      exact h _ H [] (New.nil H) (by simp [Rep])
    · cases e
  · cases e
/-- str(i), bool(i) -/
def cStr : List D → Option D
  | [.int i] => match decide (i.natAbs < 2 ^ 200) with
    | true => some (.str (toString i))
    | false => none
  | _ => none
theorem rc_str : RCall K (fun xs H Q => ∃ i : Int, xs = [.int i] ∧ i.natAbs.log2 < 1920 ∧ Q (.str (toString i)) H) cStr := by
  intro ds d e H vs rs Q q
  unfold cStr at e
  split at e
  · rename_i i
    split at e
    · rename_i hc
      cases e
      obtain ⟨v, F, rfl, r⟩ := rs.one
      simp only [Rep] at r
      obtain ⟨rfl, _⟩ := r
      have hc' := of_decide_eq_true hc
      refine ⟨_, rfl, ?_, q _ H [] (New.nil H) (by simp [Rep])⟩
      by_cases h0 : i.natAbs = 0
      · rw [h0]; decide
      · have h1 := Nat.log2_self_le h0
        have h2 : 2 ^ i.natAbs.log2 < 2 ^ 200 := Nat.lt_of_le_of_lt h1 hc'
        have := (Nat.pow_lt_pow_iff_right (by decide : 1 < 2)).mp h2
        omega
    · cases e
  · cases e
def cBool : List D → Option D
  | [.int i] => some (.bl (i != 0))
  | [.bl b] => some (.bl b)
  | _ => none
theorem rc_bool : RCall K (fun xs H Q => (∃ i : Int, xs = [.int i] ∧ Q (.bl (i != 0)) H) ∨ ∃ k, xs = [.bl k] ∧ Q (.bl k) H) cBool := by
  intro ds d e H vs rs Q q
  unfold cBool at e
  split at e
  · cases e
    obtain ⟨v, F, rfl, r⟩ := rs.one
    simp only [Rep] at r
    obtain ⟨rfl, _⟩ := r
    exact .inl ⟨_, rfl, q _ H [] (New.nil H) (by simp [Rep])⟩
  · cases e
    obtain ⟨v, F, rfl, r⟩ := rs.one
    simp only [Rep] at r
    obtain ⟨rfl, _⟩ := r
    exact .inr ⟨_, rfl, q _ H [] (New.nil H) (by simp [Rep])⟩
  · cases e
end
section
variable {X : Cx}
theorem mt_countD (hu : X.A.units + 64 < cLine) : MtR X "list.count" (rCntD X.K) := by
  intro pins s σ H x xs v us Q I rx rxs h
  obtain ⟨a, y, vs, k, ds, rfl, rfl, hs, hd, hk, hc, q⟩ := h
  have ko := KOk.of hc
  cases rx
  obtain ⟨u, rfl, ru⟩ := rxs.one
  obtain ⟨its, rv, hl, hz⟩ := I.list hs
  obtain ⟨as, ra⟩ := Dp.readsAll I _ _ its hd rv
  obtain ⟨bs, rb⟩ := Dp.reads I _ _ _ hk ru
  have dp : PyData.depthAll (D.pys ds) ≤ 1 := by rw [pys_map]; exact depthAll_le ko.tail.depth
  refine PySem.SeqAt.count_list_data (xs := D.pys ds) hl.isList (by simpa using ra) rb (plain_all ko.tail.plain) (ko.plain _ List.mem_cons_self) (by omega) ?_
  rw [count_pys]
  exact ⟨.int _, H, I.tok _, ⟨_, rfl⟩, q⟩
theorem mt_removeD (hu : X.A.units + 64 < cLine) : MtR X "list.remove" (rRemD X.K) := by
  intro pins s σ H x xs v us Q I rx rxs h
  obtain ⟨a, y, vs, k, ds, j, rfl, rfl, hs, hd, hk, hc, hj, q⟩ := h
  have ko := KOk.of hc
  cases rx
  obtain ⟨u, rfl, ru⟩ := rxs.one
  obtain ⟨z, its, n, r, hl, e⟩ := I.lstM hs
  obtain ⟨as, ra⟩ := Dp.readsAll I _ _ its hd r
  obtain ⟨bs, rb⟩ := Dp.reads I _ _ _ hk ru
  have dp : PyData.depthAll (D.pys ds) ≤ 1 := by rw [pys_map]; exact depthAll_le ko.tail.depth
  refine PySem.SeqAt.remove_list_data (xs := D.pys ds) (j := j) ⟨_, e, rfl, n, rfl⟩ (by simpa using ra) rb (plain_all ko.tail.plain) (ko.plain _ List.mem_cons_self) (by omega) (by rw [place_pys]; exact hj) (by rw [List.size_toArray]; omega) ?_
  have hjl : j < its.length := by
    have h1 := (List.findIdx?_eq_some_iff_getElem.mp hj).1
    have h2 := SeqAt.ReadsAll.length _ _ _ ra
    rw [pys_map, List.length_map] at h2
    omega
  refine ⟨.non, _, I.lset (its' := its.eraseIdx j) hs e (by simp [Array.eraseIdxIfInBounds, hjl]) ?_ ?_, rfl, q⟩
  · rw [List.eraseIdx_eq_take_drop_succ, List.eraseIdx_eq_take_drop_succ]
    exact (r.take j).append (r.drop (j + 1))
  · rw [List.length_eraseIdx]; split <;> omega
end
/-! ### list(range(n)) -/
section
variable {K : PySem.W.Frag}
def dLR : D → Option D
  | .int n => match decide (0 ≤ n) && decide (n ≤ 16777216) with
    | true => some (.lst (upTo 0 n.toNat))
    | false => none
  | _ => none
theorem run_LR : RUn K (fun x H Q => ∃ n, x = .int n ∧ RgOk 0 n ∧ ∀ q, H q = none → Q (.ref q) (upd H q (.lst (rgV 0 n)))) dLR := by
  intro d1 d e H v F r Q h
  unfold dLR at e
  split at e
  · rename_i n
    split at e
    · rename_i hc
      cases e
      simp only [Bool.and_eq_true, decide_eq_true_eq] at hc
      simp only [Rep] at r
      have e2 : upTo 0 n.toNat = ((List.range n.toNat).map fun k : Nat => (k : Int)).map D.int := by
        unfold upTo
        rw [List.map_map]
        apply List.map_congr_left
        intro k _
        simp
      have e3 : rgV 0 n = ((List.range n.toNat).map fun k : Nat => (k : Int)).map V.int := by
        unfold rgV
        rw [List.map_map, Int.sub_zero]
        apply List.map_congr_left
        intro k _
        simp
      refine ⟨n, r.1, RgOk.of_le (by omega) hc.2 (by omega) hc.1, fun q hq => ?_⟩
      rw [e3]
      refine h (.ref q) _ [q] (New.one hq) ?_
      rw [e2]
      exact Rep.lst_of upd_same (RepL.ints _)
    · cases e
  · cases e
end
section
variable {G : Gb} {S : Sc}
variable {p pos p2 pos2 : Pos} {e a b : Expr} {t : TA} {m : MA} {ta tb : TE} {ma mb : M}
theorem b_listR (hm : G.mg "list" = none) (hg : globOk S "list" = true) (hm2 : G.mg "range" = none) (hg2 : globOk S "range" = true) (ha : BE G S a ta ma) (h1 : ∀ env, starEach [a] env = [(false, eval a env)] := by intro _; rfl) : BE G S (.Call (.Name "list" p) [.Call (.Name "range" p2) [a] [] pos2] [] pos) (tLstRg (tRg1 ta)) (mUn dLR ma) :=
  ⟨fun X g => pe_listRg g.calm (globOk_gl g hg).1 (by rw [g.mg]; exact hm) (prg_1 (globOk_gl g hg2).1 (by rw [g.mg]; exact hm2) (ha.pe X g) (by rw [h1]; rfl)), fun ρ o ρ' e T σ H fp R Q h => so_unary run_LR ha.so ρ o ρ' e T σ H fp R Q h⟩
theorem b_strI (hm : G.mg "str" = none) (hg : globOk S "str" = true) (ha : BA G S [e] t m) (h1 : ∀ env, starEach [e] env = [(false, eval e env)] := by intro _; rfl) : BE G S (.Call (.Name "str" p) [e] [] pos) (tCB (fun xs H Q => ∃ i : Int, xs = [.int i] ∧ i.natAbs.log2 < 1920 ∧ Q (.str (toString i)) H) t) (mCB cStr m) :=
  b_callT (fun X g => call_str_int) rc_str (by decide +kernel) hm hg ha h1 (by intro _; rfl)
theorem b_bool1 (hm : G.mg "bool" = none) (hg : globOk S "bool" = true) (ha : BA G S [e] t m) (h1 : ∀ env, starEach [e] env = [(false, eval e env)] := by intro _; rfl) : BE G S (.Call (.Name "bool" p) [e] [] pos) (tCB (fun xs H Q => (∃ i : Int, xs = [.int i] ∧ Q (.bl (i != 0)) H) ∨ ∃ k, xs = [.bl k] ∧ Q (.bl k) H) t) (mCB cBool m) :=
  b_callT (fun X g => call_bool1) rc_bool (by decide +kernel) hm hg ha h1 (by intro _; rfl)
/-- a comparison by in, not in: b no display of a set -/
structure InK (G : Gb) (S : Sc) (c : CmpOp) (r : R2) (f : D → D → Option D) : Prop where
  op : ∀ X, Good G S X → OpR X (compareOp c) r
  r : ROp G.K r f
theorem b_cmpI {op : CmpOp} {r : R2} {f : D → D → Option D} (k : InK G S op r f) (ha : BE G S a ta ma) (hb : BE G S b tb mb) (hl : behindInMarks op b = false := by rfl) : BE G S (.Compare a [op] [b] pos) (tOp r ta tb) (mOp f ma mb) :=
  ⟨fun X g => pe_cmpR (k.op X g) (ha.pe X g) (hb.pe X g) hl, so_op k.r ha.so hb.so⟩
theorem t_cmpI {op : CmpOp} {r : R2} {f : D → D → Option D} (k : InK G S op r f) (ha : BE G S a ta ma) (hb : BE G S b tb mb) (hl : behindInMarks op b = false := by rfl) : BT G S (.Compare a [op] [b] pos) (tTest (tOp r ta tb)) (mB (mOp f ma mb)) :=
  ⟨fun X g => pt_cmpR (k.op X g) (ha.pe X g) (hb.pe X g) hl, st_val (so_op k.r ha.so hb.so)⟩
theorem units65 {G : Gb} {S : Sc} {X : Cx} (g : Good G S X) : X.A.units + 65 < cLine := by have := g.room.un; omega
theorem k_inL : InK G S .In (rInD G.K) dInL := ⟨fun X g => by rw [← g.K]; exact op_inD (units65 g), rop_inL⟩
theorem k_notInL : InK G S .NotIn (rNotInD G.K) dNotInL := ⟨fun X g => by rw [← g.K]; exact op_notInD (units65 g), rop_notInL⟩
end
end U

/-! W8: count, remove, index, in; list(range), str, bool. -/
namespace U.P
open PySem L2 U
theorem kindOk_of {ds : List D} (h : sortOk ds = true) : kindOk ds = true := by unfold kindOk; rw [h, Bool.or_true]
theorem kindOk_map {α : Type} {f : α → D} {k : α → List Int} (h : RowF f k) (x : α) (xs : List α) : kindOk (f x :: xs.map f) = true := kindOk_of (by rw [← List.map_cons]; exact sortOk_map h (x :: xs))
theorem eqB_map {α : Type} [DecidableEq α] {f : α → D} {k : Nat} (h : EqF f k) (x y : α) : eqB (f x) (f y) = decide (y = x) := h.eqv y x
section
variable {α : Type} [DecidableEq α] {f : α → D} {k : Nat} {r : α → List Int} {xs : List α} {x : α} {d : D}
theorem find_map (h : EqF f k) (x : α) (xs : List α) : (xs.map f).findIdx? (eqB (f x)) = xs.findIdx? fun y => decide (y = x) := by
  rw [List.findIdx?_map]
  congr 1
  funext y
  exact eqB_map h x y
theorem erase_find : ∀ {xs : List α} {j : Nat}, (xs.findIdx? fun y => decide (y = x)) = some j → xs.eraseIdx j = xs.erase x
  | [], j, h => by cases h
  | y :: ys, j, h => by
    rw [List.findIdx?_cons] at h
    by_cases hy : y = x
    · subst hy
      simp at h
      subst h
      simp
    · rw [if_neg (by simpa using hy)] at h
      simp only [Option.map_eq_some_iff] at h
      obtain ⟨i, hi, rfl⟩ := h
      rw [List.eraseIdx_cons_succ, erase_find hi, List.erase_cons_tail (by simpa using hy)]
theorem find_mem (h : x ∈ xs) : ∃ j, (xs.findIdx? fun y => decide (y = x)) = some j := by
  cases e : xs.findIdx? fun y => decide (y = x) with
  | some j => exact ⟨j, rfl⟩
  | none =>
    rw [List.findIdx?_eq_none_iff] at e
    have := e x h
    simp at this
variable {Q : D → Prop}
instance u_remD {fl : Fl} {Q : D × Option (Fl × D) → Prop} [m : Mu fl] [a : EqF f k] [b : RowF f r] [c : Cv f d x] : St (W1 (U.P.mutO xRemoveD [d] (some (fl, .lst (xs.map f)))) Q) (WP (x ∈ xs) (Q (.non, some (fl, .lst ((xs.erase x).map f))))) := ⟨fun ⟨h, q⟩ => by
  refine u_mut rfl m.eq (d := .non) (ds' := (xs.erase x).map f) ?_ q
  obtain ⟨j, hj⟩ := find_mem h
  rw [c.eq]
  simp only [xRemoveD, kindOk_map b, find_map a, hj]
  rw [erase_map, erase_find hj]⟩
theorem count_map (h : EqF f k) (x : α) (xs : List α) : (xs.map f).countP (eqB (f x)) = xs.count x := by
  rw [List.countP_map, List.count]
  congr 1
  funext y
  show eqB (f x) (f y) = _
  rw [eqB_map h]
  rfl
instance q_countD [a : EqF f k] [b : RowF f r] [c : Cv f d x] : St (W1 (xCountD (xs.map f) [d]) Q) (Q (.int ((xs.count x : Nat) : Int))) := ⟨fun q => ⟨_, by
  rw [c.eq]
  simp only [xCountD, kindOk_map b, count_map a], q⟩⟩
instance q_countB {β : Type} {xs : List β} {g : β → Bool} : St (W1 (xCountD (xs.map fun y => D.bl (g y)) [.bl true]) Q) (Q (.int ((xs.countP g : Nat) : Int))) := ⟨fun q => ⟨_, by
  have e : kindOk (.bl true :: xs.map fun y => D.bl (g y)) = true := by
    unfold kindOk
    rw [Bool.or_eq_true, List.all_eq_true]
    left
    intro d m
    rcases List.mem_cons.mp m with rfl | m
    · rfl
    · obtain ⟨y, _, rfl⟩ := List.mem_map.mp m
      rfl
  have e2 : (xs.map fun y => D.bl (g y)).countP (eqB (.bl true)) = xs.countP g := by
    rw [List.countP_map]
    congr 1
    funext y
    show PyData.eqv (.bool (g y)) (.bool true) = g y
    cases g y <;> rfl
  simp only [xCountD, e, e2], q⟩⟩
instance q_indexD [a : EqF f k] [b : RowF f r] [c : Cv f d x] : St (W1 (xIndexD (xs.map f) [d]) Q) (WP (x ∈ xs) (∀ j, (xs.findIdx? fun y => decide (y = x)) = some j → Q (.int ((j : Nat) : Int)))) := ⟨fun ⟨h, q⟩ => by
  obtain ⟨j, hj⟩ := find_mem h
  exact ⟨.int (j : Nat), by rw [c.eq]; simp only [xIndexD, kindOk_map b, find_map a, hj], q j hj⟩⟩
theorem any_map_eq (h : EqF f k) (x : α) (xs : List α) : (xs.map f).any (eqB (f x)) = decide (x ∈ xs) := by
  rw [List.any_map, Bool.eq_iff_iff]
  simp only [List.any_eq_true, Function.comp_apply, eqB_map h, decide_eq_true_eq]
  exact ⟨fun ⟨y, m, e⟩ => e ▸ m, fun m => ⟨x, m, rfl⟩⟩
instance q_inD [a : EqF f k] [b : RowF f r] [c : Cv f d x] : St (W1 (dInL d (.lst (xs.map f))) Q) (Q (.bl (decide (x ∈ xs)))) := ⟨fun q => ⟨_, by
  rw [c.eq]
  simp only [dInL, kindOk_map b, any_map_eq a], q⟩⟩
instance q_notInD [a : EqF f k] [b : RowF f r] [c : Cv f d x] : St (W1 (dNotInL d (.lst (xs.map f))) Q) (Q (.bl (!decide (x ∈ xs)))) := ⟨fun q => ⟨_, by
  rw [c.eq]
  simp only [dNotInL, kindOk_map b, any_map_eq a], q⟩⟩
end
section
variable {Q : D → Prop} {i : Int} {n : Nat}
instance q_LR [a : NatI i n] : St (W1 (dLR (.int i)) Q) (WP (n ≤ 16777216) (Q (.lst ((List.range n).map nD)))) := ⟨fun ⟨h, q⟩ => by
  have e : (decide (0 ≤ i) && decide (i ≤ 16777216)) = true := by
    rw [a.eq, Bool.and_eq_true, decide_eq_true_eq, decide_eq_true_eq]
    omega
  have e2 : upTo 0 i.toNat = (List.range n).map nD := by
    unfold upTo
    rw [a.eq, Int.toNat_natCast]
    apply List.map_congr_left
    intro k _
    simp
  exact ⟨_, by simp only [dLR, e, e2], q⟩⟩
instance q_strN [a : NatI i n] : St (W1 (cStr [.int i]) Q) (WP (n < 2 ^ 200) (Q (.str (toString (n : Int))))) := ⟨fun ⟨h, q⟩ => by
  have e : decide (i.natAbs < 2 ^ 200) = true := by
    rw [a.eq, Int.natAbs_natCast, decide_eq_true_eq]
    exact h
  obtain rfl := a.eq
  exact ⟨_, by simp only [cStr, e], q⟩⟩
instance q_boolB {b : Bool} : St (W1 (cBool [.bl b]) Q) (Q (.bl b)) := ⟨fun q => ⟨_, rfl, q⟩⟩
instance q_boolN [a : NatI i n] : St (W1 (cBool [.int i]) Q) (Q (.bl (!decide (n = 0)))) := ⟨fun q => ⟨_, by
  rw [a.eq]
  simp only [cBool]
  congr 2
  by_cases h : n = 0 <;> simp [h], q⟩⟩
end
/-! ### a walk over places -/
section
variable {α : Type} {ρ : Env} {g : MG} {mb : MS} {Q : Out → Prop}
theorem fle (e : Nat → D) (n : Nat) (E : Env → α → Env) (Inv : Nat → α → Prop) (a0 : α) (h0 : E ρ a0 = ρ) (hi : Inv 0 a0)
    (step : ∀ k a, k < n → Inv k a → WUp (E ρ a) fun ρ0 => WG g (e k).pure (e k) ρ0 fun ρ1 => WS mb ρ1 (WLp (fun ρ2 => ∃ a', ρ2 = E ρ a' ∧ Inv (k + 1) a') Q))
    (fin : ∀ a, Inv n a → WUp (E ρ a) fun ρ0 => Q (.nx ρ0)) : WS (fLoop g mb ((List.range n).map e)) ρ Q := by
  refine flp e E (fun l a => Inv l.length a) (List.range n) a0 h0 hi ?_ ?_
  · intro x l r a hl hv
    have hx : x = l.length ∧ l.length < n := by
      have e : (List.range n)[l.length]? = some x := by rw [hl]; simp
      obtain ⟨h1, h2⟩ := List.getElem?_eq_some_iff.mp e
      simp at h1 h2
      exact ⟨h2.symm, h1⟩
    obtain ⟨rfl, hn⟩ := hx
    have := step l.length a hn hv
    rw [show (l ++ [l.length]).length = l.length + 1 by simp]
    exact this
  · intro a hv
    exact fin a (by simpa using hv)
end
end U.P

/-! plain: picking the first of the greatest, again and again, is putting in order -/
namespace U.P
section
variable {α β : Type} {k : α → List Int}
theorem sortK_uniq : ∀ {l m : List α}, (∀ x ∈ l, ∀ y ∈ l, k x = k y → x = y) → l.Perm m → (l.Pairwise fun x y => ¬ k y < k x) → (m.Pairwise fun x y => ¬ k y < k x) → l = m
  | [], m, _, p, _, _ => (List.Perm.eq_nil p.symm).symm
  | x :: l, [], _, p, _, _ => absurd p.length_eq (by simp)
  | x :: l, y :: m, inj, p, hl, hm => by
    have hy : y ∈ x :: l := p.mem_iff.mpr List.mem_cons_self
    have hx : x ∈ y :: m := p.mem_iff.mp List.mem_cons_self
    have h1 : ¬ k y < k x := by
      rcases List.mem_cons.mp hy with e | h
      · rw [e]; exact ltL_irr _
      · exact (List.pairwise_cons.mp hl).1 y h
    have h2 : ¬ k x < k y := by
      rcases List.mem_cons.mp hx with e | h
      · rw [e]; exact ltL_irr _
      · exact (List.pairwise_cons.mp hm).1 x h
    have e : x = y := inj x List.mem_cons_self y hy (ltL_tot h2 h1)
    subst e
    rw [sortK_uniq (fun a ha b hb => inj a (List.mem_cons_of_mem _ ha) b (List.mem_cons_of_mem _ hb)) p.cons_inv (List.pairwise_cons.mp hl).2 (List.pairwise_cons.mp hm).2]
theorem sortK_min [DecidableEq α] {xs : List α} (inj : ∀ x ∈ xs, ∀ y ∈ xs, k x = k y → x = y) {m : α} (hm : m ∈ xs) (h : ∀ y ∈ xs, ¬ k y < k m) : sortK false k xs = m :: sortK false k (xs.erase m) := by
  have p : (sortK false k xs).Perm (m :: sortK false k (xs.erase m)) := ((sortK_perm _ _ _).trans (List.perm_cons_erase hm)).trans ((sortK_perm false k (xs.erase m)).cons m).symm
  refine sortK_uniq (fun x hx y hy => inj x (sortK_mem.mp hx) y (sortK_mem.mp hy)) p (sortK_up k xs) (List.pairwise_cons.mpr ⟨fun y hy => h y (List.mem_of_mem_erase (sortK_mem.mp hy)), sortK_up k _⟩)
theorem sortK_map (b : Bool) (k : β → List Int) (g : α → β) (xs : List α) : sortK b k (xs.map g) = (sortK b (fun x => k (g x)) xs).map g := by
  unfold sortK
  rw [List.map_mergeSort]
  intro x _ y _; rfl
theorem sortK_congr {b : Bool} {k l : α → List Int} {xs : List α} (h : ∀ x ∈ xs, ∀ y ∈ xs, (k x < k y ↔ l x < l y)) : sortK b k xs = sortK b l xs := by
  have := List.map_mergeSort (r := fun x y : α => cond b (!decide (k x < k y)) (!decide (k y < k x))) (s := fun x y : α => cond b (!decide (l x < l y)) (!decide (l y < l x))) (f := fun x => x) (l := xs) (fun x hx y hy => by
    rw [decide_eq_decide.mpr (h x hx y hy), decide_eq_decide.mpr (h y hy x hx)])
  simpa [sortK] using this
/-- the greatest first, the first of them first -/
def far_k (far : α → Nat) (r : α → List Int) (x : α) : List Int := (-(far x : Int)) :: r x
theorem far_lt {far : α → Nat} {r : α → List Int} {x y : α} : far_k far r x < far_k far r y ↔ far y < far x ∨ (far x = far y ∧ r x < r y) := by
  unfold far_k
  rw [List.cons_lt_cons_iff]
  constructor
  · rintro (h | ⟨h, h'⟩)
    · exact .inl (by omega)
    · exact .inr ⟨by omega, h'⟩
  · rintro (h | ⟨h, h'⟩)
    · exact .inl (by omega)
    · exact .inr ⟨by omega, h'⟩
theorem pick_min {far : α → Nat} {r : α → List Int} {xs : List α} (ho : xs.Pairwise fun x y => r x < r y) {M : Nat} (hM : ∀ y ∈ xs, far y ≤ M) {x : α} {t : List α} (e : (xs.filter fun y => decide (far y = M)) = x :: t) : x ∈ xs ∧ far x = M ∧ ∀ y ∈ xs, ¬ far_k far r y < far_k far r x := by
  have hx : x ∈ xs.filter fun y => decide (far y = M) := by rw [e]; exact List.mem_cons_self
  obtain ⟨h1, h2⟩ := List.mem_filter.mp hx
  have h2 := of_decide_eq_true h2
  refine ⟨h1, h2, fun y hy h => ?_⟩
  rw [far_lt] at h
  have := hM y hy
  rcases h with h | ⟨h, h'⟩
  · omega
  · have hyf : y ∈ x :: t := by
      rw [← e]
      exact List.mem_filter.mpr ⟨hy, decide_eq_true (by omega)⟩
    have ho' := ho.filter fun y => decide (far y = M)
    rw [e] at ho'
    rcases List.mem_cons.mp hyf with rfl | hyt
    · exact ltL_irr _ h'
    · exact ltL_irr _ (ltL_trans h' ((List.pairwise_cons.mp ho').1 y hyt))
theorem inj_up {far : α → Nat} {r : α → List Int} {xs : List α} (ho : xs.Pairwise fun x y => r x < r y) : ∀ x ∈ xs, ∀ y ∈ xs, far_k far r x = far_k far r y → x = y := by
  intro x hx y hy h
  have h' : r x = r y := (List.cons.inj h).2
  induction xs with
  | nil => cases hx
  | cons z zs ih =>
    obtain ⟨h1, h2⟩ := List.pairwise_cons.mp ho
    rcases List.mem_cons.mp hx with e1 | hx1
    · rcases List.mem_cons.mp hy with e2 | hy1
      · rw [e1, e2]
      · have := h1 y hy1
        rw [← e1, h'] at this
        exact absurd this (ltL_irr _)
    · rcases List.mem_cons.mp hy with e2 | hy1
      · have := h1 x hx1
        rw [← e2, h'] at this
        exact absurd this (ltL_irr _)
      · exact ih h2 hx1 hy1
theorem pick_sort [DecidableEq α] {far : α → Nat} {r : α → List Int} {xs : List α} (ho : xs.Pairwise fun x y => r x < r y) {M : Nat} (hM : ∀ y ∈ xs, far y ≤ M) {x : α} {t : List α} (e : (xs.filter fun y => decide (far y = M)) = x :: t) : sortK false (far_k far r) xs = x :: sortK false (far_k far r) (xs.erase x) := by
  obtain ⟨h1, _, h3⟩ := pick_min ho hM e
  exact sortK_min (inj_up ho) h1 h3
end
theorem range_up (n : Nat) : (List.range n).Pairwise fun (x y : Nat) => [(x : Int)] < [(y : Int)] := by
  refine List.pairwise_lt_range.imp fun {x y} h => ?_
  rw [lt_one]
  omega
theorem numb_range (xs : List Nat) : xs.zipIdx = (List.range xs.length).map fun i => (xs.getD i 0, i) := by
  apply List.ext_getElem?
  intro k
  rw [List.getElem?_zipIdx, List.getElem?_map]
  by_cases h : k < xs.length
  · rw [List.getElem?_range h, List.getElem?_eq_getElem h]
    simp [h]
  · rw [List.getElem?_eq_none (by simpa using h), List.getElem?_eq_none (by simpa using h)]
    rfl
end U.P

/-! U15f: a call that is lent a thing made on the spot. -/
namespace U
open PySem L2
def mCallT (f : Fn) (ma : MA) : M := fun ρ => match ma ρ with
  | some ([.tm true d], ρ1) => match f [d] with
    | some (r, [_]) => some (.tm true r, ρ1)
    | _ => none
  | _ => none
theorem so_callT {K : PySem.W.Frag} {f : Fn} {ta : TA} {ma : MA} {E : XK} (ha : SA K ta ma) : SO K (tCall (SpF K [true] f) [] E ta) (mCallT f ma) := by
  intro ρ o ρ' e T σ H fp R Q h
  unfold mCallT at e
  split at e
  · rename_i d ρx e1
    split at e
    · rename_i r d' e3
      cases e
      refine ha ρ _ ρ' e1 T σ H fp R _ fun vs H1 fp1 G R1 p1 n1 f1 r1 => ?_
      obtain ⟨v0, ws, F0, G', rfl, rfl, ⟨rd, ru⟩, rfl, rfl⟩ := r1
      obtain ⟨u1, u2, u3⟩ := ru rfl
      rw [List.append_nil] at R1
      have lentA : ∀ a, Lent [true] (fun k => if k = 0 then F0 else []) a ↔ a ∈ F0 := fun a => ⟨fun ⟨k, hk, hak⟩ => by
        cases k with
        | zero => simpa using hak
        | succ k => simp at hk, fun ha => ⟨0, rfl, by simpa using ha⟩⟩
      refine ⟨[d], r, [d'], fun k => if k = 0 then F0 else [], e3, rfl, rfl, fun k dd ed => ?_, fun k hk => ?_, fun k hk => ?_, ?_⟩
      · cases k with
        | zero => cases ed; exact ⟨v0, rfl, by simpa using rd⟩
        | succ k => simp at ed
      · have : k ≠ 0 := by
          rintro rfl
          simp at hk
        exact if_neg this
      · cases k with
        | zero =>
          refine ⟨by simpa using u1, fun j hj a _ ha => ?_⟩
          simp [hj] at ha
        | succ k => simp at hk
      intro v H' F fp' P' rr nF hF hL
      have al1 : ∀ j a, a ∈ fp1 j → H1 a ≠ none := fun j a ha hn => R1.fresh hn j ha
      have pinT : Pin T H1 H' := fun a o ea c => P' a o ea (c.imp (fun t z => u2 a ((lentA a).mp z) t) id)
      have R2 : Rel K T ρ' σ H' fp1 := by
        refine ⟨R1.len, fun j fl dd el => ?_, R1.nil, fun j fl dd el u => ?_, fun a t hn => ?_⟩
        · obtain ⟨w, b1, b2⟩ := R1.rep j fl dd el
          exact ⟨w, b1, Rep.pin P' dd w _ b2 fun a ha hl => u3 j a ((lentA a).mp hl) ha⟩
        · obtain ⟨a1, a2, a3⟩ := R1.nod j fl dd el u
          exact ⟨a1, fun a ha t => a2 a ha (.inl t), a3⟩
        · cases q : H1 a with
          | none => exact R1.tal a (.inl t) q
          | some o => rw [pinT a o q (.inl t)] at hn; cases hn
      have Ffp : ∀ j, ∀ a ∈ F, a ∉ fp1 j := fun j a ha hj => by
        rcases hF a ha with q | q
        · exact al1 j a hj q
        · exact u3 j a ((lentA a).mp q) hj
      have FT : ∀ a ∈ F, ¬ T a := fun a ha t => by
        rcases hF a ha with q | q
        · exact R1.tal a (.inl t) q
        · exact u2 a ((lentA a).mp q) t
      exact h v H' fp1 F (R2.pinF (fun a ha => rr.fresh ha) fun a ha j fl d _ _ hj => Ffp j a ha hj) (p1.trans pinT) n1 f1 ⟨rr, fun _ => ⟨nF, FT, Ffp⟩⟩
    · cases e
  · cases e
section
variable {G : Gb} {S : Sc}
theorem b_callTm {k : Nat} {x : Str} {f : Fn} {e : Expr} {es : List Expr} {p pos : Pos} {t : TA} {m : MA} (F : FnK G.P G.w G.K G.mg G.base k x [true] f) (hk : k ≤ G.k) (hg : globOk S x = true) (ha : BA G S (e :: es) t m) (h1 : ∀ env, starEach (e :: es) env = (false, eval e env) :: starEach es env := by intro _; rfl) (h2 : ∀ env, (backTo pos (starEach es env)).any (·.1) = false := by intro _; rfl) :
    BE G S (.Call (.Name x p) (e :: es) [] pos) (tCall (SpF G.K [true] f) [] E0 t) (mCallT f m) := by
  obtain ⟨a, fd, ps, F, hm, hkp, hb⟩ := F
  refine ⟨fun X g => ?_, so_callT ha.sa⟩
  refine pe_callG (CX := CX0) (k := k) (f := a) (fd := fd) (ps := ps) (ds := []) ?_ (g.room.mono hk) g.still (globOk_gl g hg).1 (by rw [g.mg]; exact hm) (by rw [g.K]; exact hkp) (by rw [g.K]; exact hb) .nil pass0 (ha.pa X g) (globOk_gl g hg).2.1 (h1 X.env) (h2 X.env)
  rw [g.prog, g.w, g.K, g.mg, g.base]
  exact F
end
end U

namespace U.P
open PySem L2 U
variable {i : Int} {n : Nat} {Q : D → Prop}
instance q_bitsN [a : NatI i n] : St (W1 (dBits (.int i)) Q) (WP (n ≠ 0) (Q (.int ((n.log2 + 1 : Nat) : Int)))) := ⟨fun h => ⟨_, by
  rw [a.eq, dBits, PySem.Builtin.Int.intBits, if_neg (by simpa using h.1), Int.natAbs_natCast], h.2⟩⟩
variable {ρ : Env} {R : Out → Prop}
instance w_par2 {i j : Nat} {ma : MA} : St (WS (mPar2 i j ma) ρ R) (WA ma ρ fun os ρ1 => WTs os fun u ds => WGs (gsCons (gSet i) (gsCons (gSet j) gsNil)) u ds ρ1 fun ρ2 => R (.nx ρ2)) := ⟨fun h => by
  obtain ⟨os, ρ1, e1, u, ds, e2, ρ2, e3, q⟩ := h
  exact ⟨_, by simp only [mPar2, e1, e2, e3, Option.map_some], q⟩⟩
instance w_par3 {i j l : Nat} {ma : MA} : St (WS (mPar3 i j l ma) ρ R) (WA ma ρ fun os ρ1 => WTs os fun u ds => WGs (gsCons (gSet i) (gsCons (gSet j) (gsCons (gSet l) gsNil))) u ds ρ1 fun ρ2 => R (.nx ρ2)) := ⟨fun h => by
  obtain ⟨os, ρ1, e1, u, ds, e2, ρ2, e3, q⟩ := h
  exact ⟨_, by simp only [mPar3, e1, e2, e3, Option.map_some], q⟩⟩
theorem cut_last {α : Type} (xs : List α) : (xs.drop (HT.sIx xs.length 0 none)).take (HT.sIx xs.length xs.length (some (-((1 : Nat) : Int))) - HT.sIx xs.length 0 none) = xs.dropLast := by
  have e : HT.sIx xs.length xs.length (some (-((1 : Nat) : Int))) = xs.length - 1 := by
    unfold HT.sIx
    dsimp only
    rw [if_pos (by decide)]
    omega
  rw [e, HT.sIx_none, List.drop_zero, Nat.sub_zero, List.dropLast_eq_take]
instance (priority := low) ct_last {α : Type} {xs : List α} : Cut xs none (some (-((1 : Nat) : Int))) xs.dropLast := ⟨cut_last xs⟩
instance ct_lastA {α : Type} {xs : List α} {x : α} : Cut (xs ++ [x]) none (some (-((1 : Nat) : Int))) xs := ⟨by rw [cut_last, List.dropLast_concat]⟩
instance w_callT {f : Fn} {ma : MA} {Q : Opd → Env → Prop} : St (WE (mCallT f ma) ρ Q) (WA ma ρ fun os ρ1 => W1 (ownD os) fun ds => WP (ds.length = 1) (WF f ds fun r ds' => WP (ds'.length = 1) (Q (.tm true r) ρ1))) := ⟨fun h => by
  obtain ⟨os, ρ1, e1, ds, e2, hl, r, ds', e3, hl', q⟩ := h
  match ds, hl, ds', hl' with
  | [d], _, [d'], _ =>
    match os, e2 with
    | [.tm true x], e2 =>
      cases e2
      exact ⟨_, _, by simp only [mCallT, e1, e3], q⟩
    | .tm true x :: o2 :: os', e2 =>
      simp only [ownD, Option.map_eq_some_iff] at e2
      obtain ⟨ds2, e4, e5⟩ := e2
      cases e5
      cases o2 with
      | sl i => cases e4
      | tm u y =>
        cases u with
        | false => cases e4
        | true =>
          simp only [ownD, Option.map_eq_some_iff] at e4
          obtain ⟨ds3, _, e6⟩ := e4
          cases e6⟩
instance u_ins0 {α : Type} {f : α → D} {xs : List α} {x : α} {fl : Fl} {d : D} {Q : D × Option (Fl × D) → Prop} [m : Mu fl] [c : Cv f d x] : St (W1 (U.P.mutO xInsert [.int ((0 : Nat) : Int), d] (some (fl, .lst (xs.map f)))) Q) (WP (xs.length ≤ 10000000) (Q (.non, some (fl, .lst ((x :: xs).map f))))) := ⟨fun ⟨h, q⟩ => by
  refine u_mut rfl m.eq (d := .non) (ds' := (x :: xs).map f) ?_ q
  simp [xInsert, fullLen, h, c.eq]⟩
instance bb_leN {i j : Int} {m n : Nat} {Q : Bool → Prop} [a : NatI i m] [b : NatI j n] : St (WBl (dLe (.int i) (.int j)) Q) (Q (decide (m ≤ n))) := ⟨fun q => by
  obtain ⟨d, e, rfl⟩ := (q_leN (i := i) (j := j) (m := m) (n := n) (Q := fun d => d = .bl (decide (m ≤ n)))).pf rfl
  exact ⟨_, e, q⟩⟩
instance (priority := low) bb_leI {i j : Int} {Q : Bool → Prop} : St (WBl (dLe (.int i) (.int j)) Q) (Q (decide (i ≤ j))) := ⟨fun q => by
  obtain ⟨d, e, rfl⟩ := (q_leI (i := i) (j := j) (Q := fun d => d = .bl (decide (i ≤ j)))).pf rfl
  exact ⟨_, e, q⟩⟩
instance bb_ltN {i j : Int} {m n : Nat} {Q : Bool → Prop} [a : NatI i m] [b : NatI j n] : St (WBl (dLt (.int i) (.int j)) Q) (Q (decide (m < n))) := ⟨fun q => by
  obtain ⟨d, e, rfl⟩ := (q_ltN (i := i) (j := j) (m := m) (n := n) (Q := fun d => d = .bl (decide (m < n)))).pf rfl
  exact ⟨_, e, q⟩⟩
instance (priority := low) bb_ltI {i j : Int} {Q : Bool → Prop} : St (WBl (dLt (.int i) (.int j)) Q) (Q (decide (i < j))) := ⟨fun q => by
  obtain ⟨d, e, rfl⟩ := (q_ltI (i := i) (j := j) (Q := fun d => d = .bl (decide (i < j)))).pf rfl
  exact ⟨_, e, q⟩⟩
instance bb_geN {i j : Int} {m n : Nat} {Q : Bool → Prop} [a : NatI i m] [b : NatI j n] : St (WBl (dGe (.int i) (.int j)) Q) (Q (decide (m ≥ n))) := ⟨fun q => by
  obtain ⟨d, e, rfl⟩ := (q_geN (i := i) (j := j) (m := m) (n := n) (Q := fun d => d = .bl (decide (m ≥ n)))).pf rfl
  exact ⟨_, e, q⟩⟩
instance (priority := low) bb_geI {i j : Int} {Q : Bool → Prop} : St (WBl (dGe (.int i) (.int j)) Q) (Q (decide (i ≥ j))) := ⟨fun q => by
  obtain ⟨d, e, rfl⟩ := (q_geI (i := i) (j := j) (Q := fun d => d = .bl (decide (i ≥ j)))).pf rfl
  exact ⟨_, e, q⟩⟩
instance bb_gtN {i j : Int} {m n : Nat} {Q : Bool → Prop} [a : NatI i m] [b : NatI j n] : St (WBl (dGt (.int i) (.int j)) Q) (Q (decide (m > n))) := ⟨fun q => by
  obtain ⟨d, e, rfl⟩ := (q_gtN (i := i) (j := j) (m := m) (n := n) (Q := fun d => d = .bl (decide (m > n)))).pf rfl
  exact ⟨_, e, q⟩⟩
instance (priority := low) bb_gtI {i j : Int} {Q : Bool → Prop} : St (WBl (dGt (.int i) (.int j)) Q) (Q (decide (i > j))) := ⟨fun q => by
  obtain ⟨d, e, rfl⟩ := (q_gtI (i := i) (j := j) (Q := fun d => d = .bl (decide (i > j)))).pf rfl
  exact ⟨_, e, q⟩⟩
end U.P

/-! U15g: dicts. -/
namespace U
open PySem L2
section
variable {K : PySem.W.Frag} {T : Addr → Prop} {ρ : Env} {σ : L2.St} {H H' : Hp} {fp : Fp}
/-- a slot's own thing is changed in place -/
theorem Rel.swap {i : Nat} {fl : Fl} {d d' : D} {v : V} {F' : List Addr} (R : Rel K T ρ σ H fp) (hl : look ρ i = some (fl, d)) (hv : σ[i]? = some (some v)) (hu : fl.mu = true) (r' : Rep K H' d' v F') (nF : F'.Nodup)
    (hF : ∀ a ∈ F', a ∈ fp i ∨ H a = none) (hH : ∀ a, a ∉ fp i → H a ≠ none → H' a = H a) :
    Rel K T (ρ.set i (some (fl, d'))) σ H' (fpSet fp i F') ∧ Pin T H H' ∧ Nog T fp (fpSet fp i F') ∧ Fix ρ σ fp (ρ.set i (some (fl, d'))) σ (fpSet fp i F') := by
  have hi := look_lt hl
  obtain ⟨nd, nt, nj⟩ := R.nod i fl d hl (mu_uq hu)
  have r0 := R.at_ hl hv
  have mutF : ∀ a ∈ fp i, ∃ o, H a = some o ∧ mutO o = true := Rep.alloc d v (fp i) r0
  have pinI : Pin (fun a => a ∉ fp i) H H' := fun a o e c => by
    have : a ∉ fp i := by
      rcases c with c | c
      · exact c
      · intro z
        obtain ⟨o', e', m⟩ := mutF a z
        rw [e] at e'; cases e'
        rw [c] at m; cases m
    rw [hH a this (by rw [e]; exact fun z => nomatch z)]
    exact e
  have nT : ∀ a ∈ F', ¬ T a := fun a ha t => by
    rcases hF a ha with q | q
    · exact nt a q t
    · exact R.tal a t q
  have nfp : ∀ j, j ≠ i → ∀ a ∈ F', a ∉ fp j := fun j hj a ha z => by
    rcases hF a ha with q | q
    · exact nj j hj a q z
    · exact R.fresh q j z
  refine ⟨⟨by rw [List.length_set]; exact R.len, fun j fl' e el => ?_, fun j el => ?_, fun j fl' e el u => ?_, fun a t => ?_⟩, fun a o e c => pinI a o e (c.imp (fun t z => nt a z t) id), fun j a ha t => ?_, fun j fl' e el => ?_⟩
  · by_cases hj : j = i
    · subst hj
      rw [look_set_self hi] at el
      cases el
      rw [fpSet_self]
      exact ⟨v, hv, r'⟩
    · rw [look_set_ne hj] at el
      rw [fpSet_ne hj]
      obtain ⟨w, e1, e2⟩ := R.rep j fl' e el
      exact ⟨w, e1, Rep.pin pinI e w _ e2 fun a ha z => nj j hj a z ha⟩
  · by_cases hj : j = i
    · subst hj
      rw [look_set_self hi] at el
      cases el
    · rw [look_set_ne hj] at el
      rw [fpSet_ne hj]
      exact R.nil j el
  · by_cases hj : j = i
    · subst hj
      rw [fpSet_self]
      refine ⟨nF, nT, fun k hk a ha => ?_⟩
      rw [fpSet_ne hk]
      exact nfp k hk a ha
    · rw [look_set_ne hj] at el
      rw [fpSet_ne hj]
      obtain ⟨a1, a2, a3⟩ := R.nod j fl' e el u
      refine ⟨a1, a2, fun k hk a ha z => ?_⟩
      by_cases hk2 : k = i
      · subst hk2
        rw [fpSet_self] at z
        exact nfp j hj a z ha
      · rw [fpSet_ne hk2] at z
        exact a3 k hk a ha z
  · rw [hH a (fun z => nt a z t) (R.tal a t)]
    exact R.tal a t
  · by_cases hj : j = i
    · subst hj
      rw [fpSet_self] at ha
      exact absurd t (nT a ha)
    · rw [fpSet_ne hj] at ha
      exact ha
  · by_cases hj : j = i
    · subst hj
      rw [hl] at el
      cases el
      rw [look_set_self hi]
      exact ⟨fun y => ⟨⟨d', by rw [y]⟩, rfl⟩, fun y => (mu_kp hu y).elim⟩
    · rw [look_set_ne hj, fpSet_ne hj]
      exact ⟨fun y => ⟨⟨e, by rw [el, y]⟩, rfl⟩, fun y => ⟨el, rfl, rfl⟩⟩
end
/-! ### looking up -/
def findD : List Key → List D → Key → Option D
  | k :: ks, d :: ds, q => if k = q then some d else findD ks ds q
  | _, _, _ => none
theorem find_rep {K : PySem.W.Frag} {H : Hp} {q : Key} : ∀ {ks : List Key} {ds : List D} {xs : List V} {G : List Addr}, RepL K H ds xs G → ks.length = xs.length →
    (findD ks ds q = none ∧ valV (ks.zip xs) q = none) ∨ ∃ d v F, findD ks ds q = some d ∧ valV (ks.zip xs) q = some v ∧ Rep K H d v F ∧ F.Sublist G
  | [], ds, xs, G, h, hl => .inl ⟨by cases ds <;> rfl, rfl⟩
  | k :: ks, [], xs, G, h, hl => by
    simp only [RepL] at h
    rw [h.1] at hl
    cases hl
  | k :: ks, d :: ds, xs, G, h, hl => by
    simp only [RepL] at h
    obtain ⟨v, vs, F1, F2, rfl, rfl, h1, h2⟩ := h
    by_cases e : k = q
    · exact .inr ⟨d, v, F1, if_pos e, valV_pos e, h1, List.sublist_append_left _ _⟩
    · rcases find_rep (q := q) h2 (by simpa using hl) with ⟨a, b⟩ | ⟨d', v', F, a, b, c, s⟩
      · exact .inl ⟨(if_neg e).trans a, (valV_neg e).trans b⟩
      · exact .inr ⟨d', v', F, (if_neg e).trans a, (valV_neg e).trans b, c, s.trans (List.sublist_append_right _ _)⟩
/-! ### {} -/
def mDNew : M := fun ρ => some (.tm true (.dct [] []), ρ)
theorem so_dnew {K : PySem.W.Frag} : SO K tDNewK mDNew := by
  intro ρ o ρ' e T σ H fp R Q h
  cases e
  intro p hp
  have r : Rep K (upd H p (.dK [])) (.dct [] []) (.ref p) [p] := by
    simp only [Rep]
    exact ⟨p, [], [], rfl, upd_same, rfl, by simp [RepL], rfl⟩
  obtain ⟨R2, r2⟩ := R.new (New.one hp) r
  exact h (.ref p) _ fp [p] R2 (Pin.same (same_upd hp)) (Nog.refl _ _) (Fix.refl _ _ _) r2
/-! ### d.setdefault(k, []).append(x) -/
def appAt : List Key → List D → Key → D → Option (List D)
  | k :: ks, d :: ds, q, x => if k = q then (match d with
      | .lst es => if D.pureL es && fullLen es.length then some (.lst (es ++ [x]) :: ds) else none
      | _ => none) else (appAt ks ds q x).map (d :: ·)
  | _, _, _, _ => none
def setdApp (ks : List Key) (ds : List D) (q : Key) (x : D) : Option (List Key × List D) := match findD ks ds q with
  | some _ => (appAt ks ds q x).map (ks, ·)
  | none => some (ks ++ [q], ds ++ [.lst [x]])
theorem app_rep' {K : PySem.W.Frag} {H : Hp} {q : Key} {x : D} {w : V} (rx : Rep K H x w []) : ∀ {ks : List Key} {ds ds' : List D} {xs : List V} {G : List Addr}, RepL K H ds xs G → ks.length = xs.length → G.Nodup → appAt ks ds q x = some ds' →
    ∃ l zs, valV (ks.zip xs) q = some (.ref l) ∧ l ∈ G ∧ H l = some (.lst zs) ∧ zs.length ≤ 10000000 ∧ RepL K (upd H l (.lst (zs ++ [w]))) ds' xs G
  | [], ds, ds', xs, G, h, hl, nd, e => by cases ds <;> cases e
  | k :: ks, [], ds', xs, G, h, hl, nd, e => by cases e
  | k :: ks, d :: ds, ds', xs, G, h, hl, nd, e => by
    simp only [RepL] at h
    obtain ⟨v, vs, F1, F2, rfl, rfl, h1, h2⟩ := h
    obtain ⟨n1, n2, n3⟩ := List.nodup_append.mp nd
    have pn : ∀ {l : Addr} {zs ys : List V}, H l = some (.lst zs) → Pin (fun a => a ≠ l) H (upd H l (.lst ys)) := fun {l zs ys} hz a o eo c => by
      have : a ≠ l := by
        rcases c with c | c
        · exact c
        · rintro rfl
          rw [hz] at eo; cases eo
          cases c
      rw [upd_ne this]; exact eo
    simp only [appAt] at e
    split at e
    · rename_i ek
      split at e
      · rename_i es
        split at e
        · rename_i hc
          cases e
          simp only [Bool.and_eq_true] at hc
          simp only [Rep] at h1
          obtain ⟨l, zs, G1, rfl, hr, ha, rfl⟩ := h1
          have := RepL.pure es zs G1 hr hc.1
          subst this
          refine ⟨l, zs, valV_pos ek, by simp, ha, by rw [← hr.length]; exact of_decide_eq_true hc.2, ?_⟩
          have p := pn (ys := zs ++ [w]) ha
          simp only [RepL]
          refine ⟨.ref l, vs, [l], F2, rfl, rfl, ?_, RepL.pin p ds vs F2 h2 fun a hb e => ?_⟩
          · simp only [Rep]
            refine ⟨l, zs ++ [w], [], rfl, ?_, upd_same, rfl⟩
            have := (RepL.pin p es zs [] hr fun _ h => nomatch h).app (show RepL K (upd H l (.lst (zs ++ [w]))) [x] [w] [] by
              simp only [RepL]
              exact ⟨w, [], [], [], rfl, rfl, Rep.pin p x w [] rx (fun _ h => nomatch h), rfl, rfl⟩)
            simpa using this
          · subst e
            exact n3 a (by simp) a hb rfl
        · cases e
      · cases e
    · rename_i ek
      simp only [Option.map_eq_some_iff] at e
      obtain ⟨ds2, e2, rfl⟩ := e
      obtain ⟨l, zs, a1, a2, a3, a4, a5⟩ := app_rep' rx h2 (by simpa using hl) n2 e2
      refine ⟨l, zs, (valV_neg ek).trans a1, List.mem_append_right _ a2, a3, a4, ?_⟩
      simp only [RepL]
      exact ⟨v, vs, F1, F2, rfl, rfl, Rep.pin (pn a3) d v F1 h1 fun a hb e => n3 a hb l a2 e, a5⟩
def mSetdApp (i j l : Nat) : M := fun ρ => match look ρ i, look ρ j, look ρ l with
  | some (fl, .dct ks ds), some (_, .int k), some (_, d) => match fl.mu && d.pure && fullLen ks.length, setdApp ks ds (.inl k) d with
    | true, some (ks', ds') => some (.tm true .non, ρ.set i (some (fl, .dct ks' ds')))
    | _, _ => none
  | _, _, _ => none
theorem find_app {q : Key} {x : D} : ∀ {ks : List Key} {ds : List D}, findD ks ds q = none → True := fun _ => trivial
theorem so_setdApp {K : PySem.W.Frag} {i j l : Nat} : SO K (tBM K "list" rAppend (tDSetd (tVar i) (tVar j) (tLst tNil)) (tCons (tVar l) tNil)) (mSetdApp i j l) := by
  intro ρ o ρ' e T σ H fp R Q h
  simp only [mSetdApp] at e
  split at e
  · rename_i fl ks ds flj k fll d hi hj hl
    split at e
    · rename_i ks' ds' hc es
      cases e
      simp only [Bool.and_eq_true] at hc
      obtain ⟨⟨hmu, hpd⟩, hful⟩ := hc
      obtain ⟨v, hv, r0⟩ := R.rep i _ _ hi
      obtain ⟨y, hy, ry⟩ := R.rep j _ _ hj
      obtain ⟨w, hw, rw_⟩ := R.rep l _ _ hl
      have hfl := Rep.pure d w _ rw_ hpd
      rw [hfl] at rw_
      simp only [Rep] at ry
      obtain ⟨rfl, _⟩ := ry
      simp only [Rep] at r0
      obtain ⟨a, xs, G, rfl, ha, hlen, hr, hfp⟩ := r0
      obtain ⟨nd, nt, nj⟩ := R.nod i fl _ hi (mu_uq hmu)
      rw [hfp] at nd nt nj
      obtain ⟨aG, nG⟩ := List.nodup_cons.mp nd
      have alG : ∀ b ∈ G, H b ≠ none := fun b hb => (fun ⟨o, e, _⟩ => by rw [e]; exact fun z => nomatch z) (RepL.alloc ds xs G hr b hb)
      have hsz : (ks.zip xs).length ≤ 10000000 := by
        rw [List.length_zip, hlen, Nat.min_self, ← hlen]
        exact of_decide_eq_true hful
      refine ⟨.ref a, hv, a, rfl, .inl ⟨_, .inl ha⟩, .int k, hy, Nat.zero_le _, fun p hp => ?_⟩
      have ap : a ≠ p := fun z => by rw [z, hp] at ha; cases ha
      refine ⟨ks.zip xs, .inl k, by rw [upd_ne ap]; exact ha, rfl, by rw [sizeLine_eq]; omega, fun v' ev => ?_, fun en => ?_⟩
      · -- it is there
        unfold setdApp at es
        rcases find_rep (q := .inl k) hr hlen with ⟨f1, f2⟩ | ⟨d1, v1, F1, f1, f2, _, _⟩
        · rw [f2] at ev; cases ev
        · rw [f1] at es
          simp only [Option.map_eq_some_iff] at es
          obtain ⟨ds2, e2, e3⟩ := es
          cases e3
          have hr' : RepL K (upd H p (.lst [])) ds xs G := hr.same (same_upd hp)
          obtain ⟨b, zs, a1, a2, a3, a4, a5⟩ := app_rep' (rw_.same (same_upd hp)) hr' hlen nG e2
          rw [a1] at ev; cases ev
          have bp : b ≠ p := fun z => alG b a2 (by rw [z]; exact hp)
          have ab : a ≠ b := fun z => aG (by rw [z]; exact a2)
          refine ⟨.inl ⟨rfl, zs, .inl (.inl a3)⟩, w, hw, b, zs, w, rfl, rfl, a3, by rw [sizeLine_eq]; omega, ?_⟩
          have sw := R.swap (H' := upd (upd H p (.lst [])) b (.lst (zs ++ [w]))) (d' := .dct ks ds') (F' := a :: G) hi hv hmu (by
            simp only [Rep]
            exact ⟨a, xs, G, rfl, by rw [upd_ne ab, upd_ne ap]; exact ha, hlen, a5, rfl⟩) nd (fun c hc => .inl (by rw [hfp]; exact hc)) (fun c hc hn => by
            rw [hfp] at hc
            rw [upd_ne (fun z => hc (by rw [z]; exact List.mem_cons_of_mem _ a2)), upd_ne (fun z => hn (by rw [z]; exact hp))])
          obtain ⟨R2, P2, N2, X2⟩ := sw
          obtain ⟨R3, r3⟩ := R2.new (New.nil _) (d := .non) (v := .non) (by simp [Rep])
          exact h .non _ _ [] R3 P2 N2 X2 r3
      · -- it is not
        unfold setdApp at es
        rcases find_rep (q := .inl k) hr hlen with ⟨f1, f2⟩ | ⟨d1, v1, F1, f1, f2, _, _⟩
        · rw [f1] at es
          cases es
          have e1 : putK (ks.zip xs) (.inl k) (V.ref p) = (ks ++ [(Sum.inl k : Key)]).zip (xs ++ [V.ref p]) := by
            rw [putK_new _ f2, List.zip_append hlen]
            rfl
          have pG : p ∉ G := fun z => alG p z hp
          refine ⟨.inl ⟨rfl, [], .inl (.inl (by rw [upd_ne (Ne.symm ap), upd_same]))⟩, w, hw, p, [], w, rfl, rfl, by rw [upd_ne (Ne.symm ap), upd_same], by rw [sizeLine_eq]; simp, ?_⟩
          have sm : Same H (upd (upd (upd H p (.lst [])) a (.dK (putK (ks.zip xs) (.inl k) (V.ref p)))) p (.lst ([] ++ [w]))) ∨ True := .inr trivial
          have pin : Pin (fun c => c ≠ a) H (upd (upd (upd H p (.lst [])) a (.dK (putK (ks.zip xs) (.inl k) (V.ref p)))) p (.lst ([] ++ [w]))) := fun c o eo hc => by
            have cp : c ≠ p := fun z => by rw [z, hp] at eo; cases eo
            have ca : c ≠ a := by
              rcases hc with hc | hc
              · exact hc
              · rintro rfl
                rw [ha] at eo; cases eo
                cases hc
            rw [upd_ne cp, upd_ne ca, upd_ne cp]; exact eo
          have sw := R.swap (H' := upd (upd (upd H p (.lst [])) a (.dK (putK (ks.zip xs) (.inl k) (V.ref p)))) p (.lst ([] ++ [w]))) (d' := .dct (ks ++ [.inl k]) (ds ++ [.lst [d]])) (F' := a :: (G ++ [p])) hi hv hmu (by
            simp only [Rep]
            refine ⟨a, xs ++ [V.ref p], G ++ [p], rfl, by rw [upd_ne ap, upd_same, e1], by simp [hlen], ?_, rfl⟩
            refine (RepL.pin pin ds xs G hr fun c hc z => aG (by rw [← z]; exact hc)).app ?_
            simp only [RepL]
            refine ⟨.ref p, [], [p], [], rfl, rfl, ?_, rfl, rfl⟩
            simp only [Rep]
            refine ⟨p, [w], [], rfl, ?_, by rw [upd_same]; rfl, rfl⟩
            simp only [RepL]
            exact ⟨w, [], [], [], rfl, rfl, Rep.pin pin d w [] rw_ (fun _ h => nomatch h), rfl, rfl⟩) (by
              refine List.nodup_cons.mpr ⟨fun z => ?_, List.nodup_append.mpr ⟨nG, by simp, fun c hc q hq z => pG (by rw [List.mem_singleton.mp hq] at z; rw [← z]; exact hc)⟩⟩
              rcases List.mem_append.mp z with z | z
              · exact aG z
              · exact ap (List.mem_singleton.mp z)) (fun c hc => by
              rcases List.mem_cons.mp hc with rfl | hc
              · exact .inl (by rw [hfp]; simp)
              · rcases List.mem_append.mp hc with hc | hc
                · exact .inl (by rw [hfp]; exact List.mem_cons_of_mem _ hc)
                · exact .inr (by rw [List.mem_singleton.mp hc]; exact hp)) (fun c hc hn => by
            rw [hfp] at hc
            have cp : c ≠ p := fun z => hn (by rw [z]; exact hp)
            rw [upd_ne cp, upd_ne (fun z => hc (by rw [z]; simp)), upd_ne cp])
          obtain ⟨R2, P2, N2, X2⟩ := sw
          obtain ⟨R3, r3⟩ := R2.new (New.nil _) (d := .non) (v := .non) (by simp [Rep])
          exact h .non _ _ [] R3 P2 N2 X2 r3
        · rw [f2] at en; cases en
    · cases e
  · cases e
/-! ### d.get(k, []): what is inside is shared from then on -/
def shF : Fl → Option Fl
  | .o => some .s
  | .s => some .s
  | .h => some .h
  | _ => none
section
variable {K : PySem.W.Frag} {T : Addr → Prop} {ρ : Env} {σ : L2.St} {H H' : Hp} {fp : Fp}
theorem Rel.shared {i : Nat} {fl fl' : Fl} {d : D} (R : Rel K T ρ σ H fp) (hl : look ρ i = some (fl, d)) (hs : shF fl = some fl') :
    Rel K T (ρ.set i (some (fl', d))) σ H fp ∧ Fix ρ σ fp (ρ.set i (some (fl', d))) σ fp ∧ fl'.uq = false := by
  have hi := look_lt hl
  have hq : fl'.uq = false := by cases fl <;> cases hs <;> rfl
  refine ⟨R.reflag (by rw [List.length_set]) (fun j g e el => ?_) (fun j el => ?_), fun j g e el => ?_, hq⟩
  · by_cases hj : j = i
    · subst hj
      rw [look_set_self hi] at el
      cases el
      exact ⟨fl, hl, fun u => by rw [hq] at u; cases u⟩
    · rw [look_set_ne hj] at el
      exact ⟨g, el, id⟩
  · by_cases hj : j = i
    · subst hj
      rw [look_set_self hi] at el
      cases el
    · rw [look_set_ne hj] at el
      exact el
  · by_cases hj : j = i
    · subst hj
      rw [hl] at el
      cases el
      rw [look_set_self hi]
      cases fl <;> cases hs
      · exact ⟨(fun z => nomatch z), (fun z => nomatch z)⟩
      · exact ⟨(fun z => nomatch z), (fun z => nomatch z)⟩
      · exact ⟨(fun z => nomatch z), fun _ => ⟨rfl, rfl, rfl⟩⟩
    · rw [look_set_ne hj]
      exact ⟨fun y => ⟨⟨e, by rw [el, y]⟩, rfl⟩, fun y => ⟨el, rfl, rfl⟩⟩
end
def mDGetL (i : Nat) (mk : M) : M := fun ρ => match look ρ i with
  | some (_, .dct _ _) => match mk ρ with
    | some (o, ρ1) => match opD ρ1 o, look ρ1 i with
      | some (.int k), some (fl, .dct ks ds) => match shF fl, (findD ks ds (.inl k)).getD (.lst []) with
        | some fl', .lst es => some (.tm false (.lst es), ρ1.set i (some (fl', .dct ks ds)))
        | _, _ => none
      | _, _ => none
    | none => none
  | _ => none
theorem so_dgetL {K : PySem.W.Frag} {i : Nat} {ty : TE} {mk : M} (hk : SO K ty mk) : SO K (tDGet2 (tVar i) ty (tLst tNil)) (mDGetL i mk) := by
  intro ρ o ρ' e T σ H fp R Q h
  simp only [mDGetL] at e
  split at e
  · rename_i fl0 ks0 ds0 hl0
    split at e
    · rename_i o1 ρ1 e1
      split at e
      · rename_i k fl ks ds e2 hl
        split at e
        · rename_i fl' es hs hes
          cases e
          obtain ⟨v, hv, r0⟩ := R.rep i _ _ hl0
          simp only [Rep] at r0
          obtain ⟨a, xs0, G0, rfl, ha0, _, _, _⟩ := r0
          refine ⟨.ref a, hv, a, rfl, .inl ⟨_, .inl ha0⟩, ?_⟩
          refine hk ρ o1 ρ1 e1 T σ H fp R _ fun y H1 fp1 F R1 p1 n1 f1 r1 => ?_
          obtain ⟨_, ry⟩ := r1.rep R1 e2
          simp only [Rep] at ry
          obtain ⟨rfl, _⟩ := ry
          refine ⟨Nat.zero_le _, fun p hp => ?_⟩
          have R1' := R1.subF
          have r2 := R1'.at_ hl hv
          simp only [Rep] at r2
          obtain ⟨a', xs, G, ea, ha, hlen, hr, hfp⟩ := r2
          cases ea
          have ap : a ≠ p := fun z => by rw [z, hp] at ha; cases ha
          have sm : Same H1 (upd H1 p (.lst [])) := same_upd hp
          refine ⟨_, DGet.k (k := .inl k) (by rw [upd_ne ap]; exact ha), ?_⟩
          obtain ⟨R2, X2, hq⟩ := (R1'.same sm).shared hl hs
          have key : ∀ (v1 : V) (F1 : List Addr), Rep K (upd H1 p (.lst [])) (.lst es) v1 F1 → (∀ b ∈ F1, b ∈ fp1 i ∨ b = p) → Q v1 (upd H1 p (.lst [])) := fun v1 F1 rv hF => by
            refine h v1 _ fp1 F1 (R2.pinF (fun b hb => rv.fresh hb) fun b hb j g e el u z => ?_) (p1.trans (Pin.same sm)) n1 (f1.trans X2) ⟨rv, fun z => nomatch z⟩
            rcases hF b hb with q | q
            · by_cases hj : j = i
              · subst hj
                rw [look_set_self (look_lt hl)] at el
                cases el
                rw [hq] at u; cases u
              · rw [look_set_ne hj] at el
                exact (R1'.nod j g e el u).2.2 i (Ne.symm hj) b z q
            · subst q
              exact R1'.fresh hp j z
          rcases find_rep (q := .inl k) hr hlen with ⟨g1, g2⟩ | ⟨d1, v1, F1, g1, g2, g3, g4⟩
          · rw [g1] at hes
            cases hes
            rw [g2]
            exact key (.ref p) [p] (by simp only [Rep]; exact ⟨p, [], [], rfl, by simp [RepL], upd_same, rfl⟩) fun b hb => .inr (List.mem_singleton.mp hb)
          · rw [g1] at hes
            cases hes
            rw [g2]
            exact key v1 F1 (g3.same sm) fun b hb => .inl (by rw [hfp]; exact List.mem_cons_of_mem _ (g4.subset hb))
        · cases e
      · cases e
    · cases e
  · cases e
/-- d[k], a list inside -/
def mDIxL (i : Nat) (mk : M) : M := fun ρ => match look ρ i with
  | some _ => match mk ρ with
    | some (o, ρ1) => match opD ρ1 o, look ρ1 i with
      | some (.int k), some (fl, .dct ks ds) => match shF fl, findD ks ds (.inl k) with
        | some fl', some (.lst es) => some (.tm false (.lst es), ρ1.set i (some (fl', .dct ks ds)))
        | _, _ => none
      | _, _ => none
    | none => none
  | none => none
theorem so_dixL {K : PySem.W.Frag} {i : Nat} {ty : TE} {mk : M} (hk : SO K ty mk) : SO K (tDGet (tVar i) ty) (mDIxL i mk) := by
  intro ρ o ρ' e T σ H fp R Q h
  simp only [mDIxL] at e
  split at e
  case h_2 => cases e
  rename_i x0 q0
  split at e
  · rename_i o1 ρ1 e1
    split at e
    · rename_i k fl ks ds e2 hl
      split at e
      · rename_i fl' es hs hes
        cases e
        have go : ∀ v, σ[i]? = some (some v) → ty σ H fun y H2 => ∃ a w, v = V.ref a ∧ DGet H2 a y (some w) ∧ Q w H2 := fun v hv => by
          refine hk ρ o1 ρ1 e1 T σ H fp R _ fun y H1 fp1 F R1 p1 n1 f1 r1 => ?_
          obtain ⟨_, ry⟩ := r1.rep R1 e2
          simp only [Rep] at ry
          obtain ⟨rfl, _⟩ := ry
          have R1' := R1.subF
          have r2 := R1'.at_ hl hv
          simp only [Rep] at r2
          obtain ⟨a, xs, G, rfl, ha, hlen, hr, hfp⟩ := r2
          obtain ⟨R2, X2, hq⟩ := R1'.shared hl hs
          rcases find_rep (q := .inl k) hr hlen with ⟨g1, g2⟩ | ⟨d1, v1, F1, g1, g2, g3, g4⟩
          · rw [g1] at hes; cases hes
          · rw [g1] at hes
            cases hes
            have dg := DGet.k (k := .inl k) ha
            rw [g2] at dg
            refine ⟨a, v1, rfl, dg, ?_⟩
            refine h v1 _ fp1 F1 (R2.pinF (fun b hb => g3.fresh hb) fun b hb j g e el u z => ?_) p1 n1 (f1.trans X2) ⟨g3, fun z => nomatch z⟩
            by_cases hj : j = i
            · subst hj
              rw [look_set_self (look_lt hl)] at el
              cases el
              rw [hq] at u; cases u
            · rw [look_set_ne hj] at el
              exact (R1'.nod j g e el u).2.2 i (Ne.symm hj) b z (by rw [hfp]; exact List.mem_cons_of_mem _ (g4.subset hb))
        obtain ⟨v, hv, _⟩ := R.rep i x0.1 x0.2 q0
        exact ⟨v, hv, go v hv⟩
      · cases e
    · cases e
  · cases e
/-! ### k in d -/
def rDIn : R2 := fun y x H Q => ∃ a o, x = .ref a ∧ DGet H a y o ∧ Q (.bl o.isSome) H
def rDNotIn : R2 := fun y x H Q => ∃ a o, x = .ref a ∧ DGet H a y o ∧ Q (.bl (!o.isSome)) H
theorem op_din {X : Cx} (hu : X.A.units + 1 < cLine) : OpR X (compareOp .In) rDIn := by
  intro pins s σ H x y v u Q I rx ry h
  obtain ⟨a, o, rfl, g, q⟩ := h
  cases ry
  exact d_in hu I g rx fun s3 I3 => ⟨.bl o.isSome, H, I3, rfl, q⟩
theorem op_dnotin {X : Cx} (hu : X.A.units + 1 < cLine) : OpR X (compareOp .NotIn) rDNotIn := by
  intro pins s σ H x y v u Q I rx ry h
  obtain ⟨a, o, rfl, g, q⟩ := h
  cases ry
  exact d_notIn hu I g rx fun s3 I3 => ⟨.bl (!o.isSome), H, I3, rfl, q⟩
def dInB : D → D → Option D
  | .int k, .dct ks ds => some (.bl (findD ks ds (.inl k)).isSome)
  | k, .lst ds => dInL k (.lst ds)
  | _, _ => none
def dNotInB : D → D → Option D
  | .int k, .dct ks ds => some (.bl (!(findD ks ds (.inl k)).isSome))
  | k, .lst ds => dNotInL k (.lst ds)
  | _, _ => none
def rInB (K : PySem.W.Frag) : R2 := fun x y H Q => rInD K x y H Q ∨ rDIn x y H Q
def rNotInB (K : PySem.W.Frag) : R2 := fun x y H Q => rNotInD K x y H Q ∨ rDNotIn x y H Q
theorem dct_at {K : PySem.W.Frag} {H : Hp} {ks : List Key} {ds : List D} {w : V} {G : List Addr} (k : Int) (r : Rep K H (.dct ks ds) w G) : ∃ a o, w = .ref a ∧ DGet H a (.int k) o ∧ o.isSome = (findD ks ds (.inl k)).isSome := by
  simp only [Rep] at r
  obtain ⟨a, xs, G', rfl, ha, hlen, hr, _⟩ := r
  refine ⟨a, _, rfl, DGet.k (k := .inl k) ha, ?_⟩
  rcases find_rep (q := .inl k) hr hlen with ⟨g1, g2⟩ | ⟨d1, v1, F1, g1, g2, _, _⟩
  · rw [g1, g2]; rfl
  · rw [g1, g2]; rfl
theorem rop_inB {K : PySem.W.Frag} : ROp K (rInB K) dInB := by
  intro d1 d2 d e H v w F G r1 r2 Q h
  unfold dInB at e
  split at e
  · rename_i k ks ds
    cases e
    simp only [Rep] at r1
    obtain ⟨rfl, _⟩ := r1
    obtain ⟨a, o, rfl, g, hs⟩ := dct_at k r2
    refine .inr ⟨a, o, rfl, g, ?_⟩
    rw [hs]
    exact h _ H [] (New.nil H) (by simp [Rep])
  · exact .inl (rop_inL _ _ d e H v w F G r1 r2 Q h)
  · cases e
theorem rop_notInB {K : PySem.W.Frag} : ROp K (rNotInB K) dNotInB := by
  intro d1 d2 d e H v w F G r1 r2 Q h
  unfold dNotInB at e
  split at e
  · rename_i k ks ds
    cases e
    simp only [Rep] at r1
    obtain ⟨rfl, _⟩ := r1
    obtain ⟨a, o, rfl, g, hs⟩ := dct_at k r2
    refine .inr ⟨a, o, rfl, g, ?_⟩
    rw [hs]
    exact h _ H [] (New.nil H) (by simp [Rep])
  · exact .inl (rop_notInL _ _ d e H v w F G r1 r2 Q h)
  · cases e
theorem OpR.or {X : Cx} {f : Value → Value → Sem Value} {r s : R2} (hr : OpR X f r) (hs : OpR X f s) : OpR X f fun x y H Q => r x y H Q ∨ s x y H Q := fun pins st σ H x y v u Q I rx ry h => h.elim (hr pins st σ H x y v u Q I rx ry) (hs pins st σ H x y v u Q I rx ry)
/-! ### dict([(k, True), ..]) -/
def keyT : D → Option Key
  | .tup [.int k, .bl true] => some (.inl k)
  | _ => none
def keysT : List D → Option (List Key)
  | [] => some []
  | d :: ds => match keyT d, keysT ds with
    | some k, some ks => some (k :: ks)
    | _, _ => none
def addK (ks : List Key) (k : Key) : List Key := if (ks.any fun x => decide (x = k)) = true then ks else ks ++ [k]
def dedupK (ks : List Key) : List Key := ks.foldl addK []
def cDictT : List D → Option D
  | [.lst ds] => match keysT ds with
    | some ks => some (.dct (dedupK ks) (List.replicate (dedupK ks).length (.bl true)))
    | none => none
  | _ => none
def rDictP (K : PySem.W.Frag) : List V → Hp → VK → Prop := fun xs H Q => ∃ (a : Addr) (ps : List Addr) (kvs : List (Key × V)), xs = [.ref a] ∧ SqL K H a (ps.map V.ref) ∧ Paired (fun p kv => SqT K H p [kV kv.1, kv.2]) ps kvs ∧
    ∀ p, H p = none → Q (.ref p) (upd H p (.dK (mergeK [] kvs)))
theorem put_same (v : V) (k : Key) (ks : List Key) : putK (ks.map fun k => (k, v)) k v = (addK ks k).map fun k => (k, v) := by
  unfold putK addK
  have e : ((ks.map fun k => (k, v)).any fun kv => decide (kv.1 = k)) = ks.any fun x => decide (x = k) := by
    rw [List.any_map]
    rfl
  rw [e]
  split
  · rw [List.map_map]
    apply List.map_congr_left
    intro x _
    dsimp only [Function.comp]
    split <;> rfl
  · rw [List.map_append]
    rfl
theorem merge_same (v : V) : ∀ (ks acc : List Key), mergeK (acc.map fun k => (k, v)) (ks.map fun k => (k, v)) = (ks.foldl addK acc).map fun k => (k, v)
  | [], acc => rfl
  | k :: ks, acc => by
    have := merge_same v ks (addK acc k)
    rw [← put_same] at this
    exact this
theorem keys_rep {K : PySem.W.Frag} {H : Hp} : ∀ {ds : List D} {xs : List V} {G : List Addr} {ks : List Key}, RepL K H ds xs G → keysT ds = some ks → ∃ ps : List Addr, xs = ps.map V.ref ∧ Paired (fun p kv => SqT K H p [kV kv.1, kv.2]) ps (ks.map fun k => (k, V.bl true))
  | [], xs, G, ks, h, e => by
    simp only [RepL] at h
    cases e
    exact ⟨[], by rw [h.1]; rfl, .nil⟩
  | d :: ds, xs, G, ks, h, e => by
    simp only [RepL] at h
    obtain ⟨v, vs, F1, F2, rfl, rfl, h1, h2⟩ := h
    simp only [keysT] at e
    split at e
    · rename_i k ks' e1 e2
      cases e
      obtain ⟨ps, rfl, hp⟩ := keys_rep h2 e2
      unfold keyT at e1
      split at e1
      · cases e1
        simp only [Rep] at h1
        obtain ⟨b, ys, rfl, hb, hr⟩ := h1
        simp only [RepL, Rep] at hr
        obtain ⟨y1, ys1, _, _, rfl, _, ⟨rfl, _⟩, y2, ys2, _, _, rfl, _, ⟨rfl, _⟩, rfl, _⟩ := hr
        exact ⟨b :: ps, rfl, .cons (.inl (.inl hb)) hp⟩
      · cases e1
    · cases e
theorem rep_true {K : PySem.W.Frag} {H : Hp} : ∀ n : Nat, RepL K H (List.replicate n (.bl true)) (List.replicate n (V.bl true)) []
  | 0 => by simp [RepL]
  | n + 1 => by
    rw [List.replicate_succ, List.replicate_succ]
    simp only [RepL]
    exact ⟨.bl true, _, [], [], rfl, rfl, by simp [Rep], rep_true n⟩
theorem rc_dictT {K : PySem.W.Frag} : RCall K (rDictP K) cDictT := by
  intro ds d e H vs rs Q h
  unfold cDictT at e
  split at e
  · rename_i ds
    split at e
    · rename_i ks ek
      cases e
      obtain ⟨v, ws, F, rfl, r, rfl⟩ := rs
      obtain ⟨a, xs, G, rfl, sq, rl, _⟩ := RepL.sql r
      obtain ⟨ps, rfl, hp⟩ := keys_rep rl ek
      refine ⟨a, ps, _, rfl, sq, hp, fun p hn => h (.ref p) _ [p] (New.one hn) ?_⟩
      have em := merge_same (.bl true) ks []
      rw [List.map_nil] at em
      rw [em]
      have ez : ((ks.foldl addK []).map fun k => (k, V.bl true)) = (dedupK ks).zip (List.replicate (dedupK ks).length (V.bl true)) := by
        show (dedupK ks).map _ = _
        generalize dedupK ks = l
        induction l with
        | nil => rfl
        | cons x l ih => rw [List.map_cons, List.length_cons, List.replicate_succ, List.zip_cons_cons, ih]
      rw [ez]
      simp only [Rep]
      refine ⟨p, _, [], rfl, upd_same, by simp, ?_, rfl⟩
      exact rep_true _
    · cases e
  · cases e
/-! ### in the text -/
section
variable {G : Gb} {S : Sc}
variable {x : Str} {i j l : Nat} {px pos apos cpos apos2 cpos2 lp p pk pv : Pos} {e : Expr} {te : TE} {me : M} {t : TA} {m : MA}
theorem units1 {X : Cx} (g : Good G S X) : X.A.units + 1 < cLine := by have := units65 g; omega
theorem b_dnew : BE G S (.Dict [] [] pos) tDNewK mDNew := ⟨fun X g => pe_dnewK, so_dnew⟩
theorem b_dgetL (hn : nameOk S i x = true) (he : BE G S e te me) (h1 : ∀ env, starEach [e, .List [] lp] env = [(false, eval e env), (false, eval (.List [] lp) env)] := by intro _; rfl) (h3 : (apos.endLine == cpos.line) = true := by rfl) : BE G S (.Call (.Attribute (.Name x px) "get" apos) [e, .List [] lp] [] cpos) (tDGet2 (tVar i) te (tLst tNil)) (mDGetL i me) :=
  ⟨fun X g => pe_dget2 (units1 g) ((b_name (G := G) hn).pe X g) (he.pe X g) (pe_lst pa_nil) ⟨rfl, by rw [h1]; rfl, h3, by rw [h1]; rfl⟩, so_dgetL he.so⟩
theorem b_dixL (hn : nameOk S i x = true) (he : BE G S e te me) (hs : NoSl e := by intro _ _; rfl) : BE G S (.Subscript (.Name x px) e pos) (tDGet (tVar i) te) (mDIxL i me) :=
  ⟨fun X g => pe_dget (units1 g) ((b_name (G := G) hn).pe X g) (he.pe X g) hs, so_dixL he.so⟩
theorem k_inB : InK G S .In (rInB G.K) dInB := ⟨fun X g => OpR.or (by rw [← g.K]; exact op_inD (units65 g)) (op_din (units1 g)), rop_inB⟩
theorem k_notInB : InK G S .NotIn (rNotInB G.K) dNotInB := ⟨fun X g => OpR.or (by rw [← g.K]; exact op_notInD (units65 g)) (op_dnotin (units1 g)), rop_notInB⟩
theorem b_dictT (hm : G.mg "dict" = none) (hg : globOk S "dict" = true) (ha : BA G S [e] t m) (h1 : ∀ env, starEach [e] env = [(false, eval e env)] := by intro _; rfl) : BE G S (.Call (.Name "dict" p) [e] [] pos) (tCB (rDictP G.K) t) (mCB cDictT m) :=
  b_callT (fun X g => by rw [← g.K]; exact call_dictP g.calm) rc_dictT (by decide +kernel) hm hg ha h1 (by intro _; rfl)
theorem b_setdApp {y z : Str} (hn : nameOk S i x = true) (hy : nameOk S j y = true) (hz : nameOk S l z = true) (h3 : (apos.endLine == cpos.line) = true := by rfl) (h4 : (apos2.endLine == cpos2.line) = true := by rfl) :
    BE G S (.Call (.Attribute (.Call (.Attribute (.Name x px) "setdefault" apos) [.Name y pk, .List [] lp] [] cpos) "append" apos2) [.Name z pv] [] cpos2) (tBM G.K "list" rAppend (tDSetd (tVar i) (tVar j) (tLst tNil)) (tCons (tVar l) tNil)) (mSetdApp i j l) :=
  ⟨fun X g => by rw [← g.K]; exact pe_bm F.plainAttrs_list F.slot_list_append F.type_list_append m_append (pe_dsetd ((b_name (G := G) hn).pe X g) ((b_name (G := G) hy).pe X g) (pe_lst pa_nil) ⟨rfl, rfl, h3, rfl⟩) (pa_cons ((b_name (G := G) hz).pe X g) pa_nil) rfl rfl h4 rfl rfl, so_setdApp⟩
end
end U

/-! W10: dicts in the walk. -/
namespace U.P
open PySem L2 U
abbrev kN (n : Nat) : Key := Sum.inl (n : Int)
/-- a dict of lists of numbers -/
def dL (m : List (Nat × List Nat)) : D := .dct (m.map fun p => kN p.1) (m.map fun p => lD nD p.2)
/-- a dict of marks -/
def mD (l : List Nat) : D := .dct (l.map kN) (List.replicate l.length (.bl true))
def addP : List (Nat × List Nat) → Nat → Nat → List (Nat × List Nat)
  | [], n, x => [(n, [x])]
  | (k, l) :: m, n, x => if k = n then (k, l ++ [x]) :: m else (k, l) :: addP m n x
def findP : List (Nat × List Nat) → Nat → Option (List Nat)
  | [], _ => none
  | (k, l) :: m, n => if k = n then some l else findP m n
def getP (m : List (Nat × List Nat)) (n : Nat) : List Nat := (findP m n).getD []
theorem kN_inj {a b : Nat} : (kN a = kN b) ↔ a = b := by
  constructor
  · intro h
    have := Sum.inl.inj h
    omega
  · intro h; rw [h]
theorem findD_dL (n : Nat) : ∀ m : List (Nat × List Nat), findD (m.map fun p => kN p.1) (m.map fun p => lD nD p.2) (kN n) = (findP m n).map (lD nD)
  | [] => rfl
  | (k, l) :: m => by
    rw [List.map_cons, List.map_cons, findD, findP]
    by_cases h : k = n
    · rw [if_pos (kN_inj.mpr h), if_pos h]; rfl
    · rw [if_neg (mt kN_inj.mp h), if_neg h, findD_dL n m]
def okP (m : List (Nat × List Nat)) : Prop := m.length ≤ 10000000 ∧ ∀ p ∈ m, p.2.length ≤ 10000000
theorem appAt_dL (n x : Nat) : ∀ m : List (Nat × List Nat), (∀ p ∈ m, p.2.length ≤ 10000000) → (findP m n).isSome = true → appAt (m.map fun p => kN p.1) (m.map fun p => lD nD p.2) (kN n) (nD x) = some ((addP m n x).map fun p => lD nD p.2)
  | [], _, h => by cases h
  | (k, l) :: m, ho, h => by
    rw [List.map_cons, List.map_cons, appAt, addP]
    have hp : D.pureL (l.map nD) = true := (pl_map (xs := l) (f := nD)).eq
    have hl := ho (k, l) List.mem_cons_self
    by_cases e : k = n
    · rw [if_pos (kN_inj.mpr e), if_pos e]
      simp [hp, fullLen, hl]
    · rw [if_neg (mt kN_inj.mp e), if_neg e, appAt_dL n x m (fun p hp => ho p (List.mem_cons_of_mem _ hp)) (by rw [findP, if_neg e] at h; exact h)]
      rfl
theorem addP_old (n x : Nat) : ∀ m : List (Nat × List Nat), (findP m n).isSome = true → (addP m n x).map (·.1) = m.map (·.1)
  | [], h => by cases h
  | (k, l) :: m, h => by
    rw [addP]
    by_cases e : k = n
    · rw [if_pos e]; rfl
    · rw [if_neg e, List.map_cons, List.map_cons, addP_old n x m (by rw [findP, if_neg e] at h; exact h)]
theorem addP_new (n x : Nat) : ∀ m : List (Nat × List Nat), findP m n = none → addP m n x = m ++ [(n, [x])]
  | [], _ => rfl
  | (k, l) :: m, h => by
    rw [addP]
    by_cases e : k = n
    · rw [findP, if_pos e] at h; cases h
    · rw [if_neg e, addP_new n x m (by rw [findP, if_neg e] at h; exact h)]; rfl
theorem setdApp_dL {m : List (Nat × List Nat)} {n x : Nat} (ho : okP m) : setdApp (m.map fun p => kN p.1) (m.map fun p => lD nD p.2) (kN n) (nD x) = some ((addP m n x).map fun p => kN p.1, (addP m n x).map fun p => lD nD p.2) := by
  unfold setdApp
  rw [findD_dL]
  cases h : findP m n with
  | none =>
    rw [addP_new n x m h]
    simp
  | some l =>
    have hs : (findP m n).isSome = true := by rw [h]; rfl
    simp only [Option.map_some, appAt_dL n x m ho.2 hs, Option.map_some]
    have e := addP_old n x m hs
    have : (addP m n x).map (fun p => kN p.1) = m.map fun p => kN p.1 := by
      have := congrArg (List.map kN) e
      rwa [List.map_map, List.map_map] at this
    rw [this]
theorem findP_some (n : Nat) : ∀ m : List (Nat × List Nat), (findP m n).isSome = decide (n ∈ m.map (·.1))
  | [] => by simp [findP]
  | (k, l) :: m => by
    rw [findP]
    by_cases h : k = n
    · rw [if_pos h]; simp [h]
    · rw [if_neg h, findP_some n m]
      have : ¬ n = k := fun e => h e.symm
      simp [this]
instance pu_dL {m : List (Nat × List Nat)} : Pu (dL m) false := ⟨rfl⟩
instance pu_mD {l : List Nat} : Pu (mD l) false := ⟨rfl⟩
instance is_dL {m : List (Nat × List Nat)} : Ist (dL m) false := ⟨rfl⟩
instance is_mD {l : List Nat} : Ist (mD l) false := ⟨rfl⟩
section
variable {ρ ρ2 : Env} {Q : Opd → Env → Prop} {i j l : Nat} {fl fl' f2 f3 : Fl} {m m0 : List (Nat × List Nat)} {k : Int} {n x : Nat} {d : D}
instance w_dnew : St (WE mDNew ρ Q) (Q (.tm true (dL [])) ρ) := ⟨fun q => ⟨_, _, rfl, q⟩⟩
instance w_setd [a : LookAt ρ i (some (fl, dL m))] [b : LookAt ρ j (some (f2, .int k))] [c : NatI k n] [e : LookAt ρ l (some (f3, d))] [v : Cv nD d x] [u : Mu fl] [s : SetAt ρ i (some (fl, dL (addP m n x))) ρ2] : St (WE (mSetdApp i j l) ρ Q) (WP (okP m) (Q (.tm true .non) ρ2)) := ⟨fun ⟨ho, q⟩ => by
  refine ⟨_, ρ2, ?_, q⟩
  have hv := v.eq
  have hc := c.eq
  subst hv hc
  have h2 := setdApp_dL (n := n) (x := x) ho
  have hf : fullLen (m.map fun p => kN p.1).length = true := by rw [List.length_map]; exact decide_eq_true ho.1
  simp only [mSetdApp, a.eq, b.eq, e.eq, dL, u.eq, hf, h2, D.pure, Bool.and_self]
  rw [← s.eq]
  rfl⟩
def WDG (i : Nat) (d : D) (ρ1 : Env) (Q : Opd → Env → Prop) : Prop := ∃ k fl ks ds fl' es, d = .int k ∧ look ρ1 i = some (fl, .dct ks ds) ∧ shF fl = some fl' ∧ (findD ks ds (.inl k)).getD (.lst []) = .lst es ∧ Q (.tm false (.lst es)) (ρ1.set i (some (fl', .dct ks ds)))
def WDX (i : Nat) (d : D) (ρ1 : Env) (Q : Opd → Env → Prop) : Prop := ∃ k fl ks ds fl' es, d = .int k ∧ look ρ1 i = some (fl, .dct ks ds) ∧ shF fl = some fl' ∧ findD ks ds (.inl k) = some (.lst es) ∧ Q (.tm false (.lst es)) (ρ1.set i (some (fl', .dct ks ds)))
class Sh (fl : Fl) (fl' : outParam Fl) : Prop where
  eq : shF fl = some fl'
instance shd_o : Sh .o .s := ⟨rfl⟩
instance shd_s : Sh .s .s := ⟨rfl⟩
instance shd_h : Sh .h .h := ⟨rfl⟩
instance w_dgetL {mk : M} [a : LookAt ρ i (some (fl, dL m0))] : St (WE (mDGetL i mk) ρ Q) (WE mk ρ fun o ρ1 => W1 (opD ρ1 o) fun d => WDG i d ρ1 Q) := ⟨fun h => by
  obtain ⟨o, ρ1, e1, d, e2, k, f, ks, ds, f', es, rfl, e3, e4, e5, q⟩ := h
  exact ⟨_, _, by simp only [mDGetL, a.eq, dL, e1, e2, e3, e4, e5], q⟩⟩
instance w_dixL {mk : M} {e : Fl × D} [a : LookAt ρ i (some e)] : St (WE (mDIxL i mk) ρ Q) (WE mk ρ fun o ρ1 => W1 (opD ρ1 o) fun d => WDX i d ρ1 Q) := ⟨fun h => by
  obtain ⟨o, ρ1, e1, d, e2, k, f, ks, ds, f', es, rfl, e3, e4, e5, q⟩ := h
  exact ⟨_, _, by simp only [mDIxL, a.eq, e1, e2, e3, e4, e5], q⟩⟩
instance w_dg [c : NatI k n] [a : LookAt ρ i (some (fl, dL m))] [s : Sh fl fl'] [t : SetAt ρ i (some (fl', dL m)) ρ2] : St (WDG i (.int k) ρ Q) (Q (.tm false (lD nD (getP m n))) ρ2) := ⟨fun q => by
  have hc := c.eq
  subst hc
  refine ⟨_, fl, _, _, fl', (getP m n).map nD, rfl, a.eq, s.eq, ?_, ?_⟩
  · show (findD _ _ (kN n)).getD _ = _
    rw [findD_dL, getP]
    cases findP m n <;> rfl
  · have := t.eq
    rw [dL] at this
    rw [this]
    exact q⟩
instance w_dx [c : NatI k n] [a : LookAt ρ i (some (fl, dL m))] [s : Sh fl fl'] [t : SetAt ρ i (some (fl', dL m)) ρ2] : St (WDX i (.int k) ρ Q) (WP (n ∈ m.map (·.1)) (Q (.tm false (lD nD (getP m n))) ρ2)) := ⟨fun ⟨hm, q⟩ => by
  have hc := c.eq
  subst hc
  refine ⟨_, fl, _, _, fl', (getP m n).map nD, rfl, a.eq, s.eq, ?_, ?_⟩
  · show findD _ _ (kN n) = _
    rw [findD_dL, getP]
    have : (findP m n).isSome = true := by rw [findP_some]; exact decide_eq_true hm
    cases e : findP m n with
    | none => rw [e] at this; cases this
    | some l => rfl
  · have := t.eq
    rw [dL] at this
    rw [this]
    exact q⟩
end
section
variable {Q : D → Prop} {i : Int} {n : Nat} {m : List (Nat × List Nat)} {l : List Nat} {α : Type} {xs : List α} {g : α → Nat} {ds : List D} {d : D}
instance q_inP [a : NatI i n] : St (W1 (dInB (.int i) (dL m)) Q) (Q (.bl (decide (n ∈ m.map (·.1))))) := ⟨fun q => ⟨_, by
  have := a.eq
  subst this
  show some (D.bl (findD _ _ (kN n)).isSome) = _
  rw [findD_dL, Option.isSome_map, findP_some], q⟩⟩
theorem findD_mD (n : Nat) : ∀ l : List Nat, (findD (l.map kN) (List.replicate l.length (.bl true)) (kN n)).isSome = decide (n ∈ l)
  | [] => rfl
  | k :: l => by
    rw [List.map_cons, List.length_cons, List.replicate_succ, findD]
    by_cases h : k = n
    · rw [if_pos (kN_inj.mpr h)]; simp [h]
    · rw [if_neg (mt kN_inj.mp h), findD_mD n l]
      have : ¬ n = k := fun e => h e.symm
      simp [this]
instance q_inS [a : NatI i n] : St (W1 (dInB (.int i) (mD l)) Q) (Q (.bl (decide (n ∈ l)))) := ⟨fun q => ⟨_, by
  have := a.eq
  subst this
  show some (D.bl (findD _ _ (kN n)).isSome) = _
  rw [findD_mD], q⟩⟩
theorem inB_lst {d : D} {ds : List D} : dInB d (.lst ds) = dInL d (.lst ds) := by cases d <;> rfl
theorem notInB_lst {d : D} {ds : List D} : dNotInB d (.lst ds) = dNotInL d (.lst ds) := by cases d <;> rfl
instance q_inBL : St (W1 (dInB d (.lst ds)) Q) (W1 (dInL d (.lst ds)) Q) := ⟨fun q => by rw [inB_lst]; exact q⟩
instance q_notInBL : St (W1 (dNotInB d (.lst ds)) Q) (W1 (dNotInL d (.lst ds)) Q) := ⟨fun q => by rw [notInB_lst]; exact q⟩
theorem keysT_map : ∀ xs : List α, keysT (xs.map fun x => .tup [nD (g x), .bl true]) = some ((xs.map g).map kN)
  | [] => rfl
  | x :: xs => by
    rw [List.map_cons, keysT, keysT_map xs]
    rfl
theorem fold_add : ∀ (ys acc : List Nat), acc.Nodup → ∃ l : List Nat, (ys.map kN).foldl addK (acc.map kN) = l.map kN ∧ (∀ n, n ∈ l ↔ n ∈ acc ∨ n ∈ ys) ∧ l.Nodup
  | [], acc, nd => ⟨acc, rfl, fun n => by simp, nd⟩
  | y :: ys, acc, nd => by
    have e : addK (acc.map kN) (kN y) = (if y ∈ acc then acc else acc ++ [y]).map kN := by
      unfold addK
      have : ((acc.map kN).any fun x => decide (x = kN y)) = decide (y ∈ acc) := by
        rw [List.any_map]
        clear nd
        induction acc with
        | nil => rfl
        | cons a acc ih =>
          rw [List.any_cons, ih]
          by_cases h : a = y
          · subst h; simp
          · have h2 : ¬ y = a := fun e => h e.symm
            have h3 : ¬ kN a = kN y := mt kN_inj.mp h
            simp [h2, h3]
      rw [this]
      by_cases h : y ∈ acc
      · rw [if_pos (decide_eq_true h), if_pos h]
      · rw [if_neg (by simpa using h), if_neg h, List.map_append]; rfl
    obtain ⟨l, h1, h2, h3⟩ := fold_add ys (if y ∈ acc then acc else acc ++ [y]) (by
      by_cases h : y ∈ acc
      · rw [if_pos h]; exact nd
      · rw [if_neg h]; exact List.nodup_append.mpr ⟨nd, by simp, fun a ha b hb => by rw [List.mem_singleton.mp hb]; exact fun e => h (e ▸ ha)⟩)
    refine ⟨l, by rw [List.map_cons, List.foldl_cons, e, h1], fun n => ?_, h3⟩
    rw [h2, List.mem_cons]
    by_cases h : y ∈ acc
    · rw [if_pos h]
      constructor
      · rintro (h' | h')
        · exact .inl h'
        · exact .inr (.inr h')
      · rintro (h' | rfl | h')
        · exact .inl h'
        · exact .inl h
        · exact .inr h'
    · rw [if_neg h, List.mem_append, List.mem_singleton, or_assoc]
instance q_dictT : St (W1 (cDictT [.lst (xs.map fun x => .tup [nD (g x), .bl true])]) Q) (∀ l : List Nat, (∀ n, n ∈ l ↔ n ∈ xs.map g) → l.Nodup → Q (mD l)) := ⟨fun q => by
  obtain ⟨l, h1, h2, h3⟩ := fold_add (xs.map g) [] .nil
  refine ⟨_, ?_, q l (fun n => by rw [h2]; simp) h3⟩
  have e : dedupK ((xs.map g).map kN) = l.map kN := h1
  simp only [cDictT, keysT_map, e, mD, List.length_map]⟩
end
end U.P

/-! plain: pairs of places; the greatest and the least of them -/
namespace U.P
abbrev prRow (xs : List Nat) (i : Nat) : List (Nat × Nat × Nat) := (List.range' (i + 1) (xs.length - (i + 1))).map fun j => (xs.getD i 0 ^^^ xs.getD j 0, i, j)
def prs (xs : List Nat) : List (Nat × Nat × Nat) := (List.range xs.length).flatMap (prRow xs)
theorem flat_le {α β : Type} {f : α → List β} {n : Nat} : ∀ {l : List α}, (∀ x ∈ l, (f x).length ≤ n) → (l.flatMap f).length ≤ l.length * n
  | [], _ => by simp
  | x :: l, h => by
    have h1 := h x List.mem_cons_self
    have h2 := flat_le fun y hy => h y (List.mem_cons_of_mem _ hy)
    rw [List.flatMap_cons, List.length_append, List.length_cons, Nat.add_mul]
    omega
theorem prs_le (xs : List Nat) (k : Nat) : ((List.range k).flatMap (prRow xs)).length ≤ k * xs.length := by
  have := flat_le (f := prRow xs) (n := xs.length) (l := List.range k) fun i _ => by simp
  simpa using this
theorem prs_len (xs : List Nat) : (prs xs).length ≤ xs.length * xs.length := prs_le xs _
theorem prs_step (xs : List Nat) (k : Nat) : (List.range (k + 1)).flatMap (prRow xs) = (List.range k).flatMap (prRow xs) ++ prRow xs k := by
  rw [List.range_succ, List.flatMap_append]
  simp
theorem prs_bd {n k : Nat} (hn : n ≤ 1000) (hk : k < n) : k * n + n ≤ 1000000 := by
  have : (k + 1) * n ≤ 1000 * 1000 := Nat.mul_le_mul (by omega) hn
  rw [Nat.add_mul] at this
  omega

theorem prs_mem {xs : List Nat} {p : Nat × Nat × Nat} : p ∈ prs xs ↔ p.2.1 < p.2.2 ∧ p.2.2 < xs.length ∧ p.1 = xs.getD p.2.1 0 ^^^ xs.getD p.2.2 0 := by
  unfold prs
  rw [List.mem_flatMap]
  constructor
  · rintro ⟨i, hi, hp⟩
    obtain ⟨j, hj, rfl⟩ := List.mem_map.mp hp
    rw [List.mem_range'_1] at hj
    rw [List.mem_range] at hi
    exact ⟨by dsimp only; omega, by dsimp only; omega, rfl⟩
  · rintro ⟨h1, h2, h3⟩
    obtain ⟨v, i, j⟩ := p
    dsimp only at h1 h2 h3
    exact ⟨i, List.mem_range.mpr (by omega), List.mem_map.mpr ⟨j, by rw [List.mem_range'_1]; omega, by rw [h3]⟩⟩
theorem prs_nil {xs : List Nat} : prs xs = [] ↔ xs.length < 2 := by
  constructor
  · intro h
    rcases Nat.lt_or_ge xs.length 2 with h2 | h2
    · exact h2
    · have : (xs.getD 0 0 ^^^ xs.getD 1 0, 0, 1) ∈ prs xs := prs_mem.mpr ⟨Nat.zero_lt_one, h2, rfl⟩
      rw [h] at this
      cases this
  · intro h
    cases e : prs xs with
    | nil => rfl
    | cons p t =>
      have := (prs_mem (xs := xs) (p := p)).mp (by rw [e]; exact List.mem_cons_self)
      omega
/-! ### the places of a number -/
theorem getP_add (m : List (Nat × List Nat)) (n x q : Nat) : getP (addP m n x) q = if q = n then getP m q ++ [x] else getP m q := by
  unfold getP
  induction m with
  | nil =>
    rw [addP, findP, findP]
    by_cases h : n = q
    · rw [if_pos h, if_pos h.symm]; rfl
    · rw [if_neg h, if_neg (fun e => h e.symm)]; rfl
  | cons p m ih =>
    obtain ⟨k, l⟩ := p
    rw [addP]
    by_cases h : k = n
    · rw [if_pos h, findP, findP]
      by_cases h2 : k = q
      · rw [if_pos h2, if_pos h2, if_pos (h2.symm.trans h)]; rfl
      · rw [if_neg h2, if_neg h2, if_neg (fun e => h2 (h.trans e.symm))]
    · rw [if_neg h, findP, findP]
      by_cases h2 : k = q
      · rw [if_pos h2, if_pos h2, if_neg (fun e => h (h2.trans e))]
      · rw [if_neg h2, if_neg h2]
        exact ih
theorem keys_add (m : List (Nat × List Nat)) (n x q : Nat) : q ∈ (addP m n x).map (·.1) ↔ q = n ∨ q ∈ m.map (·.1) := by
  induction m with
  | nil => simp [addP]
  | cons p m ih =>
    obtain ⟨k, l⟩ := p
    rw [addP]
    by_cases h : k = n
    · rw [if_pos h]
      simp only [List.map_cons, List.mem_cons]
      constructor
      · rintro (h' | h')
        · exact .inl (h'.trans h)
        · exact .inr (.inr h')
      · rintro (h' | h' | h')
        · exact .inl (h'.trans h.symm)
        · exact .inl h'
        · exact .inr h'
    · rw [if_neg h, List.map_cons, List.mem_cons, ih, List.map_cons, List.mem_cons]
      constructor
      · rintro (h' | h' | h')
        · exact .inr (.inl h')
        · exact .inl h'
        · exact .inr (.inr h')
      · rintro (h' | h' | h')
        · exact .inr (.inl h')
        · exact .inl h'
        · exact .inr (.inr h')
theorem add_len (m : List (Nat × List Nat)) (n x k : Nat) (h1 : m.length ≤ k) (h2 : ∀ p ∈ m, p.2.length ≤ k) : (addP m n x).length ≤ k + 1 ∧ ∀ p ∈ addP m n x, p.2.length ≤ k + 1 := by
  induction m generalizing k with
  | nil =>
    refine ⟨by simp [addP], fun p hp => ?_⟩
    rw [addP, List.mem_singleton] at hp
    rw [hp]
    simp
  | cons p m ih =>
    obtain ⟨q, l⟩ := p
    rw [List.length_cons] at h1
    have hl := h2 (q, l) List.mem_cons_self
    have h3 : ∀ p ∈ m, p.2.length ≤ k := fun p hp => h2 p (List.mem_cons_of_mem _ hp)
    rw [addP]
    split
    · refine ⟨by simp; omega, fun p hp => ?_⟩
      rcases List.mem_cons.mp hp with rfl | hp
      · simp; exact hl
      · have := h3 p hp; omega
    · refine ⟨?_, fun p hp => ?_⟩
      · have : ∀ m : List (Nat × List Nat), (addP m n x).length ≤ m.length + 1 := fun m => by
          induction m with
          | nil => simp [addP]
          | cons p m ih => rw [addP]; split <;> simp <;> omega
        have := this m
        rw [List.length_cons]
        omega
      · rcases List.mem_cons.mp hp with rfl | hp
        · dsimp only at hl ⊢; omega
        · exact (ih k (by omega) h3).2 p hp
/-- the places of the first k -/
structure Pl (xs : List Nat) (k : Nat) (m : List (Nat × List Nat)) : Prop where
  get : ∀ q, getP m q = (List.range k).filter fun i => decide (xs.getD i 0 = q)
  len : m.length ≤ k
  lens : ∀ p ∈ m, p.2.length ≤ k
  key : ∀ q, q ∈ m.map (·.1) ↔ ∃ i, i < k ∧ xs.getD i 0 = q
  nod : (m.map (·.1)).Nodup
theorem Pl.nil (xs : List Nat) : Pl xs 0 [] := ⟨fun _ => rfl, Nat.le_refl _, (fun _ h => nomatch h), fun q => ⟨(fun h => nomatch h), fun ⟨i, h, _⟩ => absurd h (Nat.not_lt_zero i)⟩, List.nodup_nil⟩
theorem Pl.add {xs : List Nat} {k : Nat} {m : List (Nat × List Nat)} (h : Pl xs k m) : Pl xs (k + 1) (addP m (xs.getD k 0) k) := by
  obtain ⟨h1, h2⟩ := add_len m (xs.getD k 0) k k h.len h.lens
  refine ⟨fun q => ?_, h1, h2, fun q => ?_, ?_⟩
  · rw [getP_add, h.get, List.range_succ, List.filter_append]
    by_cases e : q = xs.getD k 0
    · rw [if_pos e, List.filter_cons_of_pos (p := fun i => decide (xs.getD i 0 = q)) (by simp [e])]; rfl
    · rw [if_neg e, List.filter_cons_of_neg (by rw [decide_eq_false (fun z => e z.symm)]; exact Bool.false_ne_true)]; simp
  · rw [keys_add, h.key]
    constructor
    · rintro (rfl | ⟨i, hi, e⟩)
      · exact ⟨k, Nat.lt_succ_self k, rfl⟩
      · exact ⟨i, Nat.lt_succ_of_lt hi, e⟩
    · rintro ⟨i, hi, e⟩
      rcases Nat.lt_succ_iff_lt_or_eq.mp hi with hi | rfl
      · exact .inr ⟨i, hi, e⟩
      · exact .inl e.symm
  · cases hf : findP m (xs.getD k 0) with
    | none =>
      rw [addP_new _ _ _ hf, List.map_append, List.map_singleton]
      refine List.nodup_append.mpr ⟨h.nod, by simp, fun a ha b hb e => ?_⟩
      rw [List.mem_singleton.mp hb] at e
      have : (findP m (xs.getD k 0)).isSome = true := by rw [findP_some]; exact decide_eq_true (by have e' : a = xs.getD k 0 := e; rw [← e']; exact ha)
      rw [hf] at this
      cases this
    | some l =>
      rw [addP_old _ _ _ (by rw [hf]; rfl)]
      exact h.nod
theorem Pl.ok {xs : List Nat} {k : Nat} {m : List (Nat × List Nat)} (h : Pl xs k m) (hk : k ≤ 1000000) : okP m := ⟨by have := h.len; omega, fun p hp => by have := h.lens p hp; omega⟩
theorem xor_swap {a b c : Nat} : (a ^^^ b = c) ↔ b = a ^^^ c := by
  constructor
  · rintro rfl
    rw [← Nat.xor_assoc, Nat.xor_self, Nat.zero_xor]
  · rintro rfl
    rw [← Nat.xor_assoc, Nat.xor_self, Nat.zero_xor]
/-- the later places -/
theorem later_row {xs : List Nat} {m : List (Nat × List Nat)} {i far : Nat} (h : Pl xs xs.length m) (hi : i < xs.length) :
    ((getP m (xs.getD i 0 ^^^ far)).filter fun j => decide (i < j)).head? = ((prRow xs i).find? fun p => decide (p.1 = far)).map (·.2.2) := by
  rw [h.get, List.find?_map, Option.map_map, ← List.head?_filter]
  have e : List.range xs.length = List.range (i + 1) ++ List.range' (i + 1) (xs.length - (i + 1)) := by
    rw [List.range_eq_range', List.range_eq_range', show xs.length = (i + 1) + (xs.length - (i + 1)) by omega, ← List.range'_append_1]
    simp
  rw [List.filter_filter, e, List.filter_append, List.filter_eq_nil_iff.mpr (fun j hj => by rw [List.mem_range] at hj; simp; omega), List.nil_append]
  have e2 : ((List.range' (i + 1) (xs.length - (i + 1))).filter fun j => decide (i < j) && decide (xs.getD j 0 = xs.getD i 0 ^^^ far)) = (List.range' (i + 1) (xs.length - (i + 1))).filter ((fun p : Nat × Nat × Nat => decide (p.1 = far)) ∘ fun j => (xs.getD i 0 ^^^ xs.getD j 0, i, j)) := by
    apply List.filter_congr
    intro j hj
    rw [List.mem_range'_1] at hj
    rw [decide_eq_true (by omega : i < j), Bool.true_and]
    exact decide_eq_decide.mpr xor_swap.symm
  rw [e2]
  cases List.filter _ (List.range' (i + 1) (xs.length - (i + 1))) <;> rfl
theorem prs_find (xs : List Nat) (f : Nat × Nat × Nat → Bool) : (prs xs).find? f = (List.range xs.length).findSome? fun i => (prRow xs i).find? f := by
  unfold prs
  rw [List.find?_flatMap]
/-- the first of a kind is one of the kind -/
theorem prs_some {xs : List Nat} {far : Nat} {p : Nat × Nat × Nat} (h : (prs xs).find? (fun p => decide (p.1 = far)) = some p) : p ∈ prs xs ∧ p.1 = far := ⟨List.mem_of_find?_eq_some h, by simpa using List.find?_some h⟩
theorem prs_has {xs : List Nat} {p : Nat × Nat × Nat} (h : p ∈ prs xs) : ∃ r, (prs xs).find? (fun q => decide (q.1 = p.1)) = some r := by
  cases e : (prs xs).find? fun q => decide (q.1 = p.1) with
  | some r => exact ⟨r, rfl⟩
  | none =>
    have := List.find?_eq_none.mp e p h
    simp at this
theorem fs_at {α : Type} {g : Nat → Option α} {n i : Nat} {p : α} (hi : i < n) (hn : (List.range i).findSome? g = none) (hp : g i = some p) : (List.range n).findSome? g = some p := by
  have e : List.range n = List.range i ++ (i :: List.range' (i + 1) (n - (i + 1))) := by
    rw [List.range_eq_range', List.range_eq_range', show n = i + ((n - (i + 1)) + 1) by omega, ← List.range'_append_1]
    simp [List.range'_succ]
    omega
  rw [e, List.findSome?_append, hn, List.findSome?_cons, hp]
  rfl
theorem fs_succ {α : Type} {g : Nat → Option α} {i : Nat} (hn : (List.range i).findSome? g = none) (hp : g i = none) : (List.range (i + 1)).findSome? g = none := by
  rw [List.range_succ, List.findSome?_append, hn, List.findSome?_cons, hp]
  rfl
theorem row_at {xs : List Nat} {i far z : Nat} (h : ((prRow xs i).find? fun p => decide (p.1 = far)).map (·.2.2) = some z) : (prRow xs i).find? (fun p => decide (p.1 = far)) = some (far, i, z) := by
  cases e : (prRow xs i).find? fun p => decide (p.1 = far) with
  | none => rw [e] at h; cases h
  | some p =>
    rw [e] at h
    have h1 := List.mem_of_find?_eq_some e
    have h2 : p.1 = far := by simpa using List.find?_some e
    obtain ⟨j, _, rfl⟩ := List.mem_map.mp h1
    cases h
    rw [← h2]
/-! ### the greatest: bit by bit -/
structure Gr (A B : List Nat) (n f : Nat) : Prop where
  is : ∃ x ∈ A, ∃ y ∈ B, (x ^^^ y) / 2 ^ n = f
  le : ∀ x ∈ A, ∀ y ∈ B, (x ^^^ y) / 2 ^ n ≤ f
theorem shr_xor' (x y k : Nat) : (x ^^^ y) / 2 ^ k = (x / 2 ^ k) ^^^ (y / 2 ^ k) := by
  rw [← Nat.shiftRight_eq_div_pow, Nat.shiftRight_xor_distrib, Nat.shiftRight_eq_div_pow, Nat.shiftRight_eq_div_pow]
theorem pow_half (x n : Nat) : x / 2 ^ (n + 1) = x / 2 ^ n / 2 := by rw [Nat.pow_succ, Nat.div_div_eq_div_mul]
theorem Gr.start {A B : List Nat} {w : Nat} (ha : A ≠ []) (hb : B ≠ []) (h1 : ∀ x ∈ A, x < 2 ^ w) (h2 : ∀ x ∈ B, x < 2 ^ w) : Gr A B w 0 := by
  obtain ⟨x, hx⟩ := List.exists_mem_of_ne_nil A ha
  obtain ⟨y, hy⟩ := List.exists_mem_of_ne_nil B hb
  exact ⟨⟨x, hx, y, hy, Nat.div_eq_of_lt (Nat.xor_lt_two_pow (h1 x hx) (h2 y hy))⟩, fun x hx y hy => by rw [Nat.div_eq_of_lt (Nat.xor_lt_two_pow (h1 x hx) (h2 y hy))]; exact Nat.le_refl 0⟩
theorem Gr.yes {A B : List Nat} {n f : Nat} (h : Gr A B (n + 1) f) (hy : ∃ x ∈ A, ∃ y ∈ B, (x ^^^ y) / 2 ^ n = 2 * f + 1) : Gr A B n (2 * f + 1) :=
  ⟨hy, fun x hx y hy => by have := h.le x hx y hy; rw [pow_half] at this; omega⟩
theorem Gr.no {A B : List Nat} {n f : Nat} (h : Gr A B (n + 1) f) (hy : ¬ ∃ x ∈ A, ∃ y ∈ B, (x ^^^ y) / 2 ^ n = 2 * f + 1) : Gr A B n (2 * f) := by
  refine ⟨?_, fun x hx y hy' => ?_⟩
  · obtain ⟨x, hx, y, hy', e⟩ := h.is
    refine ⟨x, hx, y, hy', ?_⟩
    rw [pow_half] at e
    have : (x ^^^ y) / 2 ^ n ≠ 2 * f + 1 := fun z => hy ⟨x, hx, y, hy', z⟩
    omega
  · have h1 := h.le x hx y hy'
    have h2 : (x ^^^ y) / 2 ^ n ≠ 2 * f + 1 := fun z => hy ⟨x, hx, y, hy', z⟩
    rw [pow_half] at h1
    omega
/-- the greatest of one row with itself is that of a pair -/
theorem gr_pair {xs : List Nat} {M : Nat} (hl : 2 ≤ xs.length) (h : Gr xs xs 0 M) : ∃ p ∈ prs xs, p.1 = M ∧ ∀ r ∈ prs xs, r.1 ≤ M := by
  have hall : ∀ r ∈ prs xs, r.1 ≤ M := fun r hr => by
    obtain ⟨h1, h2, h3⟩ := prs_mem.mp hr
    have hi : xs.getD r.2.1 0 ∈ xs := by rw [List.getD_eq_getElem?_getD, List.getElem?_eq_getElem (by omega)]; exact List.getElem_mem _
    have hj : xs.getD r.2.2 0 ∈ xs := by rw [List.getD_eq_getElem?_getD, List.getElem?_eq_getElem h2]; exact List.getElem_mem _
    have := h.le _ hi _ hj
    rw [Nat.pow_zero, Nat.div_one] at this
    omega
  obtain ⟨x, hx, y, hy, e⟩ := h.is
  rw [Nat.pow_zero, Nat.div_one] at e
  obtain ⟨i, hi, rfl⟩ := List.getElem_of_mem hx
  obtain ⟨j, hj, rfl⟩ := List.getElem_of_mem hy
  have gd : ∀ k (hk : k < xs.length), xs.getD k 0 = xs[k] := fun k hk => by rw [List.getD_eq_getElem?_getD, List.getElem?_eq_getElem hk]; rfl
  rcases Nat.lt_trichotomy i j with hij | hij | hij
  · exact ⟨(M, i, j), prs_mem.mpr ⟨hij, hj, by rw [gd i hi, gd j hj]; exact e.symm⟩, rfl, hall⟩
  · subst hij
    rw [Nat.xor_self] at e
    subst e
    have hm : (xs.getD 0 0 ^^^ xs.getD 1 0, 0, 1) ∈ prs xs := prs_mem.mpr ⟨Nat.zero_lt_one, hl, rfl⟩
    exact ⟨_, hm, Nat.le_zero.mp (hall _ hm), hall⟩
  · exact ⟨(M, j, i), prs_mem.mpr ⟨hij, hi, by rw [gd i hi, gd j hj, Nat.xor_comm]; exact e.symm⟩, rfl, hall⟩
/-! ### the least: of those that stand beside one another in order -/
theorem three_xor {a b c : Nat} (h1 : a ≤ b) (h2 : b ≤ c) : a ^^^ b ≤ a ^^^ c ∨ b ^^^ c ≤ a ^^^ c := by
  by_cases e : a ^^^ c = 0
  · have : a = c := by
      have := congrArg (· ^^^ c) e
      simpa [Nat.xor_assoc] using this
    have : a = b := by omega
    left
    rw [← this, Nat.xor_self]
    exact Nat.zero_le _
  · have hk : (a ^^^ c) / 2 ^ (a ^^^ c).log2 = 1 := by
      have h3 := Nat.log2_self_le e
      have h4 : a ^^^ c < 2 ^ ((a ^^^ c).log2 + 1) := Nat.lt_log2_self
      rw [Nat.pow_succ] at h4
      have h5 : (a ^^^ c) / 2 ^ (a ^^^ c).log2 < 2 := (Nat.div_lt_iff_lt_mul (Nat.two_pow_pos _)).mpr (by omega)
      have h6 : 1 ≤ (a ^^^ c) / 2 ^ (a ^^^ c).log2 := (Nat.le_div_iff_mul_le (Nat.two_pow_pos _)).mpr (by omega)
      omega
    generalize hkk : (a ^^^ c).log2 = k at hk
    have h3 := Nat.log2_self_le e
    rw [hkk] at h3
    rw [shr_xor'] at hk
    have m1 : a / 2 ^ k ≤ b / 2 ^ k := Nat.div_le_div_right h1
    have m2 : b / 2 ^ k ≤ c / 2 ^ k := Nat.div_le_div_right h2
    have hx : a / 2 ^ k = b / 2 ^ k ∨ b / 2 ^ k = c / 2 ^ k := by
      have e1 : c / 2 ^ k = (a / 2 ^ k) ^^^ 1 := xor_swap.mp hk
      have : (a / 2 ^ k) ^^^ 1 ≤ a / 2 ^ k + 1 := by
        have h7 : ((a / 2 ^ k) ^^^ 1) / 2 = a / 2 ^ k / 2 := by
          have := shr_xor' (a / 2 ^ k) 1 1
          simpa using this
        omega
      omega
    have small : ∀ {u v : Nat}, u / 2 ^ k = v / 2 ^ k → u ^^^ v ≤ a ^^^ c := fun {u v} huv => by
      have h8 : (u ^^^ v) / 2 ^ k = 0 := by rw [shr_xor', huv, Nat.xor_self]
      have h9 : u ^^^ v < 2 ^ k := (Nat.div_eq_zero_iff_lt (Nat.two_pow_pos k)).mp h8
      omega
    rcases hx with h | h
    · exact .inl (small h)
    · exact .inr (small h)
theorem beside_le {S : List Nat} (hs : S.Pairwise (· ≤ ·)) : ∀ (n i j : Nat), j = i + 1 + n → j < S.length → ∃ k, k + 1 < S.length ∧ S.getD k 0 ^^^ S.getD (k + 1) 0 ≤ S.getD i 0 ^^^ S.getD j 0
  | 0, i, j, e, hj => ⟨i, by omega, by rw [e]; exact Nat.le_refl _⟩
  | n + 1, i, j, e, hj => by
    have gd : ∀ k (hk : k < S.length), S.getD k 0 = S[k] := fun k hk => by rw [List.getD_eq_getElem?_getD, List.getElem?_eq_getElem hk]; rfl
    have le : ∀ a b (ha : a < b) (hb : b < S.length), S.getD a 0 ≤ S.getD b 0 := fun a b ha hb => by
      rw [gd a (by omega), gd b hb]
      exact (List.pairwise_iff_getElem.mp hs) a b (by omega) hb ha
    rcases three_xor (le i (i + 1) (by omega) (by omega)) (le (i + 1) j (by omega) hj) with h | h
    · exact ⟨i, by omega, h⟩
    · obtain ⟨k, h1, h2⟩ := beside_le hs n (i + 1) j (by omega) hj
      exact ⟨k, h1, Nat.le_trans h2 h⟩
/-- two of a row -/
def Two (l : List Nat) (v : Nat) : Prop := ∃ a b t, l.Perm (a :: b :: t) ∧ a ^^^ b = v
theorem Two.perm {l m : List Nat} {v : Nat} (h : Two l v) (p : l.Perm m) : Two m v := by
  obtain ⟨a, b, t, h1, h2⟩ := h
  exact ⟨a, b, t, p.symm.trans h1, h2⟩
theorem Two.of {l : List Nat} {i j : Nat} (hij : i < j) (hj : j < l.length) : Two l (l.getD i 0 ^^^ l.getD j 0) := by
  have gd : ∀ k (hk : k < l.length), l.getD k 0 = l[k] := fun k hk => by rw [List.getD_eq_getElem?_getD, List.getElem?_eq_getElem hk]; rfl
  refine ⟨l.getD i 0, l.getD j 0, (l.take i ++ (l.drop (i + 1)).take (j - (i + 1))) ++ l.drop (j + 1), ?_, rfl⟩
  have e1 : l = l.take i ++ l[i] :: l.drop (i + 1) := by
    rw [← List.drop_eq_getElem_cons (by omega), List.take_append_drop]
  have e2 : l.drop (i + 1) = (l.drop (i + 1)).take (j - (i + 1)) ++ l[j] :: l.drop (j + 1) := by
    have h1 := (List.take_append_drop (j - (i + 1)) (l.drop (i + 1))).symm
    rw [List.drop_drop, show i + 1 + (j - (i + 1)) = j by omega, List.drop_eq_getElem_cons hj] at h1
    exact h1
  rw [gd i (by omega), gd j hj]
  have p1 : l.Perm (l[i] :: (l.take i ++ l.drop (i + 1))) := by
    conv => lhs; rw [e1]
    exact List.perm_middle
  refine p1.trans (List.Perm.cons _ ?_)
  conv => lhs; rw [e2, ← List.append_assoc]
  exact List.perm_middle
theorem Two.at {l : List Nat} {v : Nat} (h : Two l v) : ∃ i j, i < j ∧ j < l.length ∧ l.getD i 0 ^^^ l.getD j 0 = v := by
  obtain ⟨a, b, t, p, e⟩ := h
  have ha : a ∈ l := p.mem_iff.mpr List.mem_cons_self
  obtain ⟨l1, l2, rfl⟩ := List.append_of_mem ha
  have p2 : (l1 ++ l2).Perm (b :: t) := (List.perm_middle.symm.trans p).cons_inv
  have hb : b ∈ l1 ++ l2 := p2.mem_iff.mpr List.mem_cons_self
  have ga : (l1 ++ a :: l2).getD l1.length 0 = a := by simp
  rcases List.mem_append.mp hb with hb | hb
  · obtain ⟨m1, m2, rfl⟩ := List.append_of_mem hb
    refine ⟨m1.length, (m1 ++ b :: m2).length, by simp, by simp, ?_⟩
    rw [ga, show ((m1 ++ b :: m2) ++ a :: l2).getD m1.length 0 = b by simp, Nat.xor_comm]
    exact e
  · obtain ⟨m1, m2, rfl⟩ := List.append_of_mem hb
    refine ⟨l1.length, l1.length + 1 + m1.length, by omega, by simp; omega, ?_⟩
    rw [ga, show (l1 ++ a :: (m1 ++ b :: m2)).getD (l1.length + 1 + m1.length) 0 = b by
      rw [List.getD_eq_getElem?_getD, List.getElem?_append_right (by omega)]
      rw [show l1.length + 1 + m1.length - l1.length = m1.length + 1 by omega, List.getElem?_cons_succ, List.getElem?_append_right (Nat.le_refl _)]
      simp]
    exact e
theorem two_prs {xs : List Nat} {v : Nat} : Two xs v ↔ ∃ p ∈ prs xs, p.1 = v := by
  constructor
  · intro h
    obtain ⟨i, j, h1, h2, h3⟩ := h.at
    exact ⟨(v, i, j), prs_mem.mpr ⟨h1, h2, h3.symm⟩, rfl⟩
  · rintro ⟨p, hp, rfl⟩
    obtain ⟨h1, h2, h3⟩ := prs_mem.mp hp
    rw [h3]
    exact Two.of h1 h2
/-- the least of those beside one another is the least -/
theorem least_pair {xs S : List Nat} {M : Nat} (p : S.Perm xs) (hs : S.Pairwise (· ≤ ·)) (h1 : ∃ k, k + 1 < S.length ∧ S.getD k 0 ^^^ S.getD (k + 1) 0 = M) (h2 : ∀ k, k + 1 < S.length → M ≤ S.getD k 0 ^^^ S.getD (k + 1) 0) : ∃ q ∈ prs xs, q.1 = M ∧ ∀ r ∈ prs xs, M ≤ r.1 := by
  obtain ⟨k, hk, e⟩ := h1
  have t : Two xs M := by rw [← e]; exact (Two.of (by omega) hk).perm p
  obtain ⟨q, hq, e2⟩ := two_prs.mp t
  refine ⟨q, hq, e2, fun r hr => ?_⟩
  obtain ⟨i, j, h3, h4, h5⟩ := ((two_prs.mpr ⟨r, hr, rfl⟩).perm p.symm).at
  obtain ⟨k2, h6, h7⟩ := beside_le hs (j - (i + 1)) i j (by omega) h4
  have := h2 k2 h6
  omega
theorem zip_beside {S : List Nat} {v : Nat} : v ∈ ((S.zip (S.drop 1)).map fun p => p.1 ^^^ p.2) ↔ ∃ k, k + 1 < S.length ∧ S.getD k 0 ^^^ S.getD (k + 1) 0 = v := by
  rw [List.mem_map]
  constructor
  · rintro ⟨p, hp, rfl⟩
    obtain ⟨k, hk⟩ := List.mem_iff_getElem?.mp hp
    obtain ⟨h1, h2⟩ := List.getElem?_zip_eq_some.mp hk
    rw [List.getElem?_drop, Nat.add_comm] at h2
    have hl := (List.getElem?_eq_some_iff.mp h2).1
    exact ⟨k, hl, by rw [List.getD_eq_getElem?_getD, List.getD_eq_getElem?_getD, h1, h2]; rfl⟩
  · rintro ⟨k, hk, rfl⟩
    refine ⟨(S.getD k 0, S.getD (k + 1) 0), List.mem_iff_getElem?.mpr ⟨k, List.getElem?_zip_eq_some.mpr ⟨?_, ?_⟩⟩, rfl⟩
    · simp [List.getElem?_eq_getElem (show k < S.length by omega)]
    · rw [List.getElem?_drop, Nat.add_comm]
      simp [List.getElem?_eq_getElem hk]
theorem beside_ne {S : List Nat} (h : 2 ≤ S.length) : ((S.zip (S.drop 1)).map fun p => p.1 ^^^ p.2) ≠ [] := fun e => by
  have : S.getD 0 0 ^^^ S.getD 1 0 ∈ ((S.zip (S.drop 1)).map fun p => p.1 ^^^ p.2) := zip_beside.mpr ⟨0, by omega, rfl⟩
  rw [e] at this
  cases this
/-! ### two rows -/
abbrev crRow (A B : List Nat) (i : Nat) : List (Nat × Nat × Nat) := (List.range B.length).map fun j => (A.getD i 0 ^^^ B.getD j 0, i, j)
def cross (A B : List Nat) : List (Nat × Nat × Nat) := (List.range A.length).flatMap (crRow A B)
theorem cross_mem {A B : List Nat} {p : Nat × Nat × Nat} : p ∈ cross A B ↔ p.2.1 < A.length ∧ p.2.2 < B.length ∧ p.1 = A.getD p.2.1 0 ^^^ B.getD p.2.2 0 := by
  unfold cross
  rw [List.mem_flatMap]
  constructor
  · rintro ⟨i, hi, hp⟩
    obtain ⟨j, hj, rfl⟩ := List.mem_map.mp hp
    exact ⟨List.mem_range.mp hi, List.mem_range.mp hj, rfl⟩
  · rintro ⟨h1, h2, h3⟩
    obtain ⟨v, i, j⟩ := p
    dsimp only at h1 h2 h3
    exact ⟨i, List.mem_range.mpr h1, List.mem_map.mpr ⟨j, List.mem_range.mpr h2, by rw [h3]⟩⟩
theorem gd_mem {A : List Nat} {i : Nat} (h : i < A.length) : A.getD i 0 ∈ A := by
  rw [List.getD_eq_getElem?_getD, List.getElem?_eq_getElem h]
  exact List.getElem_mem _
theorem cross_le {A B : List Nat} {M : Nat} (h : Gr A B 0 M) : ∀ r ∈ cross A B, r.1 ≤ M := fun r hr => by
  obtain ⟨h1, h2, h3⟩ := cross_mem.mp hr
  have := h.le _ (gd_mem h1) _ (gd_mem h2)
  rw [Nat.pow_zero, Nat.div_one] at this
  omega
/-- the first place of the one row, then the first of the other -/
theorem cross_first {A B : List Nat} {M z t : Nat} {l u : List Nat} {m : List (Nat × List Nat)} (hm : Pl B B.length m) (h1 : ((List.range A.length).filter fun i => decide (A.getD i 0 ^^^ M ∈ m.map (·.1))) = z :: l) (h2 : getP m (A.getD z 0 ^^^ M) = t :: u) : (cross A B).find? (fun r => decide (r.1 = M)) = some (M, z, t) := by
  have hz : z ∈ (List.range A.length).filter fun i => decide (A.getD i 0 ^^^ M ∈ m.map (·.1)) := by rw [h1]; exact List.mem_cons_self
  obtain ⟨hz1, hz2⟩ := List.mem_filter.mp hz
  have hza := List.mem_range.mp hz1
  have row : ∀ i, (crRow A B i).find? (fun r => decide (r.1 = M)) = ((getP m (A.getD i 0 ^^^ M)).head?).map fun j => (M, i, j) := fun i => by
    rw [hm.get, List.head?_filter, List.find?_map]
    have e : ((fun r : Nat × Nat × Nat => decide (r.1 = M)) ∘ fun j => (A.getD i 0 ^^^ B.getD j 0, i, j)) = fun j => decide (B.getD j 0 = A.getD i 0 ^^^ M) := by
      funext j
      exact decide_eq_decide.mpr xor_swap
    rw [e]
    cases hf : (List.range B.length).find? fun j => decide (B.getD j 0 = A.getD i 0 ^^^ M) with
    | none => rfl
    | some j =>
      have := List.find?_some hf
      have h3 : B.getD j 0 = A.getD i 0 ^^^ M := by simpa using this
      simp only [Option.map_some]
      rw [xor_swap.mpr h3]
  unfold cross
  rw [List.find?_flatMap]
  refine fs_at (i := z) hza ?_ (by rw [row, h2]; rfl)
  rw [List.findSome?_eq_none_iff]
  intro i hi
  rw [row]
  have hiz := List.mem_range.mp hi
  have hno : ¬ A.getD i 0 ^^^ M ∈ m.map (·.1) := fun hin => by
    have hup := List.pairwise_lt_range (n := A.length)
    have hmem : i ∈ z :: l := by
      rw [← h1]
      exact List.mem_filter.mpr ⟨List.mem_range.mpr (by omega), decide_eq_true hin⟩
    have hup2 : (z :: l).Pairwise (· < ·) := by rw [← h1]; exact hup.filter _
    rcases List.mem_cons.mp hmem with e | e
    · omega
    · have := (List.pairwise_cons.mp hup2).1 i e
      omega
  have : getP m (A.getD i 0 ^^^ M) = [] := by
    rw [hm.get, List.filter_eq_nil_iff]
    intro j hj
    rw [List.mem_range] at hj
    simp only [decide_eq_true_eq]
    exact fun e => hno ((hm.key _).mpr ⟨j, hj, e⟩)
  rw [this]
  rfl
theorem cross_has {A B : List Nat} {M : Nat} {m : List (Nat × List Nat)} (h : Gr A B 0 M) (hm : Pl B B.length m) : ∃ z l, ((List.range A.length).filter fun i => decide (A.getD i 0 ^^^ M ∈ m.map (·.1))) = z :: l ∧ z < A.length ∧ (A.getD z 0 ^^^ M ∈ m.map (·.1)) ∧ ∃ t u, getP m (A.getD z 0 ^^^ M) = t :: u := by
  obtain ⟨x, hx, y, hy, e⟩ := h.is
  rw [Nat.pow_zero, Nat.div_one] at e
  obtain ⟨i, hi, rfl⟩ := List.getElem_of_mem hx
  obtain ⟨j, hj, rfl⟩ := List.getElem_of_mem hy
  have gd : ∀ (l : List Nat) k (hk : k < l.length), l.getD k 0 = l[k] := fun l k hk => by rw [List.getD_eq_getElem?_getD, List.getElem?_eq_getElem hk]; rfl
  have hin : i ∈ (List.range A.length).filter fun i => decide (A.getD i 0 ^^^ M ∈ m.map (·.1)) := by
    refine List.mem_filter.mpr ⟨List.mem_range.mpr hi, decide_eq_true ((hm.key _).mpr ⟨j, hj, ?_⟩)⟩
    rw [gd A i hi, gd B j hj]
    exact xor_swap.mp e
  cases hf : (List.range A.length).filter fun i => decide (A.getD i 0 ^^^ M ∈ m.map (·.1)) with
  | nil => rw [hf] at hin; cases hin
  | cons z l =>
    have hz : z ∈ (List.range A.length).filter fun i => decide (A.getD i 0 ^^^ M ∈ m.map (·.1)) := by rw [hf]; exact List.mem_cons_self
    obtain ⟨hz1, hz2⟩ := List.mem_filter.mp hz
    have hz3 := of_decide_eq_true hz2
    refine ⟨z, l, rfl, List.mem_range.mp hz1, hz3, ?_⟩
    obtain ⟨j2, hj2, e2⟩ := (hm.key _).mp hz3
    cases hg : getP m (A.getD z 0 ^^^ M) with
    | nil =>
      rw [hm.get, List.filter_eq_nil_iff] at hg
      have := hg j2 (List.mem_range.mpr hj2)
      simp only [decide_eq_true_eq] at this
      exact absurd e2 this
    | cons t u => exact ⟨t, u, rfl⟩
end U.P

/-! plain law: the most and the least unlike by bits -/
namespace U.P
theorem nat_bit (x a n : Nat) : (x ^^^ a) / 2 ^ n % 2 = (x / 2 ^ n % 2 + a / 2 ^ n % 2) % 2 := by
  have h1 := Nat.testBit_xor x a n
  simp only [Nat.testBit_eq_decide_div_mod_eq] at h1
  have e1 : x / 2 ^ n % 2 < 2 := Nat.mod_lt _ (by decide)
  have e2 : a / 2 ^ n % 2 < 2 := Nat.mod_lt _ (by decide)
  have e3 : (x ^^^ a) / 2 ^ n % 2 < 2 := Nat.mod_lt _ (by decide)
  generalize x / 2 ^ n % 2 = p at *
  generalize a / 2 ^ n % 2 = q at *
  generalize (x ^^^ a) / 2 ^ n % 2 = r at *
  have hp : p = 0 ∨ p = 1 := by omega
  have hq : q = 0 ∨ q = 1 := by omega
  have hr : r = 0 ∨ r = 1 := by omega
  rcases hp with rfl | rfl <;> rcases hq with rfl | rfl <;> rcases hr with rfl | rfl <;> simp_all
theorem half_pow (k : Nat) (n : Nat) : k / 2 ^ (n + 1) = k / 2 ^ n / 2 := by
  rw [Nat.div_div_eq_div_mul, Nat.pow_succ]
/-- the first of the most unlike: by key, top bit first -/
def top (key : α → Nat) (ps cur : List α) (n M : Nat) : Prop := cur = ps.filter (fun p => decide (key p / 2 ^ n = M)) ∧ cur ≠ [] ∧ ∀ p ∈ ps, key p / 2 ^ n ≤ M
def low (key : α → Nat) (ps cur : List α) (n M : Nat) : Prop := cur = ps.filter (fun p => decide (key p / 2 ^ n = M)) ∧ cur ≠ [] ∧ ∀ p ∈ ps, M ≤ key p / 2 ^ n
theorem filter_step (key : α → Nat) (ps : List α) (n M b : Nat) (hb : b < 2) : (ps.filter fun p => decide (key p / 2 ^ (n + 1) = M)).filter (fun p => decide (key p / 2 ^ n % 2 = b)) = ps.filter fun p => decide (key p / 2 ^ n = 2 * M + b) := by
  rw [List.filter_filter]
  apply List.filter_congr
  intro p _
  have := half_pow (key p) n
  generalize key p / 2 ^ n = x at *
  rw [this]
  by_cases h1 : x % 2 = b <;> by_cases h2 : x / 2 = M <;> simp [h1, h2] <;> omega
theorem top_step {key : α → Nat} {ps cur : List α} {n M : Nat} (h : top key ps cur (n + 1) M) :
    top key ps (if (cur.filter fun p => decide (key p / 2 ^ n % 2 = 1)) ≠ [] then cur.filter fun p => decide (key p / 2 ^ n % 2 = 1) else cur.filter fun p => decide (key p / 2 ^ n % 2 = 0)) n (if (cur.filter fun p => decide (key p / 2 ^ n % 2 = 1)) ≠ [] then 2 * M + 1 else 2 * M) := by
  obtain ⟨rfl, hne, hle⟩ := h
  split
  · rename_i hc
    refine ⟨filter_step key ps n M 1 (by decide), hc, fun p hp => ?_⟩
    have := hle p hp
    rw [half_pow] at this
    omega
  · rename_i hc
    have hall : ∀ p ∈ ps, key p / 2 ^ (n + 1) = M → key p / 2 ^ n % 2 = 0 := by
      intro p hp he
      have h1 : ¬ key p / 2 ^ n % 2 = 1 := by
        intro h1
        apply hc
        intro h0
        have : p ∈ ([] : List α) := by
          rw [← h0]
          simp [hp, he, h1]
        cases this
      omega
    refine ⟨filter_step key ps n M 0 (by decide), ?_, fun p hp => ?_⟩
    · intro h0
      apply hne
      rw [List.filter_eq_nil_iff] at h0 ⊢
      intro p hp hh
      have hh' := of_decide_eq_true hh
      exact h0 p (List.mem_filter.mpr ⟨hp, hh⟩) (decide_eq_true (hall p hp hh'))
    · have := hle p hp
      by_cases he : key p / 2 ^ (n + 1) = M
      · have := hall p hp he
        rw [half_pow] at he
        omega
      · rw [half_pow] at he this
        omega
theorem low_step {key : α → Nat} {ps cur : List α} {n M : Nat} (h : low key ps cur (n + 1) M) :
    low key ps (if (cur.filter fun p => decide (key p / 2 ^ n % 2 = 0)) ≠ [] then cur.filter fun p => decide (key p / 2 ^ n % 2 = 0) else cur.filter fun p => decide (key p / 2 ^ n % 2 = 1)) n (if (cur.filter fun p => decide (key p / 2 ^ n % 2 = 0)) ≠ [] then 2 * M else 2 * M + 1) := by
  obtain ⟨rfl, hne, hle⟩ := h
  split
  · rename_i hc
    refine ⟨filter_step key ps n M 0 (by decide), hc, fun p hp => ?_⟩
    have := hle p hp
    rw [half_pow] at this
    omega
  · rename_i hc
    have hall : ∀ p ∈ ps, key p / 2 ^ (n + 1) = M → key p / 2 ^ n % 2 = 1 := by
      intro p hp he
      have h1 : ¬ key p / 2 ^ n % 2 = 0 := by
        intro h1
        apply hc
        intro h0
        have : p ∈ ([] : List α) := by
          rw [← h0]
          simp [hp, he, h1]
        cases this
      omega
    refine ⟨filter_step key ps n M 1 (by decide), ?_, fun p hp => ?_⟩
    · intro h0
      apply hne
      rw [List.filter_eq_nil_iff] at h0 ⊢
      intro p hp hh
      have hh' := of_decide_eq_true hh
      exact h0 p (List.mem_filter.mpr ⟨hp, hh⟩) (decide_eq_true (hall p hp hh'))
    · have := hle p hp
      by_cases he : key p / 2 ^ (n + 1) = M
      · have := hall p hp he
        rw [half_pow] at he
        omega
      · rw [half_pow] at he this
        omega
end U.P

namespace U.P
/-- gone down bit by bit: s = 1 to the most, 0 to the least -/
def stepD (s : Nat) (key : α → Nat) (n : Nat) (cur : List α) : List α :=
  if (cur.filter fun p => decide (key p / 2 ^ n % 2 = s)) ≠ [] then cur.filter fun p => decide (key p / 2 ^ n % 2 = s) else cur.filter fun p => decide (key p / 2 ^ n % 2 = 1 - s)
def downD (s : Nat) (key : α → Nat) : Nat → List α → List α
  | 0, cur => cur
  | n + 1, cur => downD s key n (stepD s key n cur)
theorem down_top {key : α → Nat} {ps : List α} : ∀ (n M : Nat) (cur : List α), top key ps cur n M → ∃ M', top key ps (downD 1 key n cur) 0 M'
  | 0, M, cur, h => ⟨M, h⟩
  | n + 1, M, cur, h => down_top n _ _ (top_step h)
theorem down_low {key : α → Nat} {ps : List α} : ∀ (n M : Nat) (cur : List α), low key ps cur n M → ∃ M', low key ps (downD 0 key n cur) 0 M'
  | 0, M, cur, h => ⟨M, h⟩
  | n + 1, M, cur, h => down_low n _ _ (low_step h)
theorem top_start {key : α → Nat} {ps : List α} {n : Nat} (h : ∀ p ∈ ps, key p < 2 ^ n) (hne : ps ≠ []) : top key ps ps n 0 := by
  refine ⟨?_, hne, fun p hp => ?_⟩
  · rw [List.filter_eq_self.mpr]
    intro p hp
    rw [Nat.div_eq_of_lt (h p hp)]
    rfl
  · rw [Nat.div_eq_of_lt (h p hp)]
    exact Nat.le_refl 0
theorem low_start {key : α → Nat} {ps : List α} {n : Nat} (h : ∀ p ∈ ps, key p < 2 ^ n) (hne : ps ≠ []) : low key ps ps n 0 := by
  refine ⟨?_, hne, fun p hp => Nat.zero_le _⟩
  rw [List.filter_eq_self.mpr]
  intro p hp
  rw [Nat.div_eq_of_lt (h p hp)]
  rfl
/-- the first of all with the greatest (least) key -/
theorem down_most {key : α → Nat} {ps : List α} {n : Nat} (h : ∀ p ∈ ps, key p < 2 ^ n) (hne : ps ≠ []) : ∃ M, downD 1 key n ps = ps.filter (fun p => decide (key p = M)) ∧ downD 1 key n ps ≠ [] ∧ ∀ p ∈ ps, key p ≤ M := by
  obtain ⟨M, h1, h2, h3⟩ := down_top n 0 ps (top_start h hne)
  simp only [Nat.pow_zero, Nat.div_one] at h1 h3
  exact ⟨M, h1, h2, h3⟩
theorem down_least {key : α → Nat} {ps : List α} {n : Nat} (h : ∀ p ∈ ps, key p < 2 ^ n) (hne : ps ≠ []) : ∃ M, downD 0 key n ps = ps.filter (fun p => decide (key p = M)) ∧ downD 0 key n ps ≠ [] ∧ ∀ p ∈ ps, M ≤ key p := by
  obtain ⟨M, h1, h2, h3⟩ := down_low n 0 ps (low_start h hne)
  simp only [Nat.pow_zero, Nat.div_one] at h1 h3
  exact ⟨M, h1, h2, h3⟩
theorem stepD_ne {s : Nat} (hs : s < 2) {key : α → Nat} {n : Nat} {cur : List α} (h : cur ≠ []) : stepD s key n cur ≠ [] := by
  unfold stepD
  split
  · assumption
  · rename_i hc
    intro h0
    apply h
    rw [ne_eq, Decidable.not_not, List.filter_eq_nil_iff] at hc
    rw [List.filter_eq_nil_iff] at h0
    cases cur with
    | nil => rfl
    | cons p r =>
      have h1 := hc p List.mem_cons_self
      have h2 := h0 p List.mem_cons_self
      simp only [decide_eq_true_eq] at h1 h2
      omega
theorem stepD_sub {s : Nat} {key : α → Nat} {n : Nat} {cur : List α} : ∀ p ∈ stepD s key n cur, p ∈ cur := by
  intro p hp
  unfold stepD at hp
  split at hp
  · exact (List.mem_filter.mp hp).1
  · exact (List.mem_filter.mp hp).1
theorem stepD_len {s : Nat} {key : α → Nat} {n : Nat} {cur : List α} : (stepD s key n cur).length ≤ cur.length := by
  unfold stepD
  split
  · exact List.length_filter_le _ _
  · exact List.length_filter_le _ _
theorem stepD_pos {s : Nat} {key : α → Nat} {n : Nat} {cur : List α} (h : 0 < (cur.filter fun p => decide (key p / 2 ^ n % 2 = s)).length) : stepD s key n cur = cur.filter fun p => decide (key p / 2 ^ n % 2 = s) := if_pos (List.length_pos_iff.mp h)
theorem stepD_neg {s t : Nat} {key : α → Nat} {n : Nat} {cur : List α} (ht : 1 - s = t) (h : ¬ 0 < (cur.filter fun p => decide (key p / 2 ^ n % 2 = s)).length) : stepD s key n cur = cur.filter fun p => decide (key p / 2 ^ n % 2 = t) := by
  subst ht
  exact if_neg fun h' => h (List.length_pos_iff.mpr h')
end U.P

/-! plain: the first of the greatest, the first of the least -/
namespace U.P
def fm (key : α → Nat) : List α → Option α → Option α
  | [], b => b
  | x :: xs, none => fm key xs (some x)
  | x :: xs, some b => fm key xs (if key b < key x then some x else some b)
def fn (key : α → Nat) : List α → Option α → Option α
  | [], b => b
  | x :: xs, none => fn key xs (some x)
  | x :: xs, some b => fn key xs (if key x < key b then some x else some b)
theorem fm_top {key : α → Nat} {M : Nat} : ∀ {xs : List α} {b : α}, (∀ x ∈ xs, key x ≤ M) → key b = M → fm key xs (some b) = some b
  | [], b, h, hb => rfl
  | x :: xs, b, h, hb => by
    have := h x List.mem_cons_self
    rw [fm, if_neg (by omega)]
    exact fm_top (fun y hy => h y (List.mem_cons_of_mem _ hy)) hb
theorem fm_of {key : α → Nat} {M : Nat} {p : α} {r : List α} : ∀ {xs : List α} {b : Option α}, (∀ x ∈ xs, key x ≤ M) → (∀ c, b = some c → key c < M) → (xs.filter fun x => decide (key x = M)) = p :: r → fm key xs b = some p
  | [], b, h, hb, e => by cases e
  | x :: xs, b, h, hb, e => by
    have hx := h x List.mem_cons_self
    have h' : ∀ y ∈ xs, key y ≤ M := fun y hy => h y (List.mem_cons_of_mem _ hy)
    by_cases q : key x = M
    · rw [List.filter_cons_of_pos (by simpa using q)] at e
      cases e
      cases b with
      | none => rw [fm]; exact fm_top h' q
      | some c =>
        have := hb c rfl
        rw [fm, if_pos (by omega)]
        exact fm_top h' q
    · rw [List.filter_cons_of_neg (by simpa using q)] at e
      cases b with
      | none =>
        rw [fm]
        exact fm_of h' (fun c hc => by cases hc; omega) e
      | some c =>
        have := hb c rfl
        rw [fm]
        refine fm_of h' (fun d hd => ?_) e
        split at hd
        · cases hd; omega
        · cases hd; exact this
theorem fn_top {key : α → Nat} {M : Nat} : ∀ {xs : List α} {b : α}, (∀ x ∈ xs, M ≤ key x) → key b = M → fn key xs (some b) = some b
  | [], b, h, hb => rfl
  | x :: xs, b, h, hb => by
    have := h x List.mem_cons_self
    rw [fn, if_neg (by omega)]
    exact fn_top (fun y hy => h y (List.mem_cons_of_mem _ hy)) hb
theorem fn_of {key : α → Nat} {M : Nat} {p : α} {r : List α} : ∀ {xs : List α} {b : Option α}, (∀ x ∈ xs, M ≤ key x) → (∀ c, b = some c → M < key c) → (xs.filter fun x => decide (key x = M)) = p :: r → fn key xs b = some p
  | [], b, h, hb, e => by cases e
  | x :: xs, b, h, hb, e => by
    have hx := h x List.mem_cons_self
    have h' : ∀ y ∈ xs, M ≤ key y := fun y hy => h y (List.mem_cons_of_mem _ hy)
    by_cases q : key x = M
    · rw [List.filter_cons_of_pos (by simpa using q)] at e
      cases e
      cases b with
      | none => rw [fn]; exact fn_top h' q
      | some c =>
        have := hb c rfl
        rw [fn, if_pos (by omega)]
        exact fn_top h' q
    · rw [List.filter_cons_of_neg (by simpa using q)] at e
      cases b with
      | none =>
        rw [fn]
        exact fn_of h' (fun c hc => by cases hc; omega) e
      | some c =>
        have := hb c rfl
        rw [fn]
        refine fn_of h' (fun d hd => ?_) e
        split at hd
        · cases hd; omega
        · cases hd; exact this
theorem down_fm {key : α → Nat} {ps : List α} {n : Nat} {p : α} {r : List α} (h : ∀ p ∈ ps, key p < 2 ^ n) (hne : ps ≠ []) (e : downD 1 key n ps = p :: r) : fm key ps none = some p := by
  obtain ⟨M, h1, h2, h3⟩ := down_most h hne
  rw [h1] at e
  exact fm_of h3 (fun _ hc => nomatch hc) e
theorem down_fn {key : α → Nat} {ps : List α} {n : Nat} {p : α} {r : List α} (h : ∀ p ∈ ps, key p < 2 ^ n) (hne : ps ≠ []) (e : downD 0 key n ps = p :: r) : fn key ps none = some p := by
  obtain ⟨M, h1, h2, h3⟩ := down_least h hne
  rw [h1] at e
  exact fn_of h3 (fun _ hc => nomatch hc) e
end U.P

/-! plain: the first of the greatest of some triples -/
namespace U.P
theorem fm_app {α : Type} (key : α → Nat) : ∀ (l m : List α) (b : Option α), fm key (l ++ m) b = fm key m (fm key l b)
  | [], m, b => rfl
  | x :: l, m, none => by rw [List.cons_append, fm, fm, fm_app key l m]
  | x :: l, m, some b => by rw [List.cons_append, fm, fm, fm_app key l m]
abbrev ky1 (p : Nat × Nat × Nat) : Nat := p.1
abbrev o3D (o : Option (Nat × Nat × Nat)) : D := oD (t3D nD nD nD) o
theorem flat_congr {α β : Type} {f g : α → List β} : ∀ {l : List α}, (∀ x ∈ l, f x = g x) → l.flatMap f = l.flatMap g
  | [], _ => rfl
  | x :: l, h => by rw [List.flatMap_cons, List.flatMap_cons, h x List.mem_cons_self, flat_congr fun y hy => h y (List.mem_cons_of_mem _ hy)]
theorem ex_max {α : Type} (key : α → Nat) : ∀ {l : List α}, l ≠ [] → ∃ p ∈ l, ∀ r ∈ l, key r ≤ key p
  | [], h => absurd rfl h
  | [x], _ => ⟨x, List.mem_cons_self, fun r hr => by rw [List.mem_singleton.mp hr]; exact Nat.le_refl _⟩
  | x :: y :: l, _ => by
    obtain ⟨p, hp, h⟩ := ex_max key (l := y :: l) (fun e => nomatch e)
    by_cases hx : key p ≤ key x
    · refine ⟨x, List.mem_cons_self, fun r hr => ?_⟩
      rcases List.mem_cons.mp hr with rfl | hr
      · exact Nat.le_refl _
      · exact Nat.le_trans (h r hr) hx
    · refine ⟨p, List.mem_cons_of_mem _ hp, fun r hr => ?_⟩
      rcases List.mem_cons.mp hr with rfl | hr
      · omega
      · exact h r hr
section
variable {l : List (Nat × Nat × Nat)}
theorem fi_some {far : Nat} {p : Nat × Nat × Nat} (h : l.find? (fun p => decide (p.1 = far)) = some p) : p ∈ l ∧ p.1 = far := ⟨List.mem_of_find?_eq_some h, by simpa using List.find?_some h⟩
theorem fi_has {p : Nat × Nat × Nat} (h : p ∈ l) : ∃ r, l.find? (fun q => decide (q.1 = p.1)) = some r := by
  cases e : l.find? fun q => decide (q.1 = p.1) with
  | some r => exact ⟨r, rfl⟩
  | none =>
    have := List.find?_eq_none.mp e p h
    simp at this
theorem fi_most (h : l ≠ []) : ∃ p, p ∈ l ∧ (∀ r ∈ l, r.1 ≤ p.1) ∧ l.find? (fun r => decide (r.1 = p.1)) = some p := by
  obtain ⟨p, hp, hm⟩ := ex_max ky1 h
  obtain ⟨r, hr⟩ := fi_has hp
  obtain ⟨h1, h2⟩ := fi_some hr
  exact ⟨r, h1, fun q hq => by rw [h2]; exact hm q hq, by rw [h2]; exact hr⟩
theorem fi_uniq {p q : Nat × Nat × Nat} (hp : p ∈ l) (hq : q ∈ l) (h1 : ∀ r ∈ l, r.1 ≤ p.1) (h2 : ∀ r ∈ l, r.1 ≤ q.1) (f1 : l.find? (fun r => decide (r.1 = p.1)) = some p) (f2 : l.find? (fun r => decide (r.1 = q.1)) = some q) : p = q := by
  have e : p.1 = q.1 := Nat.le_antisymm (h2 p hp) (h1 q hq)
  rw [e, f2] at f1
  exact (Option.some.inj f1).symm
theorem fi_fm {p : Nat × Nat × Nat} (h1 : ∀ r ∈ l, r.1 ≤ p.1) (h2 : l.find? (fun r => decide (r.1 = p.1)) = some p) : fm ky1 l none = some p := by
  rw [← List.head?_filter] at h2
  cases hf : l.filter fun r => decide (r.1 = p.1) with
  | nil => rw [hf] at h2; cases h2
  | cons q t =>
    rw [hf] at h2
    cases h2
    exact fm_of (key := ky1) (M := p.1) (xs := l) (b := none) h1 (fun c h => nomatch h) hf
end
end U.P

/-! plain: sums of stretches are pairs of beginnings -/
namespace U.P
def xall (l : List Nat) : Nat := l.foldl (fun a b => a ^^^ b) 0
theorem foldl_xor : ∀ (l : List Nat) (a : Nat), l.foldl (fun a b => a ^^^ b) a = a ^^^ xall l
  | [], a => by simp [xall]
  | x :: l, a => by
    have e : xall (x :: l) = l.foldl (fun a b => a ^^^ b) (0 ^^^ x) := rfl
    rw [List.foldl_cons, foldl_xor l, e, foldl_xor l, Nat.zero_xor, Nat.xor_assoc]
theorem xall_cons (x : Nat) (l : List Nat) : xall (x :: l) = x ^^^ xall l := by
  have e : xall (x :: l) = l.foldl (fun a b => a ^^^ b) (0 ^^^ x) := rfl
  rw [e, foldl_xor, Nat.zero_xor]
theorem xall_app (l m : List Nat) : xall (l ++ m) = xall l ^^^ xall m := by
  rw [xall, List.foldl_append, foldl_xor]
  rfl
theorem xall_one (x : Nat) : xall [x] = x := by rw [xall_cons]; simp [xall]
theorem xall_bd {w : Nat} : ∀ {l : List Nat}, (∀ x ∈ l, x < 2 ^ w) → xall l < 2 ^ w
  | [], _ => Nat.two_pow_pos w
  | x :: l, h => by rw [xall_cons]; exact Nat.xor_lt_two_pow (h x List.mem_cons_self) (xall_bd fun y hy => h y (List.mem_cons_of_mem _ hy))
theorem xall_par (k : Nat) : ∀ l : List Nat, (l.filter fun x => decide (x / 2 ^ k % 2 = 1)).length % 2 = xall l / 2 ^ k % 2
  | [] => by simp [xall]
  | x :: l => by
    have ih := xall_par k l
    rw [xall_cons, nat_bit]
    by_cases h : x / 2 ^ k % 2 = 1
    · rw [List.filter_cons_of_pos (by simpa using h), List.length_cons]
      omega
    · rw [List.filter_cons_of_neg (by simpa using h)]
      have := Nat.mod_two_eq_zero_or_one (x / 2 ^ k)
      omega
def begs (xs : List Nat) : List Nat := (List.range (xs.length + 1)).map fun k => xall (xs.take k)
theorem begs_len (xs : List Nat) : (begs xs).length = xs.length + 1 := by simp [begs]
theorem begs_get {xs : List Nat} {k : Nat} (h : k ≤ xs.length) : (begs xs).getD k 0 = xall (xs.take k) := by
  rw [begs, List.getD_eq_getElem?_getD, List.getElem?_map, List.getElem?_range (by omega)]
  rfl
theorem begs_bd {w : Nat} {xs : List Nat} (h : ∀ x ∈ xs, x < 2 ^ w) : ∀ x ∈ begs xs, x < 2 ^ w := fun x hx => by
  obtain ⟨k, _, rfl⟩ := List.mem_map.mp hx
  exact xall_bd fun y hy => h y (List.mem_of_mem_take hy)
theorem xall_cut {xs : List Nat} {i j : Nat} (h : i ≤ j) : xall ((xs.take j).drop i) = xall (xs.take i) ^^^ xall (xs.take j) := by
  have e : xs.take j = xs.take i ++ (xs.take j).drop i := by
    have := (List.take_append_drop i (xs.take j)).symm
    rwa [List.take_take, Nat.min_eq_left h] at this
  have e2 := congrArg xall e
  rw [xall_app] at e2
  rw [e2, ← Nat.xor_assoc, Nat.xor_self, Nat.zero_xor]
abbrev stRow (xs : List Nat) (b : Nat) : List (Nat × Nat × Nat) := (List.range' (b + 1) (xs.length + 1 - (b + 1))).map fun e => (xall ((xs.take e).drop b), b, e)
theorem st_prs (xs : List Nat) : (List.range xs.length).flatMap (stRow xs) = prs (begs xs) := by
  unfold prs
  rw [begs_len, List.range_succ, List.flatMap_append]
  have e0 : [xs.length].flatMap (prRow (begs xs)) = [] := by simp [prRow, begs_len]
  rw [e0, List.append_nil]
  refine flat_congr fun i hi => ?_
  rw [List.mem_range] at hi
  rw [prRow, begs_len]
  apply List.map_congr_left
  intro j hj
  rw [List.mem_range'_1] at hj
  rw [begs_get (by omega), begs_get (by omega), xall_cut (by omega)]
abbrev kk (p : Nat × Nat × Nat) : List Int := [(p.2.1 : Int), (p.2.2 : Int)]
theorem find_least {α : Type} {R : α → α → Prop} {f : α → Bool} {p : α} : ∀ {l : List α}, l.Pairwise R → l.find? f = some p → ∀ r ∈ l, f r = true → r = p ∨ R p r
  | [], _, h, _, _, _ => by cases h
  | x :: l, hp, h, r, hr, hf => by
    obtain ⟨h1, h2⟩ := List.pairwise_cons.mp hp
    rw [List.find?_cons] at h
    split at h
    · cases h
      rcases List.mem_cons.mp hr with e | hr
      · exact .inl e
      · exact .inr (h1 r hr)
    · rename_i hx
      rcases List.mem_cons.mp hr with e | hr
      · rw [e, hx] at hf; cases hf
      · exact find_least h2 h r hr hf
theorem prs_up (xs : List Nat) : (prs xs).Pairwise fun p q => kk p < kk q := by
  unfold prs
  rw [List.pairwise_flatMap]
  refine ⟨fun i _ => ?_, List.pairwise_lt_range.imp fun {i j} h => ?_⟩
  · rw [List.pairwise_map]
    refine (List.pairwise_lt_range' (s := i + 1) (step := 1)).imp fun {a b} h => ?_
    rw [lt_two]
    dsimp only
    omega
  · intro p hp q hq
    obtain ⟨a, _, rfl⟩ := List.mem_map.mp hp
    obtain ⟨b, _, rfl⟩ := List.mem_map.mp hq
    rw [lt_two]
    dsimp only
    omega
/-- the least triple is the first of the least -/
theorem min_first {xs : List Nat} {q : Nat × Nat × Nat} (hq : q ∈ prs xs) (h : ∀ y ∈ prs xs, ¬ [(y.1 : Int), (y.2.1 : Int), (y.2.2 : Int)] < [(q.1 : Int), (q.2.1 : Int), (q.2.2 : Int)]) : (∀ r ∈ prs xs, q.1 ≤ r.1) ∧ (prs xs).find? (fun r => decide (r.1 = q.1)) = some q := by
  have h1 : ∀ r ∈ prs xs, q.1 ≤ r.1 := fun r hr => by
    have := h r hr
    rw [lt_three] at this
    omega
  refine ⟨h1, ?_⟩
  obtain ⟨p, hp⟩ := prs_has hq
  obtain ⟨g1, g2⟩ := prs_some hp
  rcases find_least (prs_up xs) hp q hq (decide_eq_true rfl) with e | e
  · rw [← e] at hp; exact hp
  · exfalso
    apply h p g1
    rw [lt_two] at e
    rw [lt_three]
    omega
theorem fi_least {l : List (Nat × Nat × Nat)} {p q : Nat × Nat × Nat} (hp : p ∈ l) (hq : q ∈ l) (h1 : ∀ r ∈ l, p.1 ≤ r.1) (h2 : ∀ r ∈ l, q.1 ≤ r.1) (f1 : l.find? (fun r => decide (r.1 = p.1)) = some p) (f2 : l.find? (fun r => decide (r.1 = q.1)) = some q) : p = q := by
  have e : p.1 = q.1 := Nat.le_antisymm (h1 q hq) (h2 p hp)
  rw [e, f2] at f1
  exact (Option.some.inj f1).symm
end U.P

/-! plain: pairs counted -/
namespace U.P
/-- how far, of each pair -/
def fars : List Nat → List Nat
  | [] => []
  | y :: l => (l.map fun x => y ^^^ x) ++ fars l
theorem getD_cons (y : Nat) (l : List Nat) (i : Nat) : (y :: l).getD (i + 1) 0 = l.getD i 0 := by simp
theorem map_getD (f : Nat → Nat) : ∀ l : List Nat, ((List.range' 0 l.length).map fun j => f (l.getD j 0)) = l.map f
  | [] => rfl
  | y :: l => by
    rw [List.length_cons, List.range'_succ, List.map_cons, List.map_cons, ← map_getD f l]
    congr 1
    rw [show 0 + 1 = 1 + 0 from rfl, ← List.map_add_range' (a := 1), List.map_map]
    apply List.map_congr_left
    intro j _
    simp [Nat.add_comm 1 j]
theorem prs_fars : ∀ xs : List Nat, (prs xs).map (·.1) = fars xs
  | [] => rfl
  | y :: l => by
    rw [fars, ← prs_fars l]
    unfold prs
    rw [List.length_cons, List.range_succ_eq_map, List.flatMap_cons, List.map_append, List.flatMap_map, List.map_flatMap, List.map_flatMap]
    congr 1
    · rw [prRow, List.map_map, List.length_cons]
      have e := map_getD (fun x => y ^^^ x) l
      rw [← e, show l.length + 1 - (0 + 1) = l.length by omega, show 0 + 1 = 1 + 0 from rfl, ← List.map_add_range' (a := 1), List.map_map]
      apply List.map_congr_left
      intro j _
      simp [Nat.add_comm 1 j]
    · refine flat_congr fun i hi => ?_
      rw [prRow, prRow, List.map_map, List.map_map, List.length_cons]
      rw [show l.length + 1 - (i.succ + 1) = l.length - (i + 1) by omega, show i.succ + 1 = 1 + (i + 1) by omega, ← List.map_add_range', List.map_map]
      apply List.map_congr_left
      intro j _
      simp [Nat.add_comm 1 j, Nat.succ_eq_add_one]
theorem fars_bd {w : Nat} {xs : List Nat} (h : ∀ x ∈ xs, x < 2 ^ w) : ∀ x ∈ fars xs, x < 2 ^ w := fun x hx => by
  rw [← prs_fars] at hx
  obtain ⟨p, hp, rfl⟩ := List.mem_map.mp hx
  obtain ⟨h1, h2, h3⟩ := prs_mem.mp hp
  rw [h3]
  exact Nat.xor_lt_two_pow (h _ (gd_mem (by omega))) (h _ (gd_mem h2))
/-- all ordered pairs -/
def ords (P : Nat → Bool) (xs : List Nat) : Nat := (xs.map fun x => (xs.countP fun y => P (x ^^^ y))).sum
theorem ords_cons (P : Nat → Bool) (y : Nat) (l : List Nat) : ords P (y :: l) = (P 0).toNat + 2 * (l.countP fun x => P (y ^^^ x)) + ords P l := by
  unfold ords
  rw [List.map_cons, List.sum_cons, List.countP_cons, Nat.xor_self]
  have e : ∀ m : List Nat, (m.map fun x => ((y :: l).countP fun z => P (x ^^^ z))).sum = (m.countP fun x => P (y ^^^ x)) + (m.map fun x => (l.countP fun z => P (x ^^^ z))).sum := fun m => by
    induction m with
    | nil => rfl
    | cons a m ih =>
      rw [List.map_cons, List.sum_cons, ih, List.map_cons, List.sum_cons, List.countP_cons, List.countP_cons, Nat.xor_comm y a]
      omega
  rw [e l]
  cases P 0 <;> simp <;> omega
theorem ords_eq (P : Nat → Bool) : ∀ xs : List Nat, ords P xs = 2 * (fars xs).countP P + xs.length * (P 0).toNat
  | [] => by simp [ords, fars]
  | y :: l => by
    rw [ords_cons, ords_eq P l, fars, List.countP_append, List.countP_map, List.length_cons, Nat.add_mul]
    have : (l.countP fun x => P (y ^^^ x)) = l.countP (P ∘ fun x => y ^^^ x) := rfl
    rw [this]
    omega
/-- summed by number -/
theorem sum_zero {α : Type} (l : List α) (f : α → Nat) (h : ∀ x ∈ l, f x = 0) : (l.map f).sum = 0 := by
  induction l with
  | nil => rfl
  | cons a l ih => rw [List.map_cons, List.sum_cons, h a List.mem_cons_self, ih fun x hx => h x (List.mem_cons_of_mem _ hx)]
theorem sum_one {l : List Nat} (hn : l.Nodup) {a : Nat} (ha : a ∈ l) (f : Nat → Nat) : (l.map fun k => (if a = k then 1 else 0) * f k).sum = f a := by
  induction l with
  | nil => cases ha
  | cons k l ih =>
    obtain ⟨h1, h2⟩ := List.nodup_cons.mp hn
    rw [List.map_cons, List.sum_cons]
    rcases List.mem_cons.mp ha with e | e
    · subst e
      rw [if_pos rfl, sum_zero l _ fun x hx => by rw [if_neg (fun z => h1 (by rw [z]; exact hx)), Nat.zero_mul]]
      omega
    · rw [if_neg (fun z => h1 (by rw [← z]; exact e)), ih h2 e]
      omega
theorem sum_add {l : List Nat} (f g : Nat → Nat) : (l.map fun k => f k + g k).sum = (l.map f).sum + (l.map g).sum := by
  induction l with
  | nil => rfl
  | cons a l ih => rw [List.map_cons, List.map_cons, List.map_cons, List.sum_cons, List.sum_cons, List.sum_cons, ih]; omega
theorem sum_keys {keys xs : List Nat} (hn : keys.Nodup) (f : Nat → Nat) : ∀ n, (∀ i, i < n → xs.getD i 0 ∈ keys) → (keys.map fun k => ((List.range n).filter fun i => decide (xs.getD i 0 = k)).length * f k).sum = ((List.range n).map fun i => f (xs.getD i 0)).sum
  | 0, _ => by
    rw [sum_zero _ _ fun k _ => by simp]
    rfl
  | n + 1, h => by
    have ih := sum_keys hn f n fun i hi => h i (by omega)
    rw [List.range_succ, List.map_append, List.sum_append, ← ih]
    have e : (keys.map fun k => (((List.range n ++ [n]).filter fun i => decide (xs.getD i 0 = k)).length * f k)) = keys.map fun k => ((List.range n).filter fun i => decide (xs.getD i 0 = k)).length * f k + (if xs.getD n 0 = k then 1 else 0) * f k := by
      apply List.map_congr_left
      intro k _
      rw [List.filter_append, List.length_append, Nat.add_mul]
      congr 2
      by_cases hk : xs.getD n 0 = k
      · rw [if_pos hk, List.filter_cons_of_pos (by simpa using hk)]; rfl
      · rw [if_neg hk, List.filter_cons_of_neg (by simpa using hk)]; rfl
    rw [e, sum_add, sum_one hn (h n (by omega))]
    simp
theorem range_getD (xs : List Nat) (f : Nat → Nat) : ((List.range xs.length).map fun i => f (xs.getD i 0)) = xs.map f := by
  rw [List.range_eq_range']
  exact map_getD f xs
theorem filt_count (xs : List Nat) (f : Nat → Bool) : ((List.range xs.length).filter fun i => f (xs.getD i 0)).length = xs.countP f := by
  have := range_getD xs id
  simp only [id] at this
  conv => rhs; rw [show xs = xs.map id by simp, ← range_getD xs id, List.countP_map]
  rw [List.countP_eq_length_filter]
  rfl
/-- the sum over the keys is the number of ordered pairs -/
theorem keys_ords {xs : List Nat} {m : List (Nat × List Nat)} {v : Nat} (h : Pl xs xs.length m) : ((m.map (·.1)).map fun k => (getP m k).length * (getP m (k ^^^ v)).length).sum = ords (fun z => decide (z = v)) xs := by
  have e1 : ((m.map (·.1)).map fun k => (getP m k).length * (getP m (k ^^^ v)).length) = (m.map (·.1)).map fun k => ((List.range xs.length).filter fun i => decide (xs.getD i 0 = k)).length * (getP m (k ^^^ v)).length := by
    apply List.map_congr_left
    intro k _
    rw [h.get k]
  rw [e1, sum_keys h.nod (fun k => (getP m (k ^^^ v)).length) xs.length fun i hi => (h.key _).mpr ⟨i, hi, rfl⟩, range_getD xs fun x => (getP m (x ^^^ v)).length]
  unfold ords
  congr 1
  apply List.map_congr_left
  intro x _
  rw [h.get, filt_count xs fun z => decide (z = x ^^^ v)]
  congr 1
  funext z
  exact decide_eq_decide.mpr xor_swap.symm
end U.P

/-! U15h: sorted(t) of a tuple. -/
namespace U
open PySem PySem.Calls PyProof.Rows PySem.W
section
variable {P : Program} {ww : World} {Ar : Around} {Er : Value → Shared → Prop} {st : Shared}
theorem gather_tup {b : Addr} {us : List Value} {R : List Value → Shared → Prop} (hb : st.heap.IsTuple b us.toArray) (hz : us.length ≤ sizeLine)
    (h : R us { st with heap := (st.heap.push (seqObj "list" #[] 0)).update st.heap.objs.size (Obj.mapSeq (· ++ us.toArray)) }) : wpAny (model P ww) Ar (collect (.ref b)) R Er st := by
  obtain ⟨ob, hob, hcl, k, hdat⟩ := id hb
  unfold collect
  refine wpAny_bind (wpAny_runValue (codeAny_builtin entry_proto_collect' ?_)); show wpAny _ _ (do again (.builtin "list.__iadd__" ⟨[← newList [], .ref b], []⟩)) _ _ st
  refine wpAny_bind (wpAny_newList (wpAny_pure ⟨Code.quiet_builtin _ (by decide +kernel), codeAny_builtin entry_list_iadd' ?_⟩)); show wpAny _ _ (Builtin.List.listExtendWith (.ref st.heap.objs.size) (.ref b) (.ref st.heap.objs.size)) _ _ { st with heap := st.heap.push (seqObj "list" #[] 0) }
  unfold Builtin.List.listExtendWith
  have hob' : (st.heap.push (seqObj "list" #[] 0)).get? b = some ob := Heap.get?_push_of_some _ hob
  refine wpAny_bind (wpAny_typeOf (T := "tuple") ⟨ob, hob', hcl⟩ ?_)
  have hty : (Value.type "tuple" == Value.type "tuple") = true := by rfl
  rw [if_pos (by rw [hty]; simp)]
  refine wpAny_bind (listItems_at hob' hdat ?_)
  refine wpAny_bind (listItems_at (xs := #[]) (n := 0) (Heap.get?_push_size _ rfl) rfl ?_); rw [if_neg (by simp)]
  refine wpAny_bind (listUpdate_at (xs := #[]) (n := 0) (Heap.get?_push_size _ rfl) rfl ?_ (Nat.zero_le _) (by show (#[] ++ us.toArray).size ≤ sizeLine + 1; simp only [Array.size_append, List.size_toArray, List.length_nil]; omega))
  refine wpAny_pure ?_
  show wpAny (model P ww) Ar (do
      let ox ← load st.heap.objs.size
      match ox.data with
      | .seq zs _ => pure zs.toList
      | _ => unsupported "internal:collect") R Er { st with heap := (st.heap.push (seqObj "list" #[] 0)).update st.heap.objs.size (Obj.mapSeq (· ++ us.toArray)) }
  refine wpAny_bind (wpAny_load (get?_update_seq (Heap.get?_push_size _ rfl) _) ?_); show wpAny _ _ (pure ((#[] : Array Value) ++ us.toArray).toList) R Er _
  rw [show ((#[] : Array Value) ++ us.toArray).toList = us by simp]
  exact wpAny_pure h
theorem sorted_ofT {b : Addr} {us : List Value} {R : Value → Shared → Prop} (hb : st.heap.IsTuple b us.toArray) (hz : us.length ≤ sizeLine)
    (body : ∀ E' : Value → Shared → Prop, wpAny (model P ww) Ar.in1.in1 (Builtin.«list.sort» ⟨[.ref (st.heap.objs.size + 1)], []⟩) (fun f s' => f = .done (.ret .none) ∧ R (.ref (st.heap.objs.size + 1)) s') E' { st with heap := copyHeap st.heap us }) :
    wpAny (model P ww) Ar (call (.builtin "sorted") [.ref b]) R Er st := by
  refine call_function_entry_kw kind_sorted plain_sorted entry_sorted (args_sorted1 _) ?_
  unfold Builtin.«sorted»
  refine wpAny_bind (m := checkCount "sorted" 1 1 _) (wpAny_pure ?_)
  refine wpAny_bind (gather_tup hb hz ?_)
  refine wpAny_bind (wpAny_newList ?_ hz)
  have hs1 : ((st.heap.push (seqObj "list" #[] 0)).update st.heap.objs.size (Obj.mapSeq (· ++ us.toArray))).objs.size = st.heap.objs.size + 1 := by rw [Heap.size_update, size_push']
  show wpAny _ _ _ _ _ { st with heap := copyHeap st.heap us }
  rw [hs1]
  refine wpAny_bind (wpAny_holding (wpAny_call_entry_kw slot_list_sort ⟨_, copyHeap_at st.heap us, rfl⟩ entry_list_sort ?bd (args_list_sort _)))
  case bd =>
    show wpAny (model P ww) Ar.in1.in1 (Builtin.«list.sort» ⟨[.ref (st.heap.objs.size + 1)], []⟩) _ _ _
    refine wpAny_mono (body _) (fun f s' hf => ?_) fun _ _ e => e
    obtain ⟨rfl, hq⟩ := hf
    exact ⟨_, rfl, wpAny_pure ⟨_, rfl, hq⟩⟩
theorem sorted_dataT {β : Type} {us : List Value} {bs : List β} {enc : β → PyData} {Rl : Value → β → Prop} {b : Addr} {R : Value → Shared → Prop} (hb : st.heap.IsTuple b us.toArray) (e : EachIs Rl us bs) (er : EachIs (fun v b => ∃ as, Reads st.heap v (enc b) as) us bs) (hal : AllAlike (bs.map enc)) (hk : Sortable (bs.map enc)) (hL : bs.length ≤ sizeLine)
    (hu : ∀ b, b ∈ bs → Ar.units + 2 + (enc b).depth < cLine) (h : ∀ out, out.length = bs.length → EachIs Rl out (bs.mergeSort (dataLe false enc)) → R (.ref (st.heap.objs.size + 1)) { st with heap := sortedAll st.heap us (List.toArray out) }) :
    wpAny (model P ww) Ar (call (.builtin "sorted") [.ref b]) R Er st := by
  have er' : EachIs (fun v b => ∃ as, Reads (sortingHeap (copyHeap st.heap us) (st.heap.objs.size + 1) us) v (enc b) as) us bs := er.mono fun _ _ ⟨as, r⟩ => ⟨as, PyProof.Rows.Reads.keeps (fun _ _ => sorting_copy_old) r⟩
  have hz : us.length ≤ sizeLine := by rw [e.length]; exact hL
  exact sorted_ofT hb hz fun _ => list_sort_vals (s := { st with heap := copyHeap st.heap us }) (copyHeap_at st.heap us) (SortsAt.data (s := { st with heap := sortingHeap (copyHeap st.heap us) (st.heap.objs.size + 1) us }) (each_map (R := fun v d => ∃ as, Reads (sortingHeap (copyHeap st.heap us) (st.heap.objs.size + 1) us) v d as) enc er') hal hk (bound_map hu)) hz ⟨rfl, h _ (by rw [sortVals_length false rfl]; exact e.length) (sortVals_data false e er' hal)⟩
end
open L2
def rSortedDT (K : PySem.W.Frag) : List V → Hp → VK → Prop := fun vs H Q => ∃ (a : Addr) (ps : List (V × D)), vs = [V.ref a] ∧ SqT K H a (ps.map Prod.fst) ∧ Prs K H ps ∧ sortOk (ps.map Prod.snd) = true ∧
  ∀ p, H p = none → Q (.ref p) (upd H p (.lst ((ps.mergeSort (PySem.W.dataLe false fun q => q.2.py)).map Prod.fst)))
theorem cr_sortedDT {X : Cx} (hu : X.A.units + 64 < cLine) : CallR X (.builtin "sorted") (rSortedDT X.K) := by
  intro pins s σ H vs us Q I r h
  obtain ⟨a, ps, rfl, hs, hp, ho, q⟩ := h
  have so := SOk.of ho
  have so1 : ∀ p ∈ ps, p.2 ∈ ps.map Prod.snd := fun p m => List.mem_map.mpr ⟨p, m, rfl⟩
  obtain ⟨its, rv, hl, hz⟩ := I.tuple hs
  rw [Vals.ref1 r]
  have ev := vals_each rv rfl
  have er := each_reads I ev hp fun p m => so.ok _ (so1 p m)
  have em : ps.map (fun q => q.2.py) = (ps.map Prod.snd).map D.py := by rw [List.map_map]; rfl
  refine sorted_dataT (enc := fun q : V × D => q.2.py) (show s.heap.IsTuple a its.toArray from hl) ev er ?_ ?_ (by simpa using hz) (fun p m => ?_) fun out h1 h2 => ?_
  · rw [em]
    intro d hd e he
    obtain ⟨x, hx, rfl⟩ := List.mem_map.mp hd
    obtain ⟨y, hy, rfl⟩ := List.mem_map.mp he
    exact so.alike x hx y hy
  · rw [em]; exact so.sortable
  · have := so.depth _ (so1 p m)
    omega
  · obtain ⟨ep, he'⟩ := PyProof.Rows.sortedAll_at s.heap its out.toArray
    have hlen : ((ps.mergeSort (PySem.W.dataLe false fun q => q.2.py)).map Prod.fst).length ≤ sizeLine := by
      rw [List.length_map, List.length_mergeSort]
      simpa using hz
    exact ⟨.ref _, upd H (s.heap.objs.size + 1) (.lst ((ps.mergeSort (PySem.W.dataLe false fun q => q.2.py)).map Prod.fst)), I.laid (t' := s.toks) (fun _ _ => PyProof.Rows.sortedAll_old) (Nat.le_succ _) ⟨hlen, out, ep, each_vals h2, he'⟩, rfl, q _ (I.hok.fresh (Nat.le_succ _))⟩
/-- sorted() of a list or of a tuple -/
def cSortB : List D → Option D
  | [.lst ds] => cSortD false [.lst ds]
  | [.tup ds] => match sortOk ds with
    | true => some (.lst (sortD false ds))
    | false => none
  | _ => none
def rSortedB (K : PySem.W.Frag) : List V → Hp → VK → Prop := fun vs H Q => rSortedD K false vs H Q ∨ rSortedDT K vs H Q
theorem rc_sortB {K : PySem.W.Frag} : RCall K (rSortedB K) cSortB := by
  intro ds d e H vs rs Q q
  unfold cSortB at e
  split at e
  · exact .inl (rc_sortD _ d e H vs rs Q q)
  · split at e
    · rename_i ds hc
      cases e
      obtain ⟨v, F, rfl, r⟩ := rs.one
      simp only [Rep] at r
      obtain ⟨a, xs, rfl, sq, rl⟩ := r
      have hG := RepL.pure _ xs F rl (pureL_all (SOk.of hc).pure); subst hG
      obtain ⟨ps, rfl, rfl, hp⟩ := RepL.prs rl
      refine .inr ⟨a, ps, rfl, .inl (.inl sq), hp, hc, fun p hn => ?_⟩
      have hs : Prs K H (ps.mergeSort (PySem.W.dataLe false fun q => q.2.py)) := fun q m => hp q ((List.mergeSort_perm ps _).mem_iff.mp m)
      have e1 : sortD false (ps.map Prod.snd) = (ps.mergeSort (PySem.W.dataLe false fun q => q.2.py)).map Prod.snd := by
        unfold sortD
        rw [List.map_mergeSort (r := PySem.W.dataLe false fun q : V × D => q.2.py) (s := PySem.W.dataLe false D.py)]
        intro x _ y _; rfl
      rw [e1] at q
      exact q (.ref p) _ [p] (New.one hn) (Rep.lst_of upd_same (hs.repL.same (same_upd hn)))
    · cases e
  · cases e
theorem b_sortB {G : Gb} {S : Sc} {p pos : Pos} {e : Expr} {t : TA} {m : MA} (hm : G.mg "sorted" = none) (hg : globOk S "sorted" = true) (ha : BA G S [e] t m) (h1 : ∀ env, starEach [e] env = [(false, eval e env)] := by intro _; rfl) : BE G S (.Call (.Name "sorted" p) [e] [] pos) (tCB (rSortedB G.K) t) (mCB cSortB m) :=
  b_callB (fun X g => fun pins s σ H xs us Q I r h => h.elim (fun h => by rw [← g.K] at h; exact cr_sortedD (by have := units65 g; omega) pins s σ H xs us Q I r h) (fun h => by rw [← g.K] at h; exact cr_sortedDT (by have := units65 g; omega) pins s σ H xs us Q I r h)) rc_sortB (by decide +kernel) hm hg ha h1 (by intro _; rfl)
end U

namespace U.P
open PySem L2 U
variable {Q : D → Prop} {ds : List D} {xs : List Nat}
instance q_sortBL : St (W1 (cSortB [.lst ds]) Q) (W1 (cSortD false [.lst ds]) Q) := ⟨fun q => q⟩
instance q_sortBT : St (W1 (cSortB [.tup (xs.map nD)]) Q) (Q (.lst ((sortN xs).map nD))) := ⟨fun q => ⟨_, by
  simp only [cSortB, sortOk_map (rf_i (f := nD)), sortD_map (rf_i (f := nD)), sortK_nat], q⟩⟩
end U.P

/-! U15i: // by a wide number. -/
namespace U
open PySem L2
def cDivW (_ j : Int) : Bool := decide (0 < j) && decide (j.natAbs.log2 < 9000)
theorem cDivW_ok (i j : Int) (h : cDivW i j = true) : CDivW i j := by
  simp only [cDivW, Bool.and_eq_true, decide_eq_true_eq] at h
  exact h
def dFdivW : D → D → Option D := i2c cDivW fun i j => .int (i / j)
theorem rop_fdivW {K : PySem.W.Frag} : ROp K (rI CDivW fun i j => .int (i / j)) dFdivW := rop_i2c cDivW_ok fun i j H => by simp [Rep]
theorem b_fdivW {G : Gb} {S : Sc} {a b : Expr} {pos : Pos} {ta tb : TE} {ma mb : M} (ha : BE G S a ta ma) (hb : BE G S b tb mb) : BE G S (.BinOp a .FloorDiv b pos) (tOp (rI CDivW fun i j => .int (i / j)) ta tb) (mOp dFdivW ma mb) := b_op (fun X g => op_fdivW) rop_fdivW ha hb
end U

namespace U.P
open PySem L2 U
variable {Q : D → Prop} {i j : Int} {m n : Nat}
instance q_fdivWN [a : NatI i m] [b : NatI j n] : St (W1 (dFdivW (.int i) (.int j)) Q) (WP (0 < n ∧ n.log2 < 9000) (Q (.int ((m / n : Nat) : Int)))) := ⟨fun h => ⟨_, by
  have e1 := a.eq
  have e2 := b.eq
  subst e1 e2
  have hc : cDivW ((m : Nat) : Int) ((n : Nat) : Int) = true := by
    simp only [cDivW, Int.natAbs_natCast, Bool.and_eq_true, decide_eq_true_eq]
    exact ⟨by have := h.1.1; omega, h.1.2⟩
  simp only [dFdivW, i2c, hc, Int.natCast_ediv], h.2⟩⟩
end U.P

/-! U15j: a dict that is walked: locked while the loop runs. -/
namespace U
open PySem L2
mutual
def D.noLk : D → Bool
  | .lk _ _ => false
  | .lst xs => D.noLkL xs
  | .tup xs => D.noLkL xs
  | .fz xs => D.noLkL xs
  | .dct _ xs => D.noLkL xs
  | _ => true
def D.noLkL : List D → Bool
  | [] => true
  | d :: ds => d.noLk && D.noLkL ds
end
section
variable {K : PySem.W.Frag} {H : Hp} {a : Addr} {od : Obj} {kvs : List (Key × V)}
mutual
theorem Rep.unlock (ha : H a = some (.frz od (.dK kvs))) : ∀ (d : D) (v : V) (F : List Addr), d.noLk = true → Rep K H d v F → Rep K (upd H a (.dK kvs)) d v F
  | .non, v, F, _, h => h
  | .bl b, v, F, _, h => h
  | .int i, v, F, _, h => h
  | .str x, v, F, _, h => h
  | .ty n, v, F, _, h => h
  | .lst ds, v, F, n, h => by
    simp only [Rep] at h ⊢
    obtain ⟨b, xs, G, rfl, hr, e, rfl⟩ := h
    have ne : b ≠ a := fun z => by rw [z, ha] at e; cases e
    exact ⟨b, xs, G, rfl, RepL.unlock ha ds xs G (by simpa [D.noLk] using n) hr, by rw [upd_ne ne]; exact e, rfl⟩
  | .fz ds, v, F, n, h => by
    simp only [Rep] at h ⊢
    obtain ⟨b, xs, rfl, e, hr⟩ := h
    refine ⟨b, xs, rfl, ?_, RepL.unlock ha ds xs F (by simpa [D.noLk] using n) hr⟩
    rcases e with ⟨o, e⟩ | e
    · have ne : b ≠ a := fun z => by rw [z, ha] at e; cases e
      exact .inl ⟨o, by rw [upd_ne ne]; exact e⟩
    · exact .inr e
  | .tup ds, v, F, n, h => by
    simp only [Rep] at h ⊢
    obtain ⟨b, xs, rfl, e, hr⟩ := h
    have ne : b ≠ a := fun z => by rw [z, ha] at e; cases e
    exact ⟨b, xs, rfl, by rw [upd_ne ne]; exact e, RepL.unlock ha ds xs F (by simpa [D.noLk] using n) hr⟩
  | .dct ks ds, v, F, n, h => by
    simp only [Rep] at h ⊢
    obtain ⟨b, xs, G, rfl, e, hl, hr, rfl⟩ := h
    have ne : b ≠ a := fun z => by rw [z, ha] at e; cases e
    exact ⟨b, xs, G, rfl, by rw [upd_ne ne]; exact e, hl, RepL.unlock ha ds xs G (by simpa [D.noLk] using n) hr, rfl⟩
  | .lk ks ds, v, F, n, h => by simp [D.noLk] at n
theorem RepL.unlock (ha : H a = some (.frz od (.dK kvs))) : ∀ (ds : List D) (xs : List V) (F : List Addr), D.noLkL ds = true → RepL K H ds xs F → RepL K (upd H a (.dK kvs)) ds xs F
  | [], xs, F, _, h => h
  | d :: ds, xs, F, n, h => by
    simp only [RepL] at h ⊢
    simp only [D.noLkL, Bool.and_eq_true] at n
    obtain ⟨v, vs, F1, F2, rfl, rfl, h1, h2⟩ := h
    exact ⟨v, vs, F1, F2, rfl, rfl, Rep.unlock ha d v F1 n.1 h1, RepL.unlock ha ds vs F2 n.2 h2⟩
end
end
def noLkE (ρ : Env) (i : Nat) : Bool := (ρ.set i none).all fun e => match e with
  | some (_, d) => d.noLk
  | none => true
theorem noLkE_at {ρ : Env} {i j : Nat} {fl : Fl} {d : D} (h : noLkE ρ i = true) (hj : j ≠ i) (hl : look ρ j = some (fl, d)) : d.noLk = true := by
  unfold noLkE at h
  rw [List.all_eq_true] at h
  have e := look_some hl
  have : some (fl, d) ∈ ρ.set i none := by
    apply List.mem_of_getElem? (i := j)
    rw [List.getElem?_set_ne (Ne.symm hj)]
    exact e
  exact h _ this
def lkOk (i : Nat) : Out → Bool
  | .nx ρ => noLkE ρ i
  | .bk ρ => noLkE ρ i
  | .ct ρ => noLkE ρ i
  | .rt d ρ => d.noLk && noLkE ρ i
def mLock (i : Nat) (m : MS) : MS := fun ρ => match look ρ i with
  | some (.o, .dct ks ds) => match D.noLkL ds, m (ρ.set i (some (.h, .lk ks ds))) with
    | true, some o => match lkOk i o with
      | true => some (o.mp fun ρ' => ρ'.set i (some (.s, .dct ks ds)))
      | false => none
    | _, _ => none
  | _ => none
theorem ss_lock {K : PySem.W.Frag} {t : TS} {m : MS} {i : Nat} (hm : SS K t m) : SS K (tLock t) (mLock i m) := by
  intro ρ o e T σ H fp E R p
  unfold mLock at e
  split at e
  · rename_i ks ds hl
    split at e
    · rename_i o1 hnl e1
      split at e
      · rename_i hok
        cases e
        obtain ⟨v, hv, r0⟩ := R.rep i _ _ hl
        simp only [Rep] at r0
        obtain ⟨a, xs, G, rfl, ha, hlen, hr, hfp⟩ := r0
        have hi := look_lt hl
        obtain ⟨nd, nt, nj⟩ := R.nod i .o _ hl rfl
        rw [hfp] at nd nt nj
        obtain ⟨aG, nG⟩ := List.nodup_cons.mp nd
        have aT : ¬ T a := nt a List.mem_cons_self
        refine ⟨a, .dK (ks.zip xs), ha, True.intro, fun od => ?_⟩
        have pin : ∀ {u : HO}, Pin (fun b => b ≠ a) H (upd H a u) := fun {u} b ob eb c => by
          have : b ≠ a := by
            rcases c with c | c
            · exact c
            · rintro rfl
              rw [ha] at eb; cases eb
              cases c
          rw [upd_ne this]; exact eb
        have R1 : Rel K T (ρ.set i (some (.h, .lk ks ds))) σ (upd H a (.frz od (.dK (ks.zip xs)))) (fpSet fp i G) := by
          refine ⟨by rw [List.length_set]; exact R.len, fun j fl d el => ?_, fun j el => ?_, fun j fl d el u => ?_, fun b tb => ?_⟩
          · by_cases hj : j = i
            · subst hj
              rw [look_set_self hi] at el
              cases el
              rw [fpSet_self]
              refine ⟨.ref a, hv, ?_⟩
              simp only [Rep]
              exact ⟨a, od, xs, rfl, upd_same, hlen, RepL.pin pin ds xs G hr fun b hb z => aG (by rw [← z]; exact hb)⟩
            · rw [look_set_ne hj] at el
              rw [fpSet_ne hj]
              obtain ⟨w, b1, b2⟩ := R.rep j fl d el
              exact ⟨w, b1, Rep.pin pin d w _ b2 fun b hb z => nj j hj a List.mem_cons_self (by rw [← z]; exact hb)⟩
          · by_cases hj : j = i
            · subst hj
              rw [look_set_self hi] at el
              cases el
            · rw [look_set_ne hj] at el
              rw [fpSet_ne hj]
              exact R.nil j el
          · by_cases hj : j = i
            · subst hj
              rw [look_set_self hi] at el
              cases el
              cases u
            · rw [look_set_ne hj] at el
              rw [fpSet_ne hj]
              obtain ⟨a1, a2, a3⟩ := R.nod j fl d el u
              refine ⟨a1, a2, fun k hk b hb z => ?_⟩
              by_cases hk2 : k = i
              · subst hk2
                rw [fpSet_self] at z
                exact a3 k hk b hb (by rw [hfp]; exact List.mem_cons_of_mem _ z)
              · rw [fpSet_ne hk2] at z
                exact a3 k hk b hb z
          · have : b ≠ a := fun z => aT (by rw [← z]; exact tb)
            rw [upd_ne this]
            exact R.tal b tb
        have pinT : ∀ {u : HO}, Pin T H (upd H a u) := fun {u} b ob eb c => pin b ob eb (c.imp (fun tb z => aT (by rw [← z]; exact tb)) id)
        -- what stands behind the loop
        have back : ∀ (ρ' : Env) (σ' : L2.St) (H' : Hp) (fp' : Fp) (F : List Addr), noLkE ρ' i = true → Rel K (addF T F) ρ' σ' H' fp' → Pin T (upd H a (.frz od (.dK (ks.zip xs)))) H' → Fix (ρ.set i (some (.h, .lk ks ds))) σ (fpSet fp i G) ρ' σ' fp' → (∀ b ∈ F, b ∉ fp' i) →
            H' a = some (.frz od (.dK (ks.zip xs))) ∧ Rel K (addF T F) (ρ'.set i (some (.s, .dct ks ds))) σ' (upd H' a (.dK (ks.zip xs))) (fpSet fp' i (a :: G)) ∧ Pin T H (upd H' a (.dK (ks.zip xs))) ∧ Fix ρ σ fp (ρ'.set i (some (.s, .dct ks ds))) σ' (fpSet fp' i (a :: G)) ∧ fp' i = G := by
          intro ρ' σ' H' fp' F hno R' P' F' hF
          have hfz : H' a = some (.frz od (.dK (ks.zip xs))) := P' a _ upd_same (.inr rfl)
          obtain ⟨l1, l2, l3⟩ := (F' i .h (.lk ks ds) (look_set_self hi)).2 rfl
          rw [fpSet_self] at l2
          have hi' := look_lt l1
          have hv' : σ'[i]? = some (some (.ref a)) := by rw [l3]; exact hv
          have ri := R'.at_ l1 hv'
          rw [l2] at ri
          simp only [Rep] at ri
          obtain ⟨a', o', xs', ea, ha', hlen', hr'⟩ := ri
          cases ea
          rw [hfz] at ha'
          injection ha' with ha'
          injection ha' with _ hk'
          injection hk' with hk'
          have exs : xs' = xs := by
            have := congrArg (List.map Prod.snd) hk'
            rwa [List.map_snd_zip (by omega), List.map_snd_zip (by omega), eq_comm] at this
          subst exs
          have afp : ∀ j, a ∉ fp' j := fun j hj => by
            cases q : look ρ' j with
            | none => rw [R'.nil j q] at hj; cases hj
            | some x =>
              obtain ⟨w, _, b2⟩ := R'.rep j x.1 x.2 q
              obtain ⟨ob, e1, e2⟩ := Rep.alloc x.2 w _ b2 a hj
              rw [hfz] at e1; cases e1
              cases e2
          refine ⟨hfz, ⟨by rw [List.length_set]; exact R'.len, fun j fl d el => ?_, fun j el => ?_, fun j fl d el u => ?_, fun b tb => ?_⟩, fun b ob eb c => ?_, fun j fl d el => ?_, l2⟩
          · by_cases hj : j = i
            · subst hj
              rw [look_set_self hi'] at el
              cases el
              rw [fpSet_self]
              refine ⟨.ref a, hv', ?_⟩
              simp only [Rep]
              exact ⟨a, xs', G, rfl, upd_same, hlen, RepL.unlock hfz ds xs' G hnl hr', rfl⟩
            · rw [look_set_ne hj] at el
              rw [fpSet_ne hj]
              obtain ⟨w, b1, b2⟩ := R'.rep j fl d el
              exact ⟨w, b1, Rep.unlock hfz d w _ (noLkE_at hno hj el) b2⟩
          · by_cases hj : j = i
            · subst hj
              rw [look_set_self hi'] at el
              cases el
            · rw [look_set_ne hj] at el
              rw [fpSet_ne hj]
              exact R'.nil j el
          · by_cases hj : j = i
            · subst hj
              rw [look_set_self hi'] at el
              cases el
              cases u
            · rw [look_set_ne hj] at el
              rw [fpSet_ne hj]
              obtain ⟨a1, a2, a3⟩ := R'.nod j fl d el u
              refine ⟨a1, a2, fun k hk b hb z => ?_⟩
              by_cases hk2 : k = i
              · subst hk2
                rw [fpSet_self] at z
                rcases List.mem_cons.mp z with rfl | z
                · exact afp j hb
                · exact a3 k hk b hb (by rw [l2]; exact z)
              · rw [fpSet_ne hk2] at z
                exact a3 k hk b hb z
          · by_cases hb : b = a
            · rw [hb, upd_same]; exact fun z => nomatch z
            · rw [upd_ne hb]; exact R'.tal b tb
          · have hb : b ≠ a := by
              rcases c with c | c
              · exact fun z => aT (by rw [← z]; exact c)
              · rintro rfl
                rw [ha] at eb; cases eb
                cases c
            rw [upd_ne hb]
            exact P' b ob (by rw [upd_ne hb]; exact eb) c
          · by_cases hj : j = i
            · subst hj
              rw [hl] at el
              cases el
              exact ⟨(fun z => nomatch z), (fun z => nomatch z)⟩
            · have := F' j fl d (by rw [look_set_ne hj]; exact el)
              rw [fpSet_ne hj] at this
              rw [look_set_ne hj, fpSet_ne hj]
              exact this
        have none0 : ∀ {fp' : Fp}, ∀ b ∈ ([] : List Addr), b ∉ fp' i := fun _ h => nomatch h
        refine hm _ o1 e1 T σ _ (fpSet fp i G) _ R1 ?_
        cases o1 with
        | nx ρ1 =>
          intro σ' H' fp' R' P' F'
          obtain ⟨b1, b2, b3, b4, _⟩ := back ρ1 σ' H' fp' [] hok R'.addNil P' F' (fun _ h => nomatch h)
          exact ⟨b1, p σ' _ _ b2.subF b3 b4⟩
        | bk ρ1 =>
          intro σ' H' fp' R' P' F'
          obtain ⟨b1, b2, b3, b4, _⟩ := back ρ1 σ' H' fp' [] hok R'.addNil P' F' (fun _ h => nomatch h)
          exact ⟨b1, p σ' _ _ b2.subF b3 b4⟩
        | ct ρ1 =>
          intro σ' H' fp' R' P' F'
          obtain ⟨b1, b2, b3, b4, _⟩ := back ρ1 σ' H' fp' [] hok R'.addNil P' F' (fun _ h => nomatch h)
          exact ⟨b1, p σ' _ _ b2.subF b3 b4⟩
        | rt d ρ1 =>
          intro w σ' H' fp' F R' P' F' r
          simp only [lkOk, Bool.and_eq_true] at hok
          obtain ⟨r1, r2⟩ := r
          obtain ⟨u1, u2, u3⟩ := r2 rfl
          obtain ⟨b1, b2, b3, b4, b5⟩ := back ρ1 σ' H' fp' F hok.2 R' P' F' (u3 i)
          refine ⟨b1, p w σ' _ _ F b2 b3 b4 ⟨Rep.unlock b1 d w F hok.1 r1, fun _ => ⟨u1, u2, fun j b hb z => ?_⟩⟩⟩
          by_cases hj : j = i
          · subst hj
            rw [fpSet_self] at z
            rcases List.mem_cons.mp z with rfl | z
            · obtain ⟨ob, e1, e2⟩ := Rep.alloc d w F r1 b hb
              rw [b1] at e1; cases e1
              cases e2
            · exact u3 j b hb (by rw [b5]; exact z)
          · rw [fpSet_ne hj] at z
            exact u3 j b hb z
      · cases e
    · cases e
  · cases e
/-! ### the keys -/
def keysD : List Key → Option (List D)
  | [] => some []
  | .inl k :: ks => (keysD ks).map (D.int k :: ·)
  | .inr _ :: _ => none
theorem keysD_at : ∀ {ks : List Key} {es : List D} {i : Nat} {d : D}, keysD ks = some es → es[i]? = some d → ∃ k, ks[i]? = some (.inl k) ∧ d = .int k
  | [], es, i, d, h, e => by cases h; simp at e
  | .inl k :: ks, es, 0, d, h, e => by
    simp only [keysD, Option.map_eq_some_iff] at h
    obtain ⟨es', _, rfl⟩ := h
    cases e
    exact ⟨k, rfl, rfl⟩
  | .inl k :: ks, es, i + 1, d, h, e => by
    simp only [keysD, Option.map_eq_some_iff] at h
    obtain ⟨es', h', rfl⟩ := h
    obtain ⟨k', a, b⟩ := keysD_at (i := i) h' (by simpa using e)
    exact ⟨k', by simpa using a, b⟩
  | .inr _ :: ks, es, i, d, h, e => by cases h
theorem keysD_len : ∀ {ks : List Key} {es : List D}, keysD ks = some es → es.length = ks.length
  | [], es, h => by cases h; rfl
  | .inl k :: ks, es, h => by
    simp only [keysD, Option.map_eq_some_iff] at h
    obtain ⟨es', h', rfl⟩ := h
    simp [keysD_len h']
  | .inr _ :: ks, es, h => by cases h
def mKeys (i : Nat) : MI := fun ρ => match look ρ i with
  | some (_, .lk ks _) => match keysD ks with
    | some es => some (es, ρ, [])
    | none => none
  | _ => none
theorem si_keys {K : PySem.W.Frag} {i : Nat} : SI K (iKeys (tVar i)) (mKeys i) := by
  intro ρ ds ρ0 is e T σ H fp R Q h
  unfold mKeys at e
  split at e
  · rename_i fl ks vs hl
    split at e
    · rename_i es hk
      cases e
      obtain ⟨v, hv, r0⟩ := R.rep i _ _ hl
      simp only [Rep] at r0
      obtain ⟨a, o, xs, rfl, ha, hlen, hr⟩ := r0
      refine ⟨.ref a, hv, a, o, rfl, .inl ⟨ks.zip xs, ha, ?_⟩⟩
      have hz : (ks.zip xs).length = ds.length := by rw [List.length_zip, ← hlen, Nat.min_self, keysD_len hk]
      refine h (Itk a o (ks.zip xs)) H fp [] (fun H' => H' a = some (.frz o (.dK (ks.zip xs)))) R.addNil (Pin.refl _ _) (Nog.refl _ _) (Fix.refl _ _ _) ⟨fun k H' hI hk' => ⟨hI, by rw [hz]; exact hk'⟩, fun H' hI => ⟨hI, by rw [hz]; exact Nat.le_refl _⟩, fun k H' x H2 d hI hd hy => ?_⟩ fun ρ' σ' H' fp' _ _ P' => P' a _ ha (.inr rfl)
      obtain ⟨rfl, kk, vv, hkv, rfl⟩ := hy
      obtain ⟨k', h1, rfl⟩ := keysD_at hk hd
      have h2 : ks[k]? = some kk := (List.getElem?_zip_eq_some.mp hkv).1
      rw [h1] at h2
      cases h2
      exact ⟨Same.refl _, [], by simp only [Rep]; exact ⟨rfl, trivial⟩, fun _ h => nomatch h⟩
    · cases e
  · cases e
/-! ### reading while it is locked -/
def mLGetL (i : Nat) (mk : M) : M := fun ρ => match look ρ i with
  | some (_, .lk _ _) => match mk ρ with
    | some (o, ρ1) => match opD ρ1 o, look ρ1 i with
      | some (.int k), some (.h, .lk ks ds) => match (findD ks ds (.inl k)).getD (.lst []) with
        | .lst es => some (.tm false (.lst es), ρ1)
        | _ => none
      | _, _ => none
    | none => none
  | _ => none
theorem so_lgetL {K : PySem.W.Frag} {i : Nat} {ty : TE} {mk : M} (hk : SO K ty mk) : SO K (tDGet2 (tVar i) ty (tLst tNil)) (mLGetL i mk) := by
  intro ρ o ρ' e T σ H fp R Q h
  simp only [mLGetL] at e
  split at e
  · rename_i fl0 ks0 ds0 hl0
    split at e
    · rename_i o1 ρ1 e1
      split at e
      · rename_i k ks ds e2 hl
        split at e
        · rename_i es hes
          cases e
          obtain ⟨v, hv, r0⟩ := R.rep i _ _ hl0
          simp only [Rep] at r0
          obtain ⟨a, oo, xs0, rfl, ha0, _, _⟩ := r0
          refine ⟨.ref a, hv, a, rfl, .inl ⟨_, .inr ⟨_, ha0⟩⟩, ?_⟩
          refine hk ρ o1 _ e1 T σ H fp R _ fun y H1 fp1 F R1 p1 n1 f1 r1 => ?_
          obtain ⟨_, ry⟩ := r1.rep R1 e2
          simp only [Rep] at ry
          obtain ⟨rfl, _⟩ := ry
          refine ⟨Nat.zero_le _, fun p hp => ?_⟩
          have R1' := R1.subF
          have r2 := R1'.at_ hl hv
          simp only [Rep] at r2
          obtain ⟨a', o2, xs, ea, ha, hlen, hr⟩ := r2
          cases ea
          have ap : a ≠ p := fun z => by rw [z, hp] at ha; cases ha
          have sm : Same H1 (upd H1 p (.lst [])) := same_upd hp
          refine ⟨_, .inl ⟨_, .inl k, .inr ⟨o2, by rw [upd_ne ap]; exact ha⟩, rfl, rfl⟩, ?_⟩
          have R2 := R1'.same sm
          have key : ∀ (v1 : V) (F1 : List Addr), Rep K (upd H1 p (.lst [])) (.lst es) v1 F1 → (∀ b ∈ F1, b ∈ fp1 i ∨ b = p) → Q v1 (upd H1 p (.lst [])) := fun v1 F1 rv hF => by
            refine h v1 _ fp1 F1 (R2.pinF (fun b hb => rv.fresh hb) fun b hb j g e el u z => ?_) (p1.trans (Pin.same sm)) n1 f1 ⟨rv, fun z => nomatch z⟩
            rcases hF b hb with q | q
            · by_cases hj : j = i
              · subst hj
                rw [hl] at el
                cases el
                cases u
              · exact (R1'.nod j g e el u).2.2 i (Ne.symm hj) b z q
            · subst q
              exact R1'.fresh hp j z
          rcases find_rep (q := .inl k) hr hlen with ⟨g1, g2⟩ | ⟨d1, v1, F1, g1, g2, g3, g4⟩
          · rw [g1] at hes
            cases hes
            rw [g2]
            exact key (.ref p) [p] (by simp only [Rep]; exact ⟨p, [], [], rfl, by simp [RepL], upd_same, rfl⟩) fun b hb => .inr (List.mem_singleton.mp hb)
          · rw [g1] at hes
            cases hes
            rw [g2]
            exact key v1 F1 (g3.same sm) fun b hb => .inl (g4.subset hb)
        · cases e
      · cases e
    · cases e
  · cases e
def mLIxL (i : Nat) (mk : M) : M := fun ρ => match look ρ i with
  | some _ => match mk ρ with
    | some (o, ρ1) => match opD ρ1 o, look ρ1 i with
      | some (.int k), some (.h, .lk ks ds) => match findD ks ds (.inl k) with
        | some (.lst es) => some (.tm false (.lst es), ρ1)
        | _ => none
      | _, _ => none
    | none => none
  | none => none
theorem so_lixL {K : PySem.W.Frag} {i : Nat} {ty : TE} {mk : M} (hk : SO K ty mk) : SO K (tDGet (tVar i) ty) (mLIxL i mk) := by
  intro ρ o ρ' e T σ H fp R Q h
  simp only [mLIxL] at e
  split at e
  case h_2 => cases e
  rename_i x0 q0
  split at e
  · rename_i o1 ρ1 e1
    split at e
    · rename_i k ks ds e2 hl
      split at e
      · rename_i es hes
        cases e
        obtain ⟨v, hv, _⟩ := R.rep i x0.1 x0.2 q0
        refine ⟨v, hv, ?_⟩
        refine hk ρ o1 _ e1 T σ H fp R _ fun y H1 fp1 F R1 p1 n1 f1 r1 => ?_
        obtain ⟨_, ry⟩ := r1.rep R1 e2
        simp only [Rep] at ry
        obtain ⟨rfl, _⟩ := ry
        have R1' := R1.subF
        have r2 := R1'.at_ hl hv
        simp only [Rep] at r2
        obtain ⟨a, o2, xs, rfl, ha, hlen, hr⟩ := r2
        rcases find_rep (q := .inl k) hr hlen with ⟨g1, g2⟩ | ⟨d1, v1, F1, g1, g2, g3, g4⟩
        · rw [g1] at hes; cases hes
        · rw [g1] at hes
          cases hes
          refine ⟨a, v1, rfl, .inl ⟨_, .inl k, .inr ⟨o2, ha⟩, rfl, g2.symm⟩, ?_⟩
          refine h v1 _ fp1 F1 (R1'.pinF (fun b hb => g3.fresh hb) fun b hb j g e el u z => ?_) p1 n1 f1 ⟨g3, fun z => nomatch z⟩
          by_cases hj : j = i
          · subst hj
            rw [hl] at el
            cases el
            cases u
          · exact (R1'.nod j g e el u).2.2 i (Ne.symm hj) b z (g4.subset hb)
      · cases e
    · cases e
  · cases e
section
variable {G : Gb} {S : Sc}
variable {x : Str} {i : Nat} {px pos apos cpos lp : Pos} {e tg : Expr} {te : TE} {me : M} {st : Stmt} {t : TS} {m : MS}
theorem bi_keys (hn : nameOk S i x = true) : BI G S tg (.Name x px) (iKeys (tVar i)) (mKeys i) := ⟨fun X g => pi_keys ((b_name (G := G) hn).pe X g), si_keys⟩
theorem bs_lock (i : Nat) (h : BS G S st t m) : BS G S st (tLock t) (mLock i m) := ⟨fun X g => ps_lock (h.ps X g), ss_lock h.ss⟩
theorem b_lgetL (hn : nameOk S i x = true) (he : BE G S e te me) (h1 : ∀ env, starEach [e, .List [] lp] env = [(false, eval e env), (false, eval (.List [] lp) env)] := by intro _; rfl) (h3 : (apos.endLine == cpos.line) = true := by rfl) : BE G S (.Call (.Attribute (.Name x px) "get" apos) [e, .List [] lp] [] cpos) (tDGet2 (tVar i) te (tLst tNil)) (mLGetL i me) :=
  ⟨fun X g => pe_dget2 (units1 g) ((b_name (G := G) hn).pe X g) (he.pe X g) (pe_lst pa_nil) ⟨rfl, by rw [h1]; rfl, h3, by rw [h1]; rfl⟩, so_lgetL he.so⟩
theorem b_lixL (hn : nameOk S i x = true) (he : BE G S e te me) (hs : NoSl e := by intro _ _; rfl) : BE G S (.Subscript (.Name x px) e pos) (tDGet (tVar i) te) (mLIxL i me) :=
  ⟨fun X g => pe_dget (units1 g) ((b_name (G := G) hn).pe X g) (he.pe X g) hs, so_lixL he.so⟩
end
end U

/-! W13: locked dicts in the walk. -/
namespace U.P
open PySem L2 U
/-- a locked dict of lists of numbers -/
def kL (m : List (Nat × List Nat)) : D := .lk (m.map fun p => kN p.1) (m.map fun p => lD nD p.2)
instance pu_kL {m : List (Nat × List Nat)} : Pu (kL m) false := ⟨rfl⟩
instance is_kL {m : List (Nat × List Nat)} : Ist (kL m) false := ⟨rfl⟩
class Nk (d : D) : Prop where
  eq : d.noLk = true
class NkL (ds : List D) : Prop where
  eq : D.noLkL ds = true
instance nk_non : Nk .non := ⟨rfl⟩
instance nk_bl {b : Bool} : Nk (.bl b) := ⟨rfl⟩
instance nk_int {i : Int} : Nk (.int i) := ⟨rfl⟩
instance nk_lst {ds : List D} [h : NkL ds] : Nk (.lst ds) := ⟨by rw [D.noLk]; exact h.eq⟩
instance nk_tup {ds : List D} [h : NkL ds] : Nk (.tup ds) := ⟨by rw [D.noLk]; exact h.eq⟩
instance nk_fz {ds : List D} [h : NkL ds] : Nk (.fz ds) := ⟨by rw [D.noLk]; exact h.eq⟩
instance nkl_nil : NkL [] := ⟨rfl⟩
instance nkl_cons {d : D} {ds : List D} [h : Nk d] [h' : NkL ds] : NkL (d :: ds) := ⟨by rw [D.noLkL, h.eq, h'.eq]; rfl⟩
theorem noLkL_map {α : Type} {f : α → D} (h : ∀ x, (f x).noLk = true) : ∀ xs : List α, D.noLkL (xs.map f) = true
  | [] => rfl
  | x :: xs => by rw [List.map_cons, D.noLkL, h x, noLkL_map h xs]; rfl
instance nkl_map {α : Type} {f : α → D} {xs : List α} [h : ∀ x, Nk (f x)] : NkL (xs.map f) := ⟨noLkL_map (fun x => (h x).eq) xs⟩
instance nk_dL {m : List (Nat × List Nat)} : Nk (dL m) := ⟨by rw [dL, D.noLk]; exact noLkL_map (fun p => by rw [D.noLk]; exact noLkL_map (fun _ => rfl) _) m⟩
class NkE (ρ : Env) : Prop where
  eq : (ρ.all fun e => match e with | some (_, d) => d.noLk | none => true) = true
instance nke_nil : NkE [] := ⟨rfl⟩
instance nke_none {ρ : Env} [h : NkE ρ] : NkE (none :: ρ) := ⟨by rw [List.all_cons, h.eq]; rfl⟩
instance nke_some {ρ : Env} {fl : Fl} {d : D} [h : NkE ρ] [h' : Nk d] : NkE (some (fl, d) :: ρ) := ⟨by rw [List.all_cons, h.eq]; dsimp only; rw [h'.eq]; rfl⟩
section
variable {ρ ρ1 ρ2 : Env} {Q : Out → Prop} {i : Nat} {m : List (Nat × List Nat)} {b : MS}
/-- behind a lock -/
def WLk (i : Nat) (m : List (Nat × List Nat)) (Q : Out → Prop) (o : Out) : Prop := lkOk i o = true ∧ Q (o.mp fun ρ' => ρ'.set i (some (.s, dL m)))
instance w_lock [l : LookAt ρ i (some (.o, dL m))] [s : SetAt ρ i (some (.h, kL m)) ρ1] : St (WS (mLock i b) ρ Q) (WS b ρ1 (WLk i m Q)) := ⟨fun h => by
  obtain ⟨o, e, hk, q⟩ := h
  have hn : D.noLkL (m.map fun p => lD nD p.2) = true := noLkL_map (fun p => by rw [D.noLk]; exact noLkL_map (fun _ => rfl) _) m
  have es := s.eq
  rw [kL] at es
  exact ⟨_, by simp only [mLock, l.eq, dL, hn, es, e, hk], q⟩⟩
instance lk_nx {ρ3 : Env} [s : SetAt ρ i none ρ3] [n : NkE ρ3] : St (WLk i m Q (.nx ρ)) (WUp (ρ.set i (some (.s, dL m))) fun ρ2 => Q (.nx ρ2)) := ⟨fun h => ⟨by rw [lkOk, noLkE, s.eq]; exact n.eq, h⟩⟩
instance lk_rt {ρ3 : Env} {d : D} [s : SetAt ρ i none ρ3] [n : NkE ρ3] [n' : Nk d] : St (WLk i m Q (.rt d ρ)) (WUp (ρ.set i (some (.s, dL m))) fun ρ2 => Q (.rt d ρ2)) := ⟨fun h => ⟨by rw [lkOk, noLkE, s.eq, n'.eq]; exact n.eq, h⟩⟩
theorem keysD_map : ∀ m : List (Nat × List Nat), keysD (m.map fun p => kN p.1) = some ((m.map (·.1)).map nD)
  | [] => rfl
  | p :: m => by rw [List.map_cons, keysD, keysD_map m]; rfl
instance w_keys {R : List D → Env → List Nat → Prop} {fl : Fl} [l : LookAt ρ i (some (fl, kL m))] : St (WI (mKeys i) ρ R) (R ((m.map (·.1)).map nD) ρ []) := ⟨fun q => ⟨_, _, _, by simp only [mKeys, l.eq, kL, keysD_map], q⟩⟩
end
section
variable {ρ : Env} {Q : Opd → Env → Prop} {i : Nat} {m m0 : List (Nat × List Nat)} {fl : Fl} {k : Int} {n : Nat}
def WLG (i : Nat) (d : D) (ρ1 : Env) (Q : Opd → Env → Prop) : Prop := ∃ k ks ds es, d = .int k ∧ look ρ1 i = some (.h, .lk ks ds) ∧ (findD ks ds (.inl k)).getD (.lst []) = .lst es ∧ Q (.tm false (.lst es)) ρ1
def WLX (i : Nat) (d : D) (ρ1 : Env) (Q : Opd → Env → Prop) : Prop := ∃ k ks ds es, d = .int k ∧ look ρ1 i = some (.h, .lk ks ds) ∧ findD ks ds (.inl k) = some (.lst es) ∧ Q (.tm false (.lst es)) ρ1
instance w_lgetL {mk : M} [a : LookAt ρ i (some (fl, kL m0))] : St (WE (mLGetL i mk) ρ Q) (WE mk ρ fun o ρ1 => W1 (opD ρ1 o) fun d => WLG i d ρ1 Q) := ⟨fun h => by
  obtain ⟨o, ρ1, e1, d, e2, k, ks, ds, es, rfl, e3, e5, q⟩ := h
  exact ⟨_, _, by simp only [mLGetL, a.eq, kL, e1, e2, e3, e5], q⟩⟩
instance w_lixL {mk : M} {e : Fl × D} [a : LookAt ρ i (some e)] : St (WE (mLIxL i mk) ρ Q) (WE mk ρ fun o ρ1 => W1 (opD ρ1 o) fun d => WLX i d ρ1 Q) := ⟨fun h => by
  obtain ⟨o, ρ1, e1, d, e2, k, ks, ds, es, rfl, e3, e5, q⟩ := h
  exact ⟨_, _, by simp only [mLIxL, a.eq, e1, e2, e3, e5], q⟩⟩
instance w_lg [c : NatI k n] [a : LookAt ρ i (some (.h, kL m))] : St (WLG i (.int k) ρ Q) (Q (.tm false (lD nD (getP m n))) ρ) := ⟨fun q => by
  have hc := c.eq
  subst hc
  refine ⟨_, _, _, (getP m n).map nD, rfl, a.eq, ?_, q⟩
  show (findD _ _ (kN n)).getD _ = _
  rw [findD_dL, getP]
  cases findP m n <;> rfl⟩
instance w_lx [c : NatI k n] [a : LookAt ρ i (some (.h, kL m))] : St (WLX i (.int k) ρ Q) (WP (n ∈ m.map (·.1)) (Q (.tm false (lD nD (getP m n))) ρ)) := ⟨fun ⟨hm, q⟩ => by
  have hc := c.eq
  subst hc
  refine ⟨_, _, _, (getP m n).map nD, rfl, a.eq, ?_, q⟩
  show findD _ _ (kN n) = _
  rw [findD_dL, getP]
  have : (findP m n).isSome = true := by rw [findP_some]; exact decide_eq_true hm
  cases e : findP m n with
  | none => rw [e] at this; cases this
  | some l => rfl⟩
end
end U.P

/-! U15k: dicts of plain values: get(k), setdefault(k, v). -/
namespace U
open PySem L2
def mDGet1 (i : Nat) (mk : M) : M := fun ρ => match look ρ i with
  | some (_, .dct _ _) => match mk ρ with
    | some (o, ρ1) => match opD ρ1 o, look ρ1 i with
      | some (.int k), some (_, .dct ks ds) => match ((findD ks ds (.inl k)).getD .non).pure with
        | true => some (.tm true ((findD ks ds (.inl k)).getD .non), ρ1)
        | false => none
      | _, _ => none
    | none => none
  | _ => none
theorem so_dget1 {K : PySem.W.Frag} {i : Nat} {ty : TE} {mk : M} (hk : SO K ty mk) : SO K (tDGet1 (tVar i) ty) (mDGet1 i mk) := by
  intro ρ o ρ' e T σ H fp R Q h
  simp only [mDGet1] at e
  split at e
  · rename_i fl0 ks0 ds0 hl0
    split at e
    · rename_i o1 ρ1 e1
      split at e
      · rename_i k fl ks ds e2 hl
        split at e
        · rename_i hpu
          cases e
          obtain ⟨v, hv, r0⟩ := R.rep i _ _ hl0
          simp only [Rep] at r0
          obtain ⟨a, xs0, G0, rfl, ha0, _, _, _⟩ := r0
          refine ⟨.ref a, hv, a, rfl, .inl ⟨_, .inl ha0⟩, ?_⟩
          refine hk ρ o1 _ e1 T σ H fp R _ fun y H1 fp1 F R1 p1 n1 f1 r1 => ?_
          obtain ⟨_, ry⟩ := r1.rep R1 e2
          simp only [Rep] at ry
          obtain ⟨rfl, _⟩ := ry
          have R1' := R1.subF
          have r2 := R1'.at_ hl hv
          simp only [Rep] at r2
          obtain ⟨a', xs, G, ea, ha, hlen, hr, hfp⟩ := r2
          cases ea
          refine ⟨_, DGet.k (k := .inl k) ha, ?_⟩
          have key : ∀ v1 : V, Rep K H1 ((findD ks ds (.inl k)).getD .non) v1 [] → Q v1 H1 := fun v1 rv => by
            obtain ⟨R2, r3⟩ := R1'.new (New.nil H1) rv
            exact h v1 H1 fp1 [] R2 p1 n1 f1 r3
          rcases find_rep (q := .inl k) hr hlen with ⟨g1, g2⟩ | ⟨d1, v1, F1, g1, g2, g3, g4⟩
          · rw [g2]
            refine key _ ?_
            rw [g1]
            simp [Rep]
          · rw [g2]
            refine key _ ?_
            rw [g1] at hpu ⊢
            have := Rep.pure d1 v1 F1 g3 hpu
            rw [this] at g3
            exact g3
        · cases e
      · cases e
    · cases e
  · cases e
def mSetdP (i j l : Nat) : M := fun ρ => match look ρ i, look ρ j, look ρ l with
  | some (fl, .dct ks ds), some (_, .int k), some (_, d) => match fl.mu && d.pure && fullLen ks.length && D.pureL ds with
    | true => match findD ks ds (.inl k) with
      | some x => some (.tm true x, ρ)
      | none => some (.tm true d, ρ.set i (some (fl, .dct (ks ++ [.inl k]) (ds ++ [d]))))
    | false => none
  | _, _, _ => none
theorem so_setdP {K : PySem.W.Frag} {i j l : Nat} : SO K (tDSetd (tVar i) (tVar j) (tVar l)) (mSetdP i j l) := by
  intro ρ o ρ' e T σ H fp R Q h
  simp only [mSetdP] at e
  split at e
  · rename_i fl ks ds flj k fll d hi hj hl
    split at e
    · rename_i hc
      simp only [Bool.and_eq_true] at hc
      obtain ⟨⟨⟨hmu, hpd⟩, hful⟩, hpl⟩ := hc
      obtain ⟨v, hv, r0⟩ := R.rep i _ _ hi
      obtain ⟨y, hy, ry⟩ := R.rep j _ _ hj
      obtain ⟨w, hw, rw_⟩ := R.rep l _ _ hl
      have hfl := Rep.pure d w _ rw_ hpd
      rw [hfl] at rw_
      simp only [Rep] at ry
      obtain ⟨rfl, _⟩ := ry
      simp only [Rep] at r0
      obtain ⟨a, xs, G, rfl, ha, hlen, hr, hfp⟩ := r0
      have hG := RepL.pure ds xs G hr hpl
      subst hG
      have hsz : (ks.zip xs).length ≤ 10000000 := by
        rw [List.length_zip, hlen, Nat.min_self, ← hlen]
        exact of_decide_eq_true hful
      refine ⟨.ref a, hv, a, rfl, .inl ⟨_, .inl ha⟩, .int k, hy, w, hw, ks.zip xs, .inl k, ha, rfl, by rw [sizeLine_eq]; omega, fun v' ev => ?_, fun en => ?_⟩
      · rcases find_rep (q := .inl k) hr hlen with ⟨f1, f2⟩ | ⟨d1, v1, F1, f1, f2, f3, f4⟩
        · rw [f2] at ev; cases ev
        · rw [f2] at ev; cases ev
          rw [f1] at e
          cases e
          have hF : F1 = [] := List.sublist_nil.mp f4
          subst hF
          obtain ⟨R2, r3⟩ := R.new (New.nil H) f3
          exact h _ H fp [] R2 (Pin.refl _ _) (Nog.refl _ _) (Fix.refl _ _ _) r3
      · rcases find_rep (q := .inl k) hr hlen with ⟨f1, f2⟩ | ⟨d1, v1, F1, f1, f2, f3, f4⟩
        · rw [f1] at e
          cases e
          have e1 : putK (ks.zip xs) (.inl k) w = (ks ++ [(Sum.inl k : Key)]).zip (xs ++ [w]) := by
            rw [putK_new _ f2, List.zip_append hlen]
            rfl
          have pin : Pin (fun c => c ≠ a) H (upd H a (.dK (putK (ks.zip xs) (.inl k) w))) := fun c ob eo hc => by
            have ca : c ≠ a := by
              rcases hc with hc | hc
              · exact hc
              · rintro rfl
                rw [ha] at eo; cases eo
                cases hc
            rw [upd_ne ca]; exact eo
          have sw := R.swap (H' := upd H a (.dK (putK (ks.zip xs) (.inl k) w))) (d' := .dct (ks ++ [.inl k]) (ds ++ [d])) (F' := [a]) hi hv hmu (by
            simp only [Rep]
            refine ⟨a, xs ++ [w], [], rfl, by rw [upd_same, e1], by simp [hlen], ?_, rfl⟩
            have := (RepL.pin pin ds xs [] hr fun _ h => nomatch h).app (show RepL K (upd H a (.dK (putK (ks.zip xs) (.inl k) w))) [d] [w] [] by
              simp only [RepL]
              exact ⟨w, [], [], [], rfl, rfl, Rep.pin pin d w [] rw_ (fun _ h => nomatch h), rfl, rfl⟩)
            simpa using this) (by simp) (fun c hc => .inl (by rw [hfp]; exact hc)) (fun c hc hn => by
            rw [hfp] at hc
            rw [upd_ne (fun z => hc (by rw [z]; simp))])
          obtain ⟨R2, P2, N2, X2⟩ := sw
          obtain ⟨R3, r3⟩ := R2.new (New.nil _) (Rep.pin pin d w [] rw_ fun _ h => nomatch h)
          exact h w _ _ [] R3 P2 N2 X2 r3
        · rw [f2] at en; cases en
    · cases e
  · cases e
section
variable {G : Gb} {S : Sc}
variable {x y z : Str} {i j l : Nat} {px pk pv apos cpos : Pos} {e : Expr} {te : TE} {me : M}
theorem b_dget1 (hn : nameOk S i x = true) (he : BE G S e te me) (h1 : ∀ env, starEach [e] env = [(false, eval e env)] := by intro _; rfl) (h3 : (apos.endLine == cpos.line) = true := by rfl) : BE G S (.Call (.Attribute (.Name x px) "get" apos) [e] [] cpos) (tDGet1 (tVar i) te) (mDGet1 i me) :=
  ⟨fun X g => pe_dget1 (units1 g) ((b_name (G := G) hn).pe X g) (he.pe X g) ⟨rfl, by rw [h1]; rfl, h3, by rw [h1]; rfl⟩, so_dget1 he.so⟩
theorem b_setdP (hn : nameOk S i x = true) (hy : nameOk S j y = true) (hz : nameOk S l z = true) (h3 : (apos.endLine == cpos.line) = true := by rfl) :
    BE G S (.Call (.Attribute (.Name x px) "setdefault" apos) [.Name y pk, .Name z pv] [] cpos) (tDSetd (tVar i) (tVar j) (tVar l)) (mSetdP i j l) :=
  ⟨fun X g => pe_dsetd ((b_name (G := G) hn).pe X g) ((b_name (G := G) hy).pe X g) ((b_name (G := G) hz).pe X g) ⟨rfl, rfl, h3, rfl⟩, so_setdP⟩
end
end U

/-! W14: dicts of numbers in the walk. -/
namespace U.P
open PySem L2 U
/-- a dict of numbers -/
def nDc (m : List (Nat × Nat)) : D := .dct (m.map fun p => kN p.1) (m.map fun p => nD p.2)
def findN : List (Nat × Nat) → Nat → Option Nat
  | [], _ => none
  | (k, x) :: m, n => if k = n then some x else findN m n
def addN (m : List (Nat × Nat)) (n x : Nat) : List (Nat × Nat) := match findN m n with
  | some _ => m
  | none => m ++ [(n, x)]
theorem findD_nDc (n : Nat) : ∀ m : List (Nat × Nat), findD (m.map fun p => kN p.1) (m.map fun p => nD p.2) (kN n) = (findN m n).map nD
  | [] => rfl
  | (k, l) :: m => by
    rw [List.map_cons, List.map_cons, findD, findN]
    by_cases h : k = n
    · rw [if_pos (kN_inj.mpr h), if_pos h]; rfl
    · rw [if_neg (mt kN_inj.mp h), if_neg h, findD_nDc n m]
theorem findN_snoc (n x q : Nat) : ∀ m : List (Nat × Nat), findN (m ++ [(n, x)]) q = (findN m q).or (if n = q then some x else none)
  | [] => by rw [List.nil_append, findN, findN]; rfl
  | (k, y) :: m => by
    rw [List.cons_append, findN, findN]
    by_cases h : k = q
    · rw [if_pos h, if_pos h]; rfl
    · rw [if_neg h, if_neg h, findN_snoc n x q m]
theorem addN_find (m : List (Nat × Nat)) (n x q : Nat) : findN (addN m n x) q = (findN m q).or (if n = q then some x else none) := by
  unfold addN
  cases h : findN m n with
  | none => exact findN_snoc n x q m
  | some y =>
    by_cases hq : n = q
    · subst hq
      rw [h, if_pos rfl]; rfl
    · rw [if_neg hq, Option.or_none]
theorem addN_len (m : List (Nat × Nat)) (n x : Nat) : (addN m n x).length ≤ m.length + 1 := by
  unfold addN
  split <;> simp
instance pu_nDc {m : List (Nat × Nat)} : Pu (nDc m) false := ⟨rfl⟩
instance is_nDc {m : List (Nat × Nat)} : Ist (nDc m) false := ⟨rfl⟩
section
variable {ρ ρ2 : Env} {Q : Opd → Env → Prop} {i j l : Nat} {m m0 : List (Nat × Nat)} {fl f2 f3 : Fl} {k : Int} {n x : Nat} {d : D}
def WD1 (i : Nat) (d : D) (ρ1 : Env) (Q : Opd → Env → Prop) : Prop := ∃ k fl ks ds, d = .int k ∧ look ρ1 i = some (fl, .dct ks ds) ∧ ((findD ks ds (.inl k)).getD .non).pure = true ∧ Q (.tm true ((findD ks ds (.inl k)).getD .non)) ρ1
instance w_dget1 {mk : M} [a : LookAt ρ i (some (fl, nDc m0))] : St (WE (mDGet1 i mk) ρ Q) (WE mk ρ fun o ρ1 => W1 (opD ρ1 o) fun d => WD1 i d ρ1 Q) := ⟨fun h => by
  obtain ⟨o, ρ1, e1, d, e2, k, f, ks, ds, rfl, e3, e4, q⟩ := h
  exact ⟨_, _, by simp only [mDGet1, a.eq, nDc, e1, e2, e3, e4], q⟩⟩
instance w_d1 [c : NatI k n] [a : LookAt ρ i (some (fl, nDc m))] : St (WD1 i (.int k) ρ Q) (Q (.tm true (oD nD (findN m n))) ρ) := ⟨fun q => by
  have hc := c.eq
  subst hc
  have e : (findD (m.map fun p => kN p.1) (m.map fun p => nD p.2) (.inl (n : Int))).getD .non = oD nD (findN m n) := by
    show (findD _ _ (kN n)).getD _ = _
    rw [findD_nDc]
    cases findN m n <;> rfl
  refine ⟨_, fl, _, _, rfl, a.eq, ?_, ?_⟩
  · rw [e]
    cases findN m n <;> rfl
  · rw [e]; exact q⟩
theorem set_look {e : Option (Fl × D)} (h : look ρ i = e) (hi : i < ρ.length) : ρ.set i e = ρ := by
  apply List.ext_getElem?
  intro j
  by_cases hj : j = i
  · subst hj
    rw [List.getElem?_set_self hi]
    unfold look at h
    rw [List.getElem?_eq_getElem hi] at h ⊢
    rw [← h]
    rfl
  · rw [List.getElem?_set_ne (Ne.symm hj)]
instance w_setdP [a : LookAt ρ i (some (fl, nDc m))] [b : LookAt ρ j (some (f2, .int k))] [c : NatI k n] [e : LookAt ρ l (some (f3, d))] [v : Cv nD d x] [u : Mu fl] [s : SetAt ρ i (some (fl, nDc (addN m n x))) ρ2] : St (WE (mSetdP i j l) ρ Q) (WP (m.length ≤ 10000000) (∀ y : Nat, Q (.tm true (nD y)) ρ2)) := ⟨fun ⟨ho, q⟩ => by
  have hv := v.eq
  have hc := c.eq
  subst hv hc
  have hf : fullLen (m.map fun p => kN p.1).length = true := by rw [List.length_map]; exact decide_eq_true ho
  have hp : D.pureL (m.map fun p => nD p.2) = true := (pl_map (xs := m) (f := fun p => nD p.2)).eq
  have h2 := findD_nDc n m
  cases hn : findN m n with
  | none =>
    rw [hn] at h2
    refine ⟨_, ρ2, ?_, q x⟩
    have es := s.eq
    rw [addN, hn] at es
    simp only [mSetdP, a.eq, b.eq, e.eq, nDc, u.eq, hf, hp, D.pure, Bool.and_self]
    show (match findD _ _ (kN n) with | some x => _ | none => _) = _
    rw [h2]
    rw [← es, nDc]
    simp
  | some y =>
    rw [hn] at h2
    refine ⟨_, ρ2, ?_, q y⟩
    have es := s.eq
    rw [addN, hn, set_look a.eq s.lt] at es
    subst es
    simp only [mSetdP, a.eq, b.eq, e.eq, nDc, u.eq, hf, hp, D.pure, Bool.and_self]
    show (match findD _ _ (kN n) with | some x => _ | none => _) = _
    rw [h2]
    rfl⟩
end
end U.P

/-! U15l: names of texts of the module. -/
namespace U
open PySem L2
theorem b_gstr {G : Gb} {S : Sc} {x z : Str} {t : Tok} {pos : Pos} (h : globOk S x = true) (hm : G.mg x = some (.str z t)) : BE G S (.Name x pos) (tC (.str z)) (mC (.str z)) :=
  ⟨fun X g => pe_glob (globOk_gl g h).1 (by rw [g.mg]; exact hm) ⟨_, rfl⟩ (globOk_gl g h).2.1, so_str⟩
end U

/-! U15m: a number in a tuple of numbers. -/
namespace U
open PySem L2
def allI : List D → Option (List Int)
  | [] => some []
  | .int i :: ds => (allI ds).map (i :: ·)
  | _ :: _ => none
def rInT (K : PySem.W.Frag) : R2 := fun x y H Q => ∃ (k : Int) (a : Addr) (is : List Int), x = .int k ∧ y = .ref a ∧ SqT K H a (is.map V.int) ∧ Q (.bl (is.any fun i => decide (i = k))) H
theorem dps_ints {K : PySem.W.Frag} {H : Hp} : ∀ is : List Int, DpAll K H (is.map V.int) (is.map PyData.int)
  | [] => .nil
  | i :: is => .cons (.int i) (dps_ints is)
theorem plain_ints : ∀ is : List Int, PyData.plainAll (is.map PyData.int) = true
  | [] => rfl
  | i :: is => by rw [List.map_cons, PyData.plainAll, plain_ints is]; rfl
theorem op_inT {X : Cx} (hu : X.A.units + 65 < cLine) : OpR X (compareOp .In) (rInT X.K) := by
  intro pins s σ H x y v u Q I rx ry h
  obtain ⟨k, a, is, rfl, rfl, sq, q⟩ := h
  obtain ⟨as, r1⟩ := Dp.reads I (.int k) (.int k) v (.int k) rx
  obtain ⟨bs, r2⟩ := Dp.reads I (.tuple (is.map PyData.int)) (.ref a) u (.tup sq (dps_ints is)) ry
  refine PySem.SeqAt.in_tuple_data r2 r1 (plain_ints is) rfl (by have : min (PyData.depthAll (is.map PyData.int)) (PyData.int k).depth ≤ (PyData.int k).depth := Nat.min_le_right _ _; have h0 : (PyData.int k).depth = 0 := rfl; omega) ⟨.bl _, H, I, ?_, q⟩
  show _ = _
  congr 1
  rw [List.any_map]
  rfl
def dInC : D → D → Option D
  | .int k, .tup ds => match allI ds with
    | some is => some (.bl (is.any fun i => decide (i = k)))
    | none => none
  | x, y => dInB x y
theorem allI_rep {K : PySem.W.Frag} {H : Hp} : ∀ {ds : List D} {xs : List V} {G : List Addr} {is : List Int}, RepL K H ds xs G → allI ds = some is → xs = is.map V.int
  | [], xs, G, is, h, e => by
    simp only [RepL] at h
    cases e
    exact h.1
  | d :: ds, xs, G, is, h, e => by
    simp only [RepL] at h
    obtain ⟨v, vs, F1, F2, rfl, rfl, h1, h2⟩ := h
    cases d with
    | int i =>
      simp only [allI, Option.map_eq_some_iff] at e
      obtain ⟨is', e', rfl⟩ := e
      simp only [Rep] at h1
      rw [h1.1, allI_rep h2 e']
      rfl
    | _ => cases e
def rInC (K : PySem.W.Frag) : R2 := fun x y H Q => rInT K x y H Q ∨ rInB K x y H Q
theorem rop_inC {K : PySem.W.Frag} : ROp K (rInC K) dInC := by
  intro d1 d2 d e H v w F G r1 r2 Q h
  unfold dInC at e
  split at e
  · rename_i k ds
    split at e
    · rename_i is ha
      cases e
      simp only [Rep] at r1 r2
      obtain ⟨rfl, _⟩ := r1
      obtain ⟨a, xs, rfl, hx, rl⟩ := r2
      have := allI_rep rl ha
      subst this
      exact .inl ⟨k, a, is, rfl, rfl, .inl (.inl hx), h _ H [] (New.nil H) (by simp [Rep])⟩
    · cases e
  · exact .inr (rop_inB _ _ d e H v w F G r1 r2 Q h)
theorem k_inC {G : Gb} {S : Sc} : InK G S .In (rInC G.K) dInC := ⟨fun X g => OpR.or (by rw [← g.K]; exact op_inT (units65 g)) ((k_inB (G := G) (S := S)).op X g), rop_inC⟩
end U

namespace U.P
open PySem L2 U
variable {Q : D → Prop} {i : Int} {n : Nat} {xs : List Nat}
theorem allI_map : ∀ xs : List Nat, allI (xs.map nD) = some (xs.map fun x : Nat => (x : Int))
  | [] => rfl
  | x :: xs => by rw [List.map_cons, allI, allI_map xs]; rfl
instance q_inC [a : NatI i n] : St (W1 (dInC (.int i) (.tup (xs.map nD))) Q) (Q (.bl (decide (n ∈ xs)))) := ⟨fun q => ⟨_, by
  have := a.eq
  subst this
  have e : ((xs.map fun x : Nat => (x : Int)).any fun i => decide (i = (n : Int))) = decide (n ∈ xs) := by
    rw [List.any_map]
    clear q
    induction xs with
    | nil => rfl
    | cons y xs ih =>
      rw [List.any_cons, ih]
      by_cases h : y = n
      · subst h; simp
      · have h2 : ¬ n = y := fun e => h e.symm
        have h3 : ¬ (y : Int) = (n : Int) := by omega
        simp [h2, h3]
  simp only [dInC, allI_map, e], q⟩⟩
instance (priority := low) q_andN {j : Int} {m : Nat} [a : NatI i m] [b : NatI j n] : St (W1 (dAnd (.int i) (.int j)) Q) (Q (.int ((m &&& n : Nat) : Int))) := ⟨fun h => q_and (by rw [a.eq, b.eq, PyProof.Rows.bitAnd_pp (by omega) (by omega)]; exact h)⟩
/-- a text that can be laid -/
class SOk (x : Str) : Prop where
  lay : PyData.canLay0 (D.py (.str x)) = true
instance so_mask : SOk (Str.ofString "mask") := ⟨by decide +kernel⟩
instance so_places : SOk (Str.ofString "places") := ⟨by decide +kernel⟩
instance e2_s {x y : Str} [a : SOk x] [b : SOk y] : Eq2 (.str x) (.str y) (decide (x = y)) 0 := ⟨⟨rfl, rfl⟩, ⟨a.lay, b.lay⟩, ⟨Nat.le_refl _, Nat.le_refl _⟩, by
  simp only [D.py, PyData.eqv]
  by_cases h : x = y
  · subst h; simp
  · simp [h]⟩
theorem q_allR {n : Nat} {Q : D → Prop} (q : Q (.bl true)) : W1 (cAll [.lst (List.replicate n (.bl true))]) Q := by
  refine ⟨_, ?_, q⟩
  have e : ∀ n, blsOf (List.replicate n (.bl true)) = some (List.replicate n true) := fun n => by
    induction n with
    | zero => rfl
    | succ n ih => rw [List.replicate_succ, blsOf, ih]; rfl
  simp [cAll, e]
end U.P

/-! U15n: a call that is lent a thing made on the spot, a number beside it. -/
namespace U
open PySem L2
def own2 : List Opd → Option (List D)
  | [.tm true d, .tm true (.int i)] => some [d, .int i]
  | _ => none
def mCallT2 (f : Fn) (ma : MA) : M := fun ρ => match ma ρ with
  | some (os, ρ1) => match own2 os with
    | some ds => match f ds with
      | some (r, [_, _]) => some (.tm true r, ρ1)
      | _ => none
    | none => none
  | _ => none
theorem so_callT2 {K : PySem.W.Frag} {f : Fn} {ta : TA} {ma : MA} {E : XK} (ha : SA K ta ma) : SO K (tCall (SpF K [true, false] f) [] E ta) (mCallT2 f ma) := by
  intro ρ o ρ' e T σ H fp R Q h
  unfold mCallT2 at e
  split at e
  · rename_i os ρx e1
    split at e
    · rename_i ds eo
      split at e
      · rename_i r d' d2' e3
        cases e
        unfold own2 at eo
        split at eo
        · rename_i d i
          cases eo
          refine ha ρ _ ρ' e1 T σ H fp R _ fun vs H1 fp1 G R1 p1 n1 f1 r1 => ?_
          obtain ⟨v0, ws, F0, G', rfl, rfl, ⟨rd, ru⟩, v1, ws1, F1, G1, rfl, rfl, ⟨rd1, ru1⟩, rfl, rfl⟩ := r1
          obtain ⟨u1, u2, u3⟩ := ru rfl
          have hF1 := Rep.pure _ _ _ rd1 rfl
          subst hF1
          rw [List.append_nil, List.append_nil] at R1
          have lentA : ∀ a, Lent [true, false] (fun k => if k = 0 then F0 else []) a ↔ a ∈ F0 := fun a => ⟨fun ⟨k, hk, hak⟩ => by
            match k with
            | 0 => simpa using hak
            | 1 => simp at hk
            | k + 2 => simp at hk, fun ha => ⟨0, rfl, by simpa using ha⟩⟩
          refine ⟨[d, .int i], r, [d', d2'], fun k => if k = 0 then F0 else [], e3, rfl, rfl, fun k dd ed => ?_, fun k hk => ?_, fun k hk => ?_, ?_⟩
          · match k with
            | 0 => cases ed; exact ⟨v0, rfl, by simpa using rd⟩
            | 1 => cases ed; exact ⟨v1, rfl, by simpa using rd1⟩
            | k + 2 => simp at ed
          · have : k ≠ 0 := by
              rintro rfl
              simp at hk
            exact if_neg this
          · match k with
            | 0 =>
              refine ⟨by simpa using u1, fun j hj a _ ha => ?_⟩
              simp [hj] at ha
            | 1 => simp at hk
            | k + 2 => simp at hk
          intro v H' F fp' P' rr nF hF hL
          have al1 : ∀ j a, a ∈ fp1 j → H1 a ≠ none := fun j a ha hn => R1.fresh hn j ha
          have pinT : Pin T H1 H' := fun a o ea c => P' a o ea (c.imp (fun t z => u2 a ((lentA a).mp z) t) id)
          have R2 : Rel K T ρ' σ H' fp1 := by
            refine ⟨R1.len, fun j fl dd el => ?_, R1.nil, fun j fl dd el u => ?_, fun a t hn => ?_⟩
            · obtain ⟨w, b1, b2⟩ := R1.rep j fl dd el
              exact ⟨w, b1, Rep.pin P' dd w _ b2 fun a ha hl => u3 j a ((lentA a).mp hl) ha⟩
            · obtain ⟨a1, a2, a3⟩ := R1.nod j fl dd el u
              exact ⟨a1, fun a ha t => a2 a ha (.inl t), a3⟩
            · cases q : H1 a with
              | none => exact R1.tal a (.inl t) q
              | some o => rw [pinT a o q (.inl t)] at hn; cases hn
          have Ffp : ∀ j, ∀ a ∈ F, a ∉ fp1 j := fun j a ha hj => by
            rcases hF a ha with q | q
            · exact al1 j a hj q
            · exact u3 j a ((lentA a).mp q) hj
          have FT : ∀ a ∈ F, ¬ T a := fun a ha t => by
            rcases hF a ha with q | q
            · exact R1.tal a (.inl t) q
            · exact u2 a ((lentA a).mp q) t
          exact h v H' fp1 F (R2.pinF (fun a ha => rr.fresh ha) fun a ha j fl d _ _ hj => Ffp j a ha hj) (p1.trans pinT) n1 f1 ⟨rr, fun _ => ⟨nF, FT, Ffp⟩⟩
        · cases eo
      · cases e
    · cases e
  · cases e
section
variable {G : Gb} {S : Sc}
theorem b_callTm2 {k : Nat} {x : Str} {f : Fn} {e : Expr} {es : List Expr} {p pos : Pos} {t : TA} {m : MA} (F : FnK G.P G.w G.K G.mg G.base k x [true, false] f) (hk : k ≤ G.k) (hg : globOk S x = true) (ha : BA G S (e :: es) t m) (h1 : ∀ env, starEach (e :: es) env = (false, eval e env) :: starEach es env := by intro _; rfl) (h2 : ∀ env, (backTo pos (starEach es env)).any (·.1) = false := by intro _; rfl) :
    BE G S (.Call (.Name x p) (e :: es) [] pos) (tCall (SpF G.K [true, false] f) [] E0 t) (mCallT2 f m) := by
  obtain ⟨a, fd, ps, F, hm, hkp, hb⟩ := F
  refine ⟨fun X g => ?_, so_callT2 ha.sa⟩
  refine pe_callG (CX := CX0) (k := k) (f := a) (fd := fd) (ps := ps) (ds := []) ?_ (g.room.mono hk) g.still (globOk_gl g hg).1 (by rw [g.mg]; exact hm) (by rw [g.K]; exact hkp) (by rw [g.K]; exact hb) .nil pass0 (ha.pa X g) (globOk_gl g hg).2.1 (h1 X.env) (h2 X.env)
  rw [g.prog, g.w, g.K, g.mg, g.base]
  exact F
end
end U

namespace U.P
open PySem L2 U
variable {ρ : Env}
instance w_callT2 {f : Fn} {ma : MA} {Q : Opd → Env → Prop} : St (WE (mCallT2 f ma) ρ Q) (WA ma ρ fun os ρ1 => W1 (own2 os) fun ds => WF f ds fun r ds' => WP (ds'.length = 2) (Q (.tm true r) ρ1)) := ⟨fun h => by
  obtain ⟨os, ρ1, e1, ds, e2, r, ds', e3, hl', q⟩ := h
  match ds', hl' with
  | [d1, d2], _ => exact ⟨_, _, by simp only [mCallT2, e1, e2, e3], q⟩⟩
instance w_own2 {d : D} {i : Int} {Q : List D → Prop} : St (W1 (own2 [.tm true d, .tm true (.int i)]) Q) (Q [d, .int i]) := ⟨fun q => ⟨_, rfl, q⟩⟩
end U.P

/-! U15o: `is` and `is not` between truths. -/
namespace U
open PySem L2
def dIsB : D → D → Option D
  | .bl b, .bl c => some (.bl (b == c))
  | _, _ => none
def dIsNotB : D → D → Option D
  | .bl b, .bl c => some (.bl (!(b == c)))
  | _, _ => none
theorem op_isB {X : Cx} : OpR X (compareOp .Is) (fun x y H Q => ∃ b c, x = .bl b ∧ y = .bl c ∧ Q (.bl (b == c)) H) := by
  intro pins s σ H x y v u Q I rx ry h
  obtain ⟨b, c, rfl, rfl, q⟩ := h
  cases (show v = Value.bool b from rx)
  cases (show u = Value.bool c from ry)
  by_cases e : b = c
  · subst e
    exact wpAny_is_self rfl ⟨.bl true, H, I, rfl, by simpa using q⟩
  · exact wpAny_is_other rfl (fun z => e (Value.bool.inj z)) ⟨.bl false, H, I, rfl, by rw [beq_eq_false_iff_ne.mpr e] at q; exact q⟩
theorem op_isNotB {X : Cx} : OpR X (compareOp .IsNot) (fun x y H Q => ∃ b c, x = .bl b ∧ y = .bl c ∧ Q (.bl (!(b == c))) H) := by
  intro pins s σ H x y v u Q I rx ry h
  obtain ⟨b, c, rfl, rfl, q⟩ := h
  cases (show v = Value.bool b from rx)
  cases (show u = Value.bool c from ry)
  by_cases e : b = c
  · subst e
    exact wpAny_isNot_self rfl ⟨.bl false, H, I, rfl, by simpa using q⟩
  · exact wpAny_isNot_other rfl (fun z => e (Value.bool.inj z)) ⟨.bl true, H, I, rfl, by rw [beq_eq_false_iff_ne.mpr e] at q; exact q⟩
theorem rop_isB {K : PySem.W.Frag} : ROp K (fun x y H Q => ∃ b c, x = .bl b ∧ y = .bl c ∧ Q (.bl (b == c)) H) dIsB := by
  intro d1 d2 d e H v w F G r1 r2 Q h
  unfold dIsB at e
  split at e
  · cases e
    simp only [Rep] at r1 r2
    exact ⟨_, _, r1.1, r2.1, h _ H [] (New.nil H) (by simp [Rep])⟩
  · cases e
theorem rop_isNotB {K : PySem.W.Frag} : ROp K (fun x y H Q => ∃ b c, x = .bl b ∧ y = .bl c ∧ Q (.bl (!(b == c))) H) dIsNotB := by
  intro d1 d2 d e H v w F G r1 r2 Q h
  unfold dIsNotB at e
  split at e
  · cases e
    simp only [Rep] at r1 r2
    exact ⟨_, _, r1.1, r2.1, h _ H [] (New.nil H) (by simp [Rep])⟩
  · cases e
theorem k_isB {G : Gb} {S : Sc} : CmpK G S .Is (fun x y H Q => ∃ b c, x = .bl b ∧ y = .bl c ∧ Q (.bl (b == c)) H) dIsB := ⟨fun X g => op_isB, rop_isB, fun b => nomark b⟩
theorem k_isnotB {G : Gb} {S : Sc} : CmpK G S .IsNot (fun x y H Q => ∃ b c, x = .bl b ∧ y = .bl c ∧ Q (.bl (!(b == c))) H) dIsNotB := ⟨fun X g => op_isNotB, rop_isNotB, fun b => nomark b⟩
end U

namespace U.P
open PySem L2 U
variable {Q : D → Prop}
instance q_isBt : St (W1 (dIsB (.bl true) (.bl true)) Q) (Q (.bl true)) := ⟨fun q => ⟨_, rfl, q⟩⟩
instance q_isBf : St (W1 (dIsB (.bl false) (.bl true)) Q) (Q (.bl false)) := ⟨fun q => ⟨_, rfl, q⟩⟩
instance (priority := low) q_isB {b : Bool} : St (W1 (dIsB (.bl b) (.bl true)) Q) (Q (.bl b)) := ⟨fun q => ⟨_, by cases b <;> rfl, q⟩⟩
instance q_isNotBt : St (W1 (dIsNotB (.bl true) (.bl true)) Q) (Q (.bl false)) := ⟨fun q => ⟨_, rfl, q⟩⟩
instance q_isNotBf : St (W1 (dIsNotB (.bl false) (.bl true)) Q) (Q (.bl true)) := ⟨fun q => ⟨_, rfl, q⟩⟩
instance (priority := low) q_isNotB {b : Bool} : St (W1 (dIsNotB (.bl b) (.bl true)) Q) (Q (.bl (!b))) := ⟨fun q => ⟨_, by cases b <;> rfl, q⟩⟩
end U.P

/-! U15p: sorted(d), list(d) of a dict with number keys; sorted(set(x)), len(set(x)) of numbers. -/
namespace U
open PySem PySem.Calls PyProof.Rows PySem.W L2
section
variable {X : Cx}
def rSortedDi : List V → Hp → VK → Prop := fun xs H Q => ∃ (a : Addr) (kvs : List (Key × V)) (is : List Int), xs = [.ref a] ∧ Rd H a (.dK kvs) ∧ kvs.map (·.1) = is.map Sum.inl ∧
    ∀ (ys : List Int) (p : Addr), ys.Perm is → ys.Pairwise (· ≤ ·) → H p = none → Q (.ref p) (upd H p (.lst (ys.map V.int)))
theorem ints_at' : ∀ {us : List Value} {ks : List Int}, us.length = ks.length → (∀ (j : Nat) (v : Value), us[j]? = some v → ∃ (x : Int) (t : Tok), ks[j]? = some x ∧ v = Value.int x t) → IntsAre us ks
  | [], [], _, _ => .nil
  | u :: us, k :: ks, hl, h => by
    obtain ⟨x, t, e1, e2⟩ := h 0 u rfl
    have e3 : k = x := Option.some.inj e1
    subst e3 e2
    exact .cons _ _ (ints_at' (by simpa using hl) fun j v e => by
      obtain ⟨x, t, a, b⟩ := h (j + 1) v (by simpa using e)
      exact ⟨x, t, by simpa using a, b⟩)
  | [], _ :: _, hl, _ => by simp at hl
  | _ :: _, [], hl, _ => by simp at hl
theorem cr_sortedDi (hcalm : X.calm = true) : CallR X (.builtin "sorted") rSortedDi := by
  intro pins st σ H xs us Q I r q
  obtain ⟨a, kvs, ks, ex, hd, hks, q⟩ := q
  subst ex
  obtain ⟨u, eu, rx⟩ := vals1 r
  subst eu
  cases rx
  obtain ⟨z, lo, vs, rel, dd⟩ := dk_rd I.hok hd
  obtain ⟨ep, hat⟩ := dd.dictAt
  have hkeys : vs.map (·.1) = ks.map Sum.inl := rel.keys.symm.trans hks
  have hl : vs.length = ks.length := by
    have e := congrArg List.length hkeys
    simpa using e
  have h16 : vs.length ≤ sizeLine := by rw [← rel.length]; exact z
  refine Calls.call_function_entry kind_sorted plain_sorted entry_sorted (args_sorted1 _) ?_
  unfold Builtin.«sorted»
  refine wpAny_bind (m := checkCount "sorted" 1 1 _) (wpAny_pure ?_)
  refine wpAny_bind (kdu_collect (A := X.A.in1) (kdl_dict (knd := mixKind X.prog X.w) (kvs := vs) (ep := ep) lo) (I.ok.hd hcalm) hat h16 fun h' tk acc hk hacc => ?_)
  have hal : acc.toList.length = ks.length := by rw [Array.length_toList, hacc.1, hl]
  have hS : IntsAre acc.toList ks := ints_at' hal fun j v e => by
    obtain ⟨k, x, e1, e2⟩ := hacc.2 j v (by rw [← Array.getElem?_toList]; exact e)
    have e3 : (vs.map (·.1))[j]? = some k := by rw [List.getElem?_map, e1]; all_goals rfl
    rw [hkeys, List.getElem?_map] at e3
    cases e4 : ks[j]? with
    | none => rw [e4] at e3; cases e3
    | some y =>
      rw [e4] at e3
      have e5 : Sum.inl y = k := Option.some.inj e3
      subst e5
      obtain ⟨t, ev⟩ := Value.isInt_shape (k := y) (v := v) e2
      exact ⟨y, t, rfl, ev⟩
  have I1 : Inv X pins σ H { st with heap := h', toks := tk } := I.kept hk
  have hz : acc.toList.length ≤ sizeLine := by rw [hal, ← hl]; exact h16
  refine wpAny_bind (wpAny_newList ?_ hz)
  have hoL : (h'.push (seqObj "list" acc.toList.toArray 0)).get? h'.objs.size = some (seqObj "list" acc.toList.toArray 0) := Heap.get?_push_size _ rfl
  show wpAny _ _ _ _ _ { st with heap := h'.push (seqObj "list" acc.toList.toArray 0), toks := tk }
  refine wpAny_bind (wpAny_holding (wpAny_call_entry slot_list_sort ⟨_, hoL, rfl⟩ entry_list_sort
    (SrtO.list_sort_ord (s := { st with heap := h'.push (seqObj "list" acc.toList.toArray 0), toks := tk }) SrtO.swo_int hoL hz (fun h2 => SrtO.ints_sortable hS h2) fun out h1 h2 => ⟨_, rfl, ?_⟩) (args_list_sort _)))
  obtain ⟨k1, k2, k3⟩ := SrtO.ints_out hS h1 h2
  obtain ⟨e', he'⟩ := sortedHeap_at (vs := acc.toList) (out := out.toArray) hoL
  have hlen : ((out.map SrtO.iv).map V.int).length ≤ sizeLine := by
    rw [List.length_map, k2.length_eq, ← hl]; exact h16
  refine wpAny_pure ⟨_, rfl, .ref h'.objs.size, upd H h'.objs.size (.lst ((out.map SrtO.iv).map V.int)), I1.laid (t' := tk) (fun b u e => ?_) (Nat.le_refl _)
    (show ObjOk X.prog X.w _ _ _ (.lst ((out.map SrtO.iv).map V.int)) from ⟨hlen, out, e', vals_of_ints k1, he'⟩), rfl, q _ _ k2 k3 (I1.hok.fresh (Nat.le_refl _))⟩
  have hb : b < h'.objs.size := Heap.lt_size e
  rw [sortedHeap_old (Nat.ne_of_lt hb) (by rw [size_push']; exact Nat.lt_succ_of_lt hb)]
  exact Heap.get?_push_of_some _ e
end
end U

/-! U15q: set(x) of a list of numbers, its sorting, its length. -/
namespace U
open PySem PySem.Calls PyProof.Rows PySem.W L2
section
variable {Pr : Program} {ww : World} {Ar : Around} {Er : Value → Shared → Prop} {st : Shared}
/-- the set object that set(..) begins with -/
abbrev emptySet (ww : World) : Obj := { cls := .type "set", dict := none, data := .set #[] 0 (.fresh 0 0 (!ww.params.followText "set-order")) }
theorem call_set_listI {l : Addr} {items : Array Value} (ns : List Int) {Q : Value → Shared → Prop} (hh : Ar.handled = none) (hl : st.heap.IsList l items) (hit : IntsAre items.toList ns) (hb : ns.length + 1 < scanBound)
    (h : ∀ (h' : Heap) (tk c : Nat), SetR ww h' st.heap.objs.size (fun j => decide (j ∈ ns)) c → c ≤ ns.length → (∀ b o, st.heap.get? b = some o → h'.get? b = some o) → Q (.ref st.heap.objs.size) { st with heap := h', toks := tk }) :
    wpAny (model Pr ww) Ar (call (.type "set") [.ref l]) Q Er st := by
  have hisz : items.size = ns.length := by have q := IntsAre.length hit; rwa [Array.length_toList] at q
  obtain ⟨c, tl, hmro⟩ := F.called_set.mro
  have hmade := F.called_set.made; have hsub := F.called_set.sub
  refine wpAny_call (codeAny_of_tree ?_); show wpAny _ _ (callAny (.type "set") _) _ _ _
  refine wpAny_pure ⟨Code.quiet_builtin _ (by decide +kernel), codeAny_builtin F.entry_type_call ?_⟩; rw [Around.under_plain (weight_type_call_type "set" [.ref l] []) rfl]
  have h1 := F.called_set.notType; have h2 := F.called_set.canCreate; have hct := F.typeCall_set_1 (.ref l)
  repeat (any_goals (first | assumption | wp_step))
  refine codeAny_mono (code_set_led1 (.ref l) (E := Er) (Q₁ := fun obj s₁ => obj = .ref st.heap.objs.size ∧ s₁ = { st with heap := st.heap.push (emptySet ww) }) ⟨rfl, rfl⟩) fun r s₁ hr => ?_
  match r, hr with
  | .error e, hr => exact hr
  | .ok (.ret obj), hr =>
    obtain ⟨rfl, rfl⟩ := hr
    have hS : (st.heap.push (emptySet ww)).get? st.heap.objs.size = some (emptySet ww) := Heap.get?_push_size _ rfl
    have hT : Shared.TypeIs { st with heap := st.heap.push (emptySet ww) } (.ref st.heap.objs.size) "set" := ⟨_, hS, rfl⟩
    have hli := F.called_set.init.lookup; have hbi := F.called_set.init.bind (.ref st.heap.objs.size)
    repeat (any_goals (first | assumption | wp_step))
    refine codeAny_mono (codeAny_call_builtin (R := wants (fun r s₂ => r = .none ∧ ∃ h' tk c, s₂ = { st with heap := h', toks := tk } ∧ SetR ww h' st.heap.objs.size (fun j => decide (j ∈ ns)) c ∧ c ≤ ns.length ∧
        (∀ b o, st.heap.get? b = some o → h'.get? b = some o)) Er) F.called_set.init.plain F.entry_set_init (check_set_init_1 hT ?_)) fun r₂ s₂ hr₂ => ?_
    · obtain ⟨ol, hol, hcl, nl, hdl⟩ := hl
      obtain ⟨ocls, odict, odata, oslots⟩ := ol
      simp only at hcl hdl; subst hcl; subst hdl
      have hol' : (st.heap.push (emptySet ww)).get? l = some { cls := .type "list", dict := odict, data := .seq items nl, slots := oslots } := Heap.get?_push_of_some _ hol
      have hsls := F.sub_list_set; have hslf := F.sub_list_frozenset
      have hne : (Value.type "list" == Value.type "dict") = false := by decide
      have hl1 : (st.heap.push (emptySet ww)).IsList l items := ⟨_, hol', rfl, nl, rfl⟩
      unfold Builtin.«set.__init__» noKeywords Builtin.Frozenset.updateFrom
      (generalize hPI : pyIter = PI); wp_walk
      subst hPI
      refine wpAny_pyIter_list hl1 ?_; refine wpAny_bind (wpAny_runValue ?_)
      have hlS : l < st.heap.objs.size := Heap.lt_size hol
      have hh3 : Ar.in1.in1.in1.handled = none := by simp [hh]
      have hneI : l ≠ (st.heap.push (emptySet ww)).objs.size := by rw [Heap.size_push]; exact Nat.ne_of_lt (Nat.lt_succ_of_lt hlS)
      have hSf : st.heap.objs.size ∉ [(st.heap.push (emptySet ww)).objs.size, l] := by
        rw [Heap.size_push]; simp only [List.mem_cons, List.mem_singleton, List.not_mem_nil, or_false, not_or]; exact ⟨Nat.ne_of_lt (Nat.lt_succ_self _), Nat.ne_of_gt hlS⟩
      have hval : ∀ (i : Nat) (v : Value), items[i]? = some v → ∃ k t, ns[i]? = some k ∧ v = .int k t := fun i v hv => by
        have hi : i < ns.length := by rw [← hisz]; exact (Array.getElem?_eq_some_iff.mp hv).1
        obtain ⟨t, e⟩ := IntsAre.int_at hit i v (by rw [Array.getElem?_toList]; exact hv)
        refine ⟨ns[i], t, List.getElem?_eq_getElem hi, ?_⟩; rw [e, List.getD_eq_getElem?_getD, List.getElem?_eq_getElem hi] <;> rfl
      refine set_update_ints ((Walks.list hh3 _ l hneI items).toS) st.heap.objs.size hSf ns hisz hb hval (items.size - 0) 0 _ (by omega) (Nat.zero_le _) ⟨⟨_, Heap.get?_push_size _ rfl, rfl, rfl⟩, (hl1.push _)⟩ ?hS0 ?hR
      case hS0 =>
        have hget : ((st.heap.push (emptySet ww)).push { cls := .type "list_iterator", data := .fields #[.ref l, .int 0 0] }).get? st.heap.objs.size = some (emptySet ww) := Heap.get?_push_of_some _ hS
        exact ⟨0, Nat.le_refl 0, setR_new_at hget⟩
      case hR =>
        intro s' c' hm hc' hS'
        obtain ⟨h', g2, d', tk', os'⟩ := s'
        have eg : g2 = st.gens := hm.gens
        have ed : d' = st.drawn := hm.drawn
        have eo : os' = st.os := hm.os
        subst eg; subst ed; subst eo
        show wpAny _ _ _ _ _ _
        refine wpAny_pure ?_; show wpAny _ _ (ret Value.none) _ _ _
        rw [hisz] at hc'
        refine wpAny_pure ⟨rfl, h', tk', c', rfl, hS', hc', fun b o e => ?_⟩
        have hb0 : b < st.heap.objs.size := Heap.lt_size e
        have hb1 : b ≠ st.heap.objs.size := Nat.ne_of_lt hb0
        have hb2 : b ≠ (st.heap.push (emptySet ww)).objs.size := by rw [Heap.size_push]; exact Nat.ne_of_lt (Nat.lt_succ_of_lt hb0)
        exact hm.heap b o (by simp only [List.mem_cons, List.mem_singleton, List.not_mem_nil, or_false, not_or]; exact ⟨hb1, hb2⟩) (Heap.get?_push_of_some _ (Heap.get?_push_of_some _ e))
    · match r₂, hr₂ with
      | .error e, hr₂ => exact hr₂
      | .ok (.ret r), hr₂ =>
        obtain ⟨rfl, h', tk, c', rfl, hS', hc', hk'⟩ := hr₂
        repeat (any_goals (first | assumption | wp_step))
        exact h _ _ _ hS' hc' hk'
end
end U
namespace U
open PySem PySem.Calls PyProof.Rows PySem.W L2
section
variable {Pr : Program} {ww : World} {Ar : Around} {Er : Value → Shared → Prop} {st : Shared}
theorem sorted_setI {a : Addr} {S : Int → Bool} {n : Nat} {Q : Value → Shared → Prop} (R : SetR ww st.heap a S n) (hh : Ar.handled = none) (hn0 : n ≤ 4000)
    (hQ : ∀ s' p (out : Array Value) (c : Nat) (ns : List Int), (∀ b o, st.heap.get? b = some o → s'.heap.get? b = some o) → s'.gens = st.gens → s'.os = st.os → st.heap.objs.size ≤ p → s'.heap.get? p = some (seqObj "list" out c) → IntsAre out.toList ns → ns.Pairwise (· < ·) → (∀ k, k ∈ ns ↔ S k = true) → ns.length = n → Q (.ref p) s') :
    wpAny (model Pr ww) Ar (call (.builtin "sorted") [.ref a]) Q Er st := by
  obtain ⟨o, es, ep, t, ho, hex, hd, g, nd, hm, hb, hf, hn, hr, hl⟩ := R
  refine Calls.call_function_entry kind_sorted plain_sorted entry_sorted (args_sorted1 _) ?_
  unfold Builtin.«sorted»
  refine wpAny_bind (m := checkCount "sorted" 1 1 _) (wpAny_pure ?_)
  refine wpAny_bind (collect_set (A := Ar.in1) hh ⟨o, ho, hex.1, hd⟩ hf hb hr hl fun s1 vs k1 hz g1 o1 pm => ?_)
  have hvl : vs.length = n := by rw [pm.length_eq, List.length_map, Array.length_toList]; exact hn
  have hI : IntsAre vs (vs.map Builtin.Re.reRawOf) := ints_of vs fun v hv => by
    obtain ⟨e, he, q⟩ := List.mem_map.mp (pm.mem_iff.mp hv)
    obtain ⟨k, tk, h1, _⟩ := g e he
    exact ⟨k, tk, by rw [← q]; exact h1⟩
  have pk : (vs.map Builtin.Re.reRawOf).Perm (es.toList.map keyOf) := by
    have q := pm.map Builtin.Re.reRawOf; rwa [List.map_map] at q
  have hz1 : vs.length ≤ sizeLine := by rw [hvl, sizeLine_eq]; omega
  refine wpAny_bind (wpAny_newList ?_ hz1)
  have hoL : (s1.heap.push (seqObj "list" vs.toArray 0)).get? s1.heap.objs.size = some (seqObj "list" vs.toArray 0) := Heap.get?_push_size _ rfl
  refine wpAny_bind (wpAny_holding (wpAny_call_entry slot_list_sort ⟨_, hoL, rfl⟩ entry_list_sort (SrtO.list_sort_ord SrtO.swo_int hoL hz1 (fun h2 => SrtO.ints_sortable hI h2) fun out a1 a2 => ⟨_, rfl, ?_⟩) (args_list_sort _)))
  obtain ⟨b1, b2, b3⟩ := SrtO.ints_out hI a1 a2
  obtain ⟨c, hc⟩ := sortedHeap_at (vs := vs) (out := out.toArray) hoL
  have pn : (out.map SrtO.iv).Perm (es.toList.map keyOf) := b2.trans pk
  refine wpAny_pure ⟨_, rfl, hQ _ s1.heap.objs.size out.toArray c _ (fun b u e => ?_) g1 o1 hz hc (by simpa using b1) (lt_of_le_nodup _ b3 (pn.nodup_iff.mpr nd)) (fun k => by rw [pn.mem_iff, ← hm k]) ?_⟩
  · have q := k1 b u e
    have hlt := Heap.lt_size q
    show (sortedHeap (s1.heap.push (seqObj "list" vs.toArray 0)) s1.heap.objs.size vs out.toArray).get? b = some u
    rw [sortedHeap_old (Nat.ne_of_lt hlt) (by rw [size_push']; exact Nat.lt_succ_of_lt hlt)]; exact Heap.get?_push_of_some _ q
  · rw [pn.length_eq, List.length_map, Array.length_toList]; exact hn
end
/-- set(x), x a list or a tuple of numbers, as a callable of values -/
def tSortSet (K : PySem.W.Frag) (ta : TE) : TE := fun σ H Q => ta σ H fun x H1 => ∃ (l : Addr) (ns : List Int), x = .ref l ∧ (SqL K H1 l (ns.map V.int) ∨ SqT K H1 l (ns.map V.int)) ∧ ns.length ≤ 4000 ∧
  ∀ (ys : List Int) (p : Addr), ys.Pairwise (· < ·) → (∀ k, k ∈ ys ↔ k ∈ ns) → H1 p = none → Q (.ref p) (upd H1 p (.lst (ys.map V.int)))
def tLenSet (K : PySem.W.Frag) (ta : TE) : TE := fun σ H Q => ta σ H fun x H1 => ∃ (l : Addr) (ns : List Int), x = .ref l ∧ (SqL K H1 l (ns.map V.int) ∨ SqT K H1 l (ns.map V.int)) ∧ ns.length ≤ 4000 ∧
  ∀ (ys : List Int), ys.Pairwise (· < ·) → (∀ k, k ∈ ys ↔ k ∈ ns) → Q (.int (ys.length : Nat)) H1
section
variable {X : Cx}
theorem set_made {pins : List (Addr × Obj)} {σ : L2.St} {H : Hp} {st : Shared} {l : Addr} {ns : List Int} {Q : Value → Shared → Prop} {Er : Value → Shared → Prop} (hc : X.calm = true) (I : Inv X pins σ H st) (hq : SqL X.K H l (ns.map V.int) ∨ SqT X.K H l (ns.map V.int)) (hn : ns.length ≤ 4000)
    (h : ∀ (s' : Shared) (a : Addr) (c : Nat), Inv X pins σ H s' → SetR X.w s'.heap a (fun j => decide (j ∈ ns)) c → c ≤ ns.length → Q (.ref a) s') : wpAny (model X.prog X.w) X.A (call (.type "set") [.ref l]) Q Er st := by
  rcases hq with hq | hq
  · obtain ⟨its, r, pl, hz⟩ := I.list hq
    refine call_set_listI ns (I.ok.hd hc) pl.isList (by simpa using r.ints) (by unfold scanBound; omega) fun h' tk c hS hc hk => ?_
    exact h _ _ c (I.kept fun b o e => hk b o e) hS hc
  · obtain ⟨its, r, pl, hz⟩ := I.tuple hq
    refine call_set_tupI ns (I.ok.hd hc) pl (by simpa using r.ints) (by unfold scanBound; omega) fun h' tk c hS hc hk => ?_
    exact h _ _ c (I.kept fun b o e => hk b o e) hS hc
theorem pe_sortSet {a : Expr} {ta : TE} {p p2 q pos : Pos} (hc : X.calm = true) (hg : Gl X "sorted") (hm : X.mg "sorted" = none) (hg2 : Gl X "set") (hm2 : X.mg "set" = none) (ha : PE X a ta)
    (na : starEach [a] X.env = (false, eval a X.env) :: starEach [] X.env) : PE X (.Call (.Name "sorted" p) [.Call (.Name "set" p2) [a] [] q] [] pos) (tSortSet X.K ta) := by
  refine ⟨fun pins s σ H Q I h => ?_⟩
  refine Call_ (ld_blt I hg hm (show bootBuiltins "sorted" = some (.builtin "sorted") by decide +kernel) ?_)
  refine callWith_builtin1 (args_cons ?_ rfl) rfl rfl
  refine Call_ (ld_blt I hg2 hm2 PyProof.Rows.boot_set ?_)
  refine callWith_type1 (args_cons (thn (ha.run pins s σ H _ I h) fun v s1 ⟨x, H1, I1, r1, q1⟩ => args_nil ?_) na) na rfl
  obtain ⟨l, ns, rfl, hq, hl, q1⟩ := q1
  cases r1
  refine set_made hc I1 hq hl fun s2 sa c I2 hS hcn => args_nil ?_
  refine sorted_setI hS (I2.ok.hd hc) (Nat.le_trans hcn hl) fun s3 pa out cc ys k3 g3 o3 hp hob hi hs hmem hlen => ?_
  have hlen2 : (ys.map V.int).length ≤ sizeLine := by rw [List.length_map, hlen, sizeLine_eq]; omega
  have hn2 := I2.hok.fresh hp
  have J : Inv X pins σ (upd H1 pa (.lst (ys.map V.int))) { s2 with heap := s3.heap, gens := s3.gens, drawn := s3.drawn, toks := s3.toks } :=
    I2.call (ch := []) (Un.laid k3 hp hn2) (I2.hok.laid k3 hp ⟨hlen2, out.toList, cc, vals_of_ints hi, hob⟩) (by rw [g3]; exact I2.bare) (fun _ z => nomatch z)
  have e3 : s3 = { s2 with heap := s3.heap, gens := s3.gens, drawn := s3.drawn, toks := s3.toks } := by
    cases s3; cases s2; cases o3; rfl
  rw [e3]
  exact ⟨.ref pa, _, J, rfl, q1 ys pa hs (fun k => by rw [hmem]; simp) hn2⟩
theorem rising_of (S : List Int) : ∃ ys : List Int, ys.Pairwise (· < ·) ∧ (∀ k, k ∈ ys ↔ k ∈ S) := by
  induction S with
  | nil => exact ⟨[], .nil, fun k => Iff.rfl⟩
  | cons x S ih =>
    obtain ⟨ys, h1, h2⟩ := ih
    by_cases hx : x ∈ ys
    · exact ⟨ys, h1, fun k => by rw [h2, List.mem_cons]; exact ⟨.inr, fun h => h.elim (fun e => by rw [e]; exact (h2 x).mp hx) id⟩⟩
    · refine ⟨ys.filter (fun y => decide (y < x)) ++ x :: ys.filter (fun y => decide (x < y)), ?_, fun k => ?_⟩
      · refine List.pairwise_append.mpr ⟨h1.filter _, List.pairwise_cons.mpr ⟨fun y hy => ?_, h1.filter _⟩, fun a ha b hb => ?_⟩
        · exact of_decide_eq_true (List.mem_filter.mp hy).2
        · have a1 : a < x := of_decide_eq_true (List.mem_filter.mp ha).2
          rcases List.mem_cons.mp hb with rfl | hb
          · exact a1
          · exact Int.lt_trans a1 (of_decide_eq_true (List.mem_filter.mp hb).2)
      · rw [List.mem_append, List.mem_cons, List.mem_filter, List.mem_filter, List.mem_cons, ← h2 k, decide_eq_true_eq, decide_eq_true_eq]
        constructor
        · rintro (h | h | h)
          · exact .inr h.1
          · exact .inl h
          · exact .inr h.1
        · rintro (h | h)
          · exact .inr (.inl h)
          · rcases Int.lt_trichotomy k x with c | c | c
            · exact .inl ⟨h, c⟩
            · exact .inr (.inl c)
            · exact .inr (.inr ⟨h, c⟩)
theorem setR_len {h : Heap} {a : Addr} {S : List Int} {c : Nat} {ys : List Int} {ww : World} (R : SetR ww h a (fun j => decide (j ∈ S)) c) (h1 : ys.Pairwise (· < ·)) (h2 : ∀ k, k ∈ ys ↔ k ∈ S) : ys.length = c := by
  obtain ⟨o, es, ep, t, ho, hex, hd, g, nd, hm, hb, hf, hn, hr, hl⟩ := R
  have p : ys.Perm (es.toList.map keyOf) := (List.perm_ext_iff_of_nodup (h1.imp fun h => by omega) nd).mpr fun k => by rw [← hm k, h2]; simp
  rw [p.length_eq, List.length_map, Array.length_toList]; exact hn
theorem pe_lenSet {a : Expr} {ta : TE} {p p2 q pos : Pos} (hc : X.calm = true) (hg : Gl X "len") (hm : X.mg "len" = none) (hg2 : Gl X "set") (hm2 : X.mg "set" = none) (ha : PE X a ta)
    (na : starEach [a] X.env = (false, eval a X.env) :: starEach [] X.env) : PE X (.Call (.Name "len" p) [.Call (.Name "set" p2) [a] [] q] [] pos) (tLenSet X.K ta) := by
  refine ⟨fun pins s σ H Q I h => ?_⟩
  refine Call_ (ld_blt I hg hm boot_len ?_)
  refine callWith_builtin1 (args_cons ?_ rfl) rfl rfl
  refine Call_ (ld_blt I hg2 hm2 PyProof.Rows.boot_set ?_)
  refine callWith_type1 (args_cons (thn (ha.run pins s σ H _ I h) fun v s1 ⟨x, H1, I1, r1, q1⟩ => args_nil ?_) na) na rfl
  obtain ⟨l, ns, rfl, hq, hl, q1⟩ := q1
  cases r1
  refine set_made hc I1 hq hl fun s2 sa c I2 hS hcn => args_nil ?_
  obtain ⟨ys, y1, y2⟩ := rising_of ns
  have hlen := setR_len hS y1 y2
  obtain ⟨o, es, ep, t, ho, hex, hd, g, nd, hm, hb, hf, hn, hr, hl2⟩ := hS
  refine call_len_set ho hex hd hf (by rw [hn]; omega) ⟨.int ys.length, H1, I2.tok _, ⟨_, by rw [hn, hlen]⟩, q1 ys y1 y2⟩
end
end U

/-! U15r: sets and dicts of numbers put in order, by data. -/
namespace U
open PySem PySem.Calls PyProof.Rows PySem.W L2
def putI (x : Int) : List Int → List Int
  | [] => [x]
  | y :: ys => if x < y then x :: y :: ys else if x = y then y :: ys else y :: putI x ys
/-- rising, each once -/
def setI (is : List Int) : List Int := is.foldr putI []
theorem putI_mem (x k : Int) : ∀ ys : List Int, k ∈ putI x ys ↔ k = x ∨ k ∈ ys
  | [] => by simp [putI]
  | y :: ys => by
    rw [putI]
    split
    · simp
    · split
      · rename_i e; subst e; simp
      · rw [List.mem_cons, putI_mem x k ys, List.mem_cons]; exact ⟨fun h => by rcases h with h | h | h <;> simp [h], fun h => by rcases h with h | h | h <;> simp [h]⟩
theorem putI_up (x : Int) : ∀ ys : List Int, ys.Pairwise (· < ·) → (putI x ys).Pairwise (· < ·)
  | [], _ => by simp [putI]
  | y :: ys, h => by
    obtain ⟨h1, h2⟩ := List.pairwise_cons.mp h
    rw [putI]
    split
    · rename_i hx
      exact List.pairwise_cons.mpr ⟨fun z hz => (List.mem_cons.mp hz).elim (fun e => by rw [e]; exact hx) (fun hz => Int.lt_trans hx (h1 z hz)), h⟩
    · split
      · exact h
      · exact List.pairwise_cons.mpr ⟨fun z hz => ((putI_mem x z ys).mp hz).elim (fun e => by omega) (fun hz => h1 z hz), putI_up x ys h2⟩
theorem setI_mem (k : Int) : ∀ is : List Int, k ∈ setI is ↔ k ∈ is
  | [] => Iff.rfl
  | i :: is => by rw [setI, List.foldr_cons, putI_mem, List.mem_cons, ← setI_mem k is]; rfl
theorem setI_up : ∀ is : List Int, (setI is).Pairwise (· < ·)
  | [] => .nil
  | i :: is => putI_up i _ (setI_up is)
theorem up_uniq : ∀ {xs ys : List Int}, xs.Pairwise (· < ·) → ys.Pairwise (· < ·) → (∀ k, k ∈ xs ↔ k ∈ ys) → xs = ys
  | [], [], _, _, _ => rfl
  | [], y :: ys, _, _, h => absurd ((h y).mpr List.mem_cons_self) (by simp)
  | x :: xs, [], _, _, h => absurd ((h x).mp List.mem_cons_self) (by simp)
  | x :: xs, y :: ys, h1, h2, h => by
    obtain ⟨a1, a2⟩ := List.pairwise_cons.mp h1
    obtain ⟨b1, b2⟩ := List.pairwise_cons.mp h2
    have e : x = y := by
      rcases List.mem_cons.mp ((h x).mp List.mem_cons_self) with e | m
      · exact e
      · rcases List.mem_cons.mp ((h y).mpr List.mem_cons_self) with e | m'
        · exact e.symm
        · have := b1 x m; have := a1 y m'; omega
    subst e
    rw [up_uniq a2 b2 fun k => ⟨fun m => ?_, fun m => ?_⟩]
    · exact (List.mem_cons.mp ((h k).mp (List.mem_cons_of_mem _ m))).elim (fun e => by have := a1 k m; omega) id
    · exact (List.mem_cons.mp ((h k).mpr (List.mem_cons_of_mem _ m))).elim (fun e => by have := b1 k m; omega) id
def dSeqI : D → Option (List Int)
  | .lst ds => allI ds
  | .tup ds => allI ds
  | .fz ds => allI ds
  | _ => none
def dSortSet (d : D) : Option D := match dSeqI d with
  | some is => if is.length ≤ 4000 then some (.lst ((setI is).map D.int)) else none
  | none => none
def dLenSet (d : D) : Option D := match dSeqI d with
  | some is => if is.length ≤ 4000 then some (.int ((setI is).length : Nat)) else none
  | none => none
theorem repL_ints {K : PySem.W.Frag} {H : Hp} : ∀ is : List Int, RepL K H (is.map D.int) (is.map V.int) []
  | [] => by simp [RepL]
  | i :: is => by
    simp only [List.map_cons, RepL]
    exact ⟨_, _, [], [], rfl, rfl, by simp [Rep], repL_ints is⟩
theorem seqI_rep {K : PySem.W.Frag} {H : Hp} {d : D} {v : V} {F : List Addr} {is : List Int} (r : Rep K H d v F) (e : dSeqI d = some is) : ∃ l, v = .ref l ∧ (SqL K H l (is.map V.int) ∨ SqT K H l (is.map V.int)) := by
  cases d with
  | lst ds =>
    simp only [Rep] at r
    obtain ⟨a, xs, G, rfl, rl, ha, rfl⟩ := r
    have := allI_rep rl e
    subst this
    exact ⟨a, rfl, .inl (.inl (.inl ha))⟩
  | tup ds =>
    simp only [Rep] at r
    obtain ⟨a, xs, rfl, ha, rl⟩ := r
    have := allI_rep rl e
    subst this
    exact ⟨a, rfl, .inr (.inl (.inl ha))⟩
  | fz ds =>
    simp only [Rep] at r
    obtain ⟨a, xs, rfl, ha, rl⟩ := r
    have := allI_rep rl e
    subst this
    exact ⟨a, rfl, .inl ha.sq⟩
  | non => cases e
  | bl b => cases e
  | int i => cases e
  | str x => cases e
  | ty n => cases e
  | dct ks ds => cases e
  | lk ks ds => cases e
theorem run_sortSet {K : PySem.W.Frag} : RUn K (fun x H1 Q => ∃ (l : Addr) (ns : List Int), x = .ref l ∧ (SqL K H1 l (ns.map V.int) ∨ SqT K H1 l (ns.map V.int)) ∧ ns.length ≤ 4000 ∧
  ∀ (ys : List Int) (p : Addr), ys.Pairwise (· < ·) → (∀ k, k ∈ ys ↔ k ∈ ns) → H1 p = none → Q (.ref p) (upd H1 p (.lst (ys.map V.int)))) dSortSet := by
  intro d1 d e H v F r Q q
  unfold dSortSet at e
  split at e
  · rename_i is h
    split at e
    · rename_i hl
      cases e
      obtain ⟨l, rfl, hs⟩ := seqI_rep r h
      refine ⟨l, is, rfl, hs, hl, fun ys p h1 h2 hn => ?_⟩
      have : ys = setI is := up_uniq h1 (setI_up is) fun k => by rw [h2, setI_mem]
      subst this
      exact q (.ref p) _ [p] (New.one hn) (Rep.lst_of upd_same (repL_ints _))
    · cases e
  · cases e
theorem run_lenSet {K : PySem.W.Frag} : RUn K (fun x H1 Q => ∃ (l : Addr) (ns : List Int), x = .ref l ∧ (SqL K H1 l (ns.map V.int) ∨ SqT K H1 l (ns.map V.int)) ∧ ns.length ≤ 4000 ∧
  ∀ (ys : List Int), ys.Pairwise (· < ·) → (∀ k, k ∈ ys ↔ k ∈ ns) → Q (.int (ys.length : Nat)) H1) dLenSet := by
  intro d1 d e H v F r Q q
  unfold dLenSet at e
  split at e
  · rename_i is h
    split at e
    · rename_i hl
      cases e
      obtain ⟨l, rfl, hs⟩ := seqI_rep r h
      refine ⟨l, is, rfl, hs, hl, fun ys h1 h2 => ?_⟩
      have : ys = setI is := up_uniq h1 (setI_up is) fun k => by rw [h2, setI_mem]
      subst this
      exact q _ _ [] (New.nil H) (by simp [Rep])
    · cases e
  · cases e
section
variable {G : Gb} {S : Sc} {a : Expr} {ta : TE} {ma : M} {p p2 q pos : Pos}
theorem b_sortSet (hm : G.mg "sorted" = none) (hg : globOk S "sorted" = true) (hm2 : G.mg "set" = none) (hg2 : globOk S "set" = true) (ha : BE G S a ta ma) (h1 : ∀ env, starEach [a] env = (false, eval a env) :: starEach [] env := by intro _; rfl) :
    BE G S (.Call (.Name "sorted" p) [.Call (.Name "set" p2) [a] [] q] [] pos) (tSortSet G.K ta) (mUn dSortSet ma) :=
  ⟨fun X g => by
    have := pe_sortSet (p := p) (p2 := p2) (q := q) (pos := pos) g.calm (globOk_gl g hg).1 (by rw [g.mg]; exact hm) (globOk_gl g hg2).1 (by rw [g.mg]; exact hm2) (ha.pe X g) (h1 X.env)
    rwa [g.K] at this, so_unary (ta := ta) run_sortSet ha.so⟩
theorem b_lenSet (hm : G.mg "len" = none) (hg : globOk S "len" = true) (hm2 : G.mg "set" = none) (hg2 : globOk S "set" = true) (ha : BE G S a ta ma) (h1 : ∀ env, starEach [a] env = (false, eval a env) :: starEach [] env := by intro _; rfl) :
    BE G S (.Call (.Name "len" p) [.Call (.Name "set" p2) [a] [] q] [] pos) (tLenSet G.K ta) (mUn dLenSet ma) :=
  ⟨fun X g => by
    have := pe_lenSet (p := p) (p2 := p2) (q := q) (pos := pos) g.calm (globOk_gl g hg).1 (by rw [g.mg]; exact hm) (globOk_gl g hg2).1 (by rw [g.mg]; exact hm2) (ha.pe X g) (h1 X.env)
    rwa [g.K] at this, so_unary (ta := ta) run_lenSet ha.so⟩
end
/-! ### sorted(x), list(x) of a dict, too -/
def keysI : List Key → Option (List Int)
  | [] => some []
  | .inl i :: ks => (keysI ks).map (i :: ·)
  | .inr _ :: _ => none
theorem keysI_eq : ∀ {ks : List Key} {is : List Int}, keysI ks = some is → ks = is.map Sum.inl
  | [], is, e => by cases e; rfl
  | .inl i :: ks, is, e => by
    simp only [keysI, Option.map_eq_some_iff] at e
    obtain ⟨js, e1, rfl⟩ := e
    rw [keysI_eq e1]; rfl
  | .inr _ :: _, is, e => by cases e
/-- rising -/
def risI (is : List Int) : List Int := is.mergeSort fun x y => decide (x ≤ y)
theorem risI_up (is : List Int) : (risI is).Pairwise (· ≤ ·) := by
  have := List.pairwise_mergeSort (le := fun x y : Int => decide (x ≤ y)) (fun a b c h1 h2 => by
    simp only [decide_eq_true_eq] at *; omega) (fun a b => by simp only [Bool.or_eq_true, decide_eq_true_eq]; omega) is
  exact this.imp fun h => by simpa using h
theorem ris_uniq {xs ys : List Int} (hp : xs.Perm ys) (h1 : xs.Pairwise (· ≤ ·)) (h2 : ys.Pairwise (· ≤ ·)) : xs = ys := List.Perm.eq_of_pairwise (fun a b _ _ h h' => by omega) h1 h2 hp
def cSortX : List D → Option D
  | [.dct ks _] => match keysI ks with
    | some is => some (.lst ((risI is).map D.int))
    | none => none
  | ds => cSortB ds
def rSortedX (K : PySem.W.Frag) : List V → Hp → VK → Prop := fun vs H Q => rSortedB K vs H Q ∨ rSortedDi vs H Q
theorem rc_sortX {K : PySem.W.Frag} : RCall K (rSortedX K) cSortX := by
  intro ds d e H vs rs Q q
  unfold cSortX at e
  split at e
  · split at e
    · rename_i x0 ks vs' x1 is h
      cases e
      obtain ⟨v, F, rfl, r⟩ := rs.one
      simp only [Rep] at r
      obtain ⟨a, xs, G, rfl, ha, hl, rl, rfl⟩ := r
      refine .inr ⟨a, ks.zip xs, is, rfl, .inl ha, ?_, fun ys p h1 h2 hn => ?_⟩
      · rw [← keysI_eq h]
        exact List.map_fst_zip (by omega)
      · have : ys = risI is := ris_uniq (h1.trans (List.mergeSort_perm is _).symm) h2 (risI_up is)
        subst this
        exact q (.ref p) _ [p] (New.one hn) (Rep.lst_of upd_same (repL_ints _))
    · cases e
  · exact .inl (rc_sortB _ d e H vs rs Q q)
theorem b_sortX {G : Gb} {S : Sc} {p pos : Pos} {e : Expr} {t : TA} {m : MA} (hm : G.mg "sorted" = none) (hg : globOk S "sorted" = true) (ha : BA G S [e] t m) (h1 : ∀ env, starEach [e] env = [(false, eval e env)] := by intro _; rfl) : BE G S (.Call (.Name "sorted" p) [e] [] pos) (tCB (rSortedX G.K) t) (mCB cSortX m) :=
  b_callB (fun X g => fun pins s σ H xs us Q I r h => h.elim (fun h => h.elim (fun h => by rw [← g.K] at h; exact cr_sortedD (by have := units65 g; omega) pins s σ H xs us Q I r h) (fun h => by rw [← g.K] at h; exact cr_sortedDT (by have := units65 g; omega) pins s σ H xs us Q I r h)) (fun h => cr_sortedDi g.calm pins s σ H xs us Q I r h)) rc_sortX (by decide +kernel) hm hg ha h1 (by intro _; rfl)
def rListX (K : PySem.W.Frag) : List V → Hp → VK → Prop := fun xs H Q => (∃ p ys, xs = [.ref p] ∧ (SqL K H p ys ∨ SqT K H p ys) ∧ ∀ l, H l = none → Q (.ref l) (upd H l (.lst ys))) ∨
  ∃ (a : Addr) (kvs : List (Key × V)), xs = [.ref a] ∧ Rd H a (.dK kvs) ∧ ∀ p, H p = none → Q (.ref p) (upd H p (.lst (kvs.map fun kv => kV kv.1)))
def cListX : List D → Option D
  | [.dct ks _] => match keysI ks with
    | some is => some (.lst (is.map D.int))
    | none => none
  | ds => cList ds
theorem rc_listX {K : PySem.W.Frag} : RCall K (rListX K) cListX := by
  intro ds d e H vs rs Q q
  unfold cListX at e
  split at e
  · split at e
    · rename_i x0 ks vs' x1 is h
      cases e
      obtain ⟨v, F, rfl, r⟩ := rs.one
      simp only [Rep] at r
      obtain ⟨a, xs, G, rfl, ha, hl, rl, rfl⟩ := r
      refine .inr ⟨a, ks.zip xs, rfl, .inl ha, fun p hn => ?_⟩
      have e1 : ((ks.zip xs).map fun kv => kV kv.1) = is.map V.int := by
        have : (ks.zip xs).map (·.1) = ks := List.map_fst_zip (by omega)
        have e2 := congrArg (List.map kV) this
        rw [List.map_map] at e2
        exact e2.trans (by rw [keysI_eq h, List.map_map]; rfl)
      rw [e1]
      exact q (.ref p) _ [p] (New.one hn) (Rep.lst_of upd_same (repL_ints _))
    · cases e
  · exact .inl (rc_list _ d e H vs rs Q q)
theorem b_listX {G : Gb} {S : Sc} {p pos : Pos} {e : Expr} {t : TA} {m : MA} (hm : G.mg "list" = none) (hg : globOk S "list" = true) (ha : BA G S [e] t m) (h1 : ∀ env, starEach [e] env = [(false, eval e env)] := by intro _; rfl) : BE G S (.Call (.Name "list" p) [e] [] pos) (tCB (rListX G.K) t) (mCB cListX m) :=
  b_callT (fun X g => fun pins s σ H xs us Q I r h => h.elim (fun h => by rw [← g.K] at h; exact call_list_of pins s σ H xs us Q I r h) (fun h => call_listD g.calm pins s σ H xs us Q I r h)) rc_listX (by decide +kernel) hm hg ha h1 (by intro _; rfl)
end U

/-! W18: sets and dicts put in order, in the walk. -/
namespace U.P
open PySem L2 U
def putN (x : Nat) : List Nat → List Nat
  | [] => [x]
  | y :: ys => if x < y then x :: y :: ys else if x = y then y :: ys else y :: putN x ys
/-- rising, each once -/
def setN (xs : List Nat) : List Nat := xs.foldr putN []
theorem putN_mem (x k : Nat) : ∀ ys : List Nat, k ∈ putN x ys ↔ k = x ∨ k ∈ ys
  | [] => by simp [putN]
  | y :: ys => by
    rw [putN]
    split
    · simp
    · split
      · rename_i e; subst e; simp
      · rw [List.mem_cons, putN_mem x k ys, List.mem_cons]
        exact ⟨fun h => by rcases h with h | h | h <;> simp [h], fun h => by rcases h with h | h | h <;> simp [h]⟩
theorem putN_up (x : Nat) : ∀ ys : List Nat, ys.Pairwise (· < ·) → (putN x ys).Pairwise (· < ·)
  | [], _ => by simp [putN]
  | y :: ys, h => by
    obtain ⟨h1, h2⟩ := List.pairwise_cons.mp h
    rw [putN]
    split
    · rename_i hx
      exact List.pairwise_cons.mpr ⟨fun z hz => (List.mem_cons.mp hz).elim (fun e => by rw [e]; exact hx) (fun hz => Nat.lt_trans hx (h1 z hz)), h⟩
    · split
      · exact h
      · exact List.pairwise_cons.mpr ⟨fun z hz => ((putN_mem x z ys).mp hz).elim (fun e => by omega) (fun hz => h1 z hz), putN_up x ys h2⟩
theorem setN_mem {k : Nat} : ∀ {xs : List Nat}, k ∈ setN xs ↔ k ∈ xs
  | [] => Iff.rfl
  | i :: is => by rw [setN, List.foldr_cons, putN_mem, List.mem_cons, ← setN_mem (xs := is)]; rfl
theorem setN_up : ∀ xs : List Nat, (setN xs).Pairwise (· < ·)
  | [] => .nil
  | i :: is => putN_up i _ (setN_up is)
theorem upN_uniq : ∀ {xs ys : List Nat}, xs.Pairwise (· < ·) → ys.Pairwise (· < ·) → (∀ k, k ∈ xs ↔ k ∈ ys) → xs = ys
  | [], [], _, _, _ => rfl
  | [], y :: ys, _, _, h => absurd ((h y).mpr List.mem_cons_self) (by simp)
  | x :: xs, [], _, _, h => absurd ((h x).mp List.mem_cons_self) (by simp)
  | x :: xs, y :: ys, h1, h2, h => by
    obtain ⟨a1, a2⟩ := List.pairwise_cons.mp h1
    obtain ⟨b1, b2⟩ := List.pairwise_cons.mp h2
    have e : x = y := by
      rcases List.mem_cons.mp ((h x).mp List.mem_cons_self) with e | m
      · exact e
      · rcases List.mem_cons.mp ((h y).mpr List.mem_cons_self) with e | m'
        · exact e.symm
        · have := b1 x m; have := a1 y m'; omega
    subst e
    rw [upN_uniq a2 b2 fun k => ⟨fun m => ?_, fun m => ?_⟩]
    · exact (List.mem_cons.mp ((h k).mp (List.mem_cons_of_mem _ m))).elim (fun e => by have := a1 k m; omega) id
    · exact (List.mem_cons.mp ((h k).mpr (List.mem_cons_of_mem _ m))).elim (fun e => by have := b1 k m; omega) id
theorem putN_len (x : Nat) : ∀ ys : List Nat, (putN x ys).length ≤ ys.length + 1
  | [] => by simp [putN]
  | y :: ys => by
    have := putN_len x ys
    rw [putN]
    split
    · simp
    · split
      · simp
      · simp only [List.length_cons]; omega
theorem setN_len : ∀ xs : List Nat, (setN xs).length ≤ xs.length
  | [] => Nat.le_refl _
  | i :: is => by
    have := setN_len is
    have h2 := putN_len i (setN is)
    show (putN i (setN is)).length ≤ is.length + 1
    omega
theorem setN_nodup (xs : List Nat) : (setN xs).Nodup := (setN_up xs).imp fun h => by omega
theorem putI_nat (x : Nat) : ∀ ys : List Nat, putI (x : Int) (ys.map fun n : Nat => (n : Int)) = (putN x ys).map fun n : Nat => (n : Int)
  | [] => rfl
  | y :: ys => by
    rw [List.map_cons, putI, putN]
    by_cases h : x < y
    · rw [if_pos (by omega), if_pos h]; rfl
    · rw [if_neg (by omega), if_neg h]
      by_cases e : x = y
      · rw [if_pos (by omega), if_pos e]; rfl
      · rw [if_neg (by omega), if_neg e, putI_nat x ys]; rfl
theorem setI_nat : ∀ xs : List Nat, setI (xs.map fun n : Nat => (n : Int)) = (setN xs).map fun n : Nat => (n : Int)
  | [] => rfl
  | x :: xs => by
    show putI (x : Int) (setI (xs.map fun n : Nat => (n : Int))) = _
    rw [setI_nat xs, putI_nat]; rfl
theorem allI_nat : ∀ xs : List Nat, allI (xs.map nD) = some (xs.map fun n : Nat => (n : Int))
  | [] => rfl
  | x :: xs => by rw [List.map_cons, allI, allI_nat xs]; rfl
theorem map_nD (xs : List Nat) : (xs.map fun n : Nat => (n : Int)).map D.int = xs.map nD := by rw [List.map_map]; rfl
/-- a row of numbers without twice, put in order -/
theorem sort_nodup {l xs : List Nat} (h : ∀ n, n ∈ l ↔ n ∈ xs) (nd : l.Nodup) : sortN l = setN xs := by
  refine upN_uniq ?_ (setN_up xs) fun k => by rw [sortN_mem, h, setN_mem]
  have n2 : (sortN l).Nodup := (sortN_perm l).nodup_iff.mpr nd
  exact (sortN_le l).imp₂ (fun a b h1 h2 => by omega) n2
theorem keysI_nat : ∀ l : List Nat, keysI (l.map kN) = some (l.map fun n : Nat => (n : Int))
  | [] => rfl
  | x :: xs => by rw [List.map_cons, keysI, keysI_nat xs]; rfl
theorem risI_nat (l : List Nat) : risI (l.map fun n : Nat => (n : Int)) = (sortN l).map fun n : Nat => (n : Int) := by
  unfold risI sortN
  rw [List.map_mergeSort]
  intro a _ b _
  by_cases h : a ≤ b
  · have : (a : Int) ≤ b := by omega
    simp [h]
  · have : ¬ (a : Int) ≤ b := by omega
    simp [h]
section
variable {Q : D → Prop} {xs l : List Nat} {ds : List D}
instance q_sortSetL : St (W1 (dSortSet (.lst (xs.map nD))) Q) (WP (xs.length ≤ 4000) (Q (.lst ((setN xs).map nD)))) := ⟨fun ⟨h, q⟩ => ⟨_, by
  simp only [dSortSet, dSeqI, allI_nat, List.length_map, if_pos h, setI_nat, map_nD], q⟩⟩
instance q_sortSetT : St (W1 (dSortSet (.tup (xs.map nD))) Q) (WP (xs.length ≤ 4000) (Q (.lst ((setN xs).map nD)))) := ⟨fun ⟨h, q⟩ => ⟨_, by
  simp only [dSortSet, dSeqI, allI_nat, List.length_map, if_pos h, setI_nat, map_nD], q⟩⟩
instance q_lenSetL : St (W1 (dLenSet (.lst (xs.map nD))) Q) (WP (xs.length ≤ 4000) (Q (.int ((setN xs).length : Nat)))) := ⟨fun ⟨h, q⟩ => ⟨_, by
  simp only [dLenSet, dSeqI, allI_nat, List.length_map, if_pos h, setI_nat], q⟩⟩
instance q_lenSetT : St (W1 (dLenSet (.tup (xs.map nD))) Q) (WP (xs.length ≤ 4000) (Q (.int ((setN xs).length : Nat)))) := ⟨fun ⟨h, q⟩ => ⟨_, by
  simp only [dLenSet, dSeqI, allI_nat, List.length_map, if_pos h, setI_nat], q⟩⟩
instance q_sortXd : St (W1 (cSortX [mD l]) Q) (Q (.lst ((sortN l).map nD))) := ⟨fun q => ⟨_, by
  simp only [cSortX, mD, keysI_nat, risI_nat, map_nD], q⟩⟩
instance q_sortXL : St (W1 (cSortX [.lst ds]) Q) (W1 (cSortD false [.lst ds]) Q) := ⟨fun q => q⟩
instance q_sortXT : St (W1 (cSortX [.tup ds]) Q) (W1 (cSortB [.tup ds]) Q) := ⟨fun q => q⟩
instance q_listXd : St (W1 (cListX [mD l]) Q) (Q (.lst (l.map nD))) := ⟨fun q => ⟨_, by
  simp only [cListX, mD, keysI_nat, map_nD], q⟩⟩
end
end U.P

/-! B17: rows put in order, pairs of two parts (law k63). -/
namespace U.P
open PySem L2 U
theorem sortN_uniq {l m : List Nat} (p : l.Perm m) (h : m.Pairwise (· ≤ ·)) : sortN l = m :=
  List.Perm.eq_of_pairwise (fun a b _ _ h h' => by omega) (sortN_le l) h ((sortN_perm l).trans p)
theorem sortN_self {m : List Nat} (h : m.Pairwise (· ≤ ·)) : sortN m = m := sortN_uniq (List.Perm.refl m) h
theorem sortN_idem (l : List Nat) : sortN (sortN l) = sortN l := sortN_self (sortN_le l)
theorem sortN_perm2 {l m : List Nat} (p : l.Perm m) : sortN l = sortN m := sortN_uniq (p.trans (sortN_perm m).symm) (sortN_le m)
theorem fall_rev {l m : List Nat} (p : l.Perm m) (h : l.Pairwise (· ≥ ·)) : l = (sortN m).reverse := by
  have : l.reverse = sortN m := (sortN_uniq ((List.reverse_perm l).trans p).symm (by rw [List.pairwise_reverse]; exact h)).symm
  rw [← this, List.reverse_reverse]
theorem fars_len2 : ∀ xs : List Nat, 2 * (fars xs).length = xs.length * (xs.length - 1)
  | [] => rfl
  | y :: l => by
    have ih := fars_len2 l
    rw [fars, List.length_append, List.length_map, List.length_cons, Nat.mul_add, ih]
    cases l with
    | nil => rfl
    | cons z m =>
      simp only [List.length_cons, Nat.add_sub_cancel]
      rw [Nat.mul_comm (m.length + 1) m.length, ← Nat.add_mul]
      congr 1
      omega
theorem fars_len (xs : List Nat) : (fars xs).length = xs.length * (xs.length - 1) / 2 := by
  have := fars_len2 xs
  omega
theorem fars_app (P : Nat → Bool) (B : List Nat) : ∀ A : List Nat, (fars (A ++ B)).countP P = (fars A).countP P + (fars B).countP P + (A.map fun a => B.countP fun b => P (a ^^^ b)).sum
  | [] => by simp [fars]
  | a :: A => by
    rw [List.cons_append, fars, fars, List.countP_append, List.countP_append, fars_app P B A, List.map_append, List.countP_append, List.map_cons, List.sum_cons, List.countP_map (l := B)]
    simp only [Function.comp_def]
    omega
theorem idx_sorted {v : Nat} : ∀ {l : List Nat} {j : Nat}, l.Pairwise (· ≤ ·) → (l.findIdx? fun y => decide (y = v)) = some j → j = l.countP fun x => decide (x < v)
  | [], j, _, h => nomatch h
  | y :: l, j, hp, h => by
    obtain ⟨h1, h2⟩ := List.pairwise_cons.mp hp
    rw [List.findIdx?_cons] at h
    by_cases e : y = v
    · rw [if_pos (decide_eq_true e)] at h
      subst e
      have : (l.countP fun x => decide (x < y)) = 0 := List.countP_eq_zero.mpr fun x hx => by have := h1 x hx; simp; omega
      rw [List.countP_cons, this, ← Option.some.inj h]; simp
    · rw [if_neg (by simpa using e)] at h
      obtain ⟨i, hi, rfl⟩ := Option.map_eq_some_iff.mp h
      have hm : v ∈ l := by
        obtain ⟨hl, hv, _⟩ := List.findIdx?_eq_some_iff_getElem.mp hi
        have : l[i] = v := by simpa using hv
        rw [← this]; exact List.getElem_mem hl
      have hlt := h1 v hm
      rw [List.countP_cons, if_pos (by simp; omega), ← idx_sorted h2 hi]
theorem sum_count {n : Nat} : ∀ {l : List Nat}, (∀ x ∈ l, x < n) → ((List.range n).map fun v => l.count v).sum = l.length
  | [], _ => by
    rw [sum_zero] <;> simp
  | y :: l, h => by
    have ih := sum_count (n := n) (l := l) fun x hx => h x (List.mem_cons_of_mem _ hx)
    have hy := h y List.mem_cons_self
    have e : ((List.range n).map fun v => (y :: l).count v) = (List.range n).map fun v => l.count v + (if y = v then 1 else 0) * 1 := by
      refine List.map_congr_left fun v _ => ?_
      rw [List.count_cons]
      by_cases q : y = v <;> simp [q]
    rw [e, sum_add, ih, sum_one List.nodup_range (List.mem_range.mpr hy)]
    rfl
end U.P

/-! B21: branches both of whose halves hold some of a row. -/
namespace U.P
open U
abbrev kB (p : Nat × Nat) : List Int := [(p.1 : Int), (p.2 : Int)]
theorem kB_inj (p q : Nat × Nat) (h : kB p = kB q) : p = q := by
  simp only [kB, List.cons.injEq, and_true] at h
  exact Prod.ext (by omega) (by omega)
abbrev adjN (S : List Nat) : List (Nat × Nat) := S.zip (S.drop 1)
/-- where two numbers part -/
def spOf (w : Nat) (p : Nat × Nat) : Nat × Nat := (w - ((p.1 ^^^ p.2).log2 + 1), p.1 / 2 ^ ((p.1 ^^^ p.2).log2 + 1))
def splN (xs : List Nat) (w : Nat) : List (Nat × Nat) := sortK false kB ((adjN (setN xs)).map (spOf w))
/-- both halves of a branch hold some -/
def SpB (xs : List Nat) (w : Nat) (p : Nat × Nat) : Prop := p.1 < w ∧ (∃ a ∈ xs, a / 2 ^ (w - p.1 - 1) = 2 * p.2) ∧ ∃ b ∈ xs, b / 2 ^ (w - p.1 - 1) = 2 * p.2 + 1
theorem xor_z {a b : Nat} (h : a ^^^ b = 0) : a = b := by
  have : a ^^^ (a ^^^ b) = a ^^^ 0 := by rw [h]
  rw [← Nat.xor_assoc, Nat.xor_self, Nat.zero_xor, Nat.xor_zero] at this
  exact this.symm
theorem xor_m2 (u v : Nat) : (u ^^^ v) % 2 = (u + v) % 2 := by
  have := @Nat.xor_mod_two_eq_one u v
  omega
theorem xor_one_lt {u v : Nat} (h : u ^^^ v = 1) (hu : u ≤ v) : u % 2 = 0 ∧ v = u + 1 := by
  have h1 : (u ^^^ v) / 2 = u / 2 ^^^ v / 2 := by simpa using shr_xor' u v 1
  have h2 := xor_m2 u v
  rw [h] at h1 h2
  have h3 : u / 2 = v / 2 := xor_z h1.symm
  omega
theorem one_xor (h : Nat) : (2 * h) ^^^ (2 * h + 1) = 1 := by
  have h1 : ((2 * h) ^^^ (2 * h + 1)) / 2 = (2 * h) / 2 ^^^ (2 * h + 1) / 2 := by simpa using shr_xor' (2 * h) (2 * h + 1) 1
  have h2 : ((2 * h) ^^^ (2 * h + 1)) % 2 = (2 * h + (2 * h + 1)) % 2 := xor_m2 _ _
  rw [show (2 * h) / 2 = h by omega, show (2 * h + 1) / 2 = h by omega, Nat.xor_self] at h1
  omega
theorem log_div {x : Nat} (h : x ≠ 0) : x / 2 ^ x.log2 = 1 := by
  have h1 := Nat.log2_self_le h
  have h2 := Nat.lt_log2_self (n := x)
  rw [Nat.pow_succ] at h2
  refine Nat.le_antisymm (Nat.le_of_lt_succ ((Nat.div_lt_iff_lt_mul (Nat.two_pow_pos _)).mpr (by omega))) ((Nat.le_div_iff_mul_le (Nat.two_pow_pos _)).mpr (by omega))
theorem log_of {x m : Nat} (h : x / 2 ^ m = 1) : x ≠ 0 ∧ x.log2 = m := by
  have h0 : x ≠ 0 := by rintro rfl; simp at h
  have hp := Nat.two_pow_pos m
  have h1 : 2 ^ m ≤ x := by
    have := (Nat.le_div_iff_mul_le hp).mp (Nat.le_of_eq h.symm)
    omega
  have h2 : x < 2 ^ (m + 1) := by
    have := (Nat.div_lt_iff_lt_mul hp).mp (show x / 2 ^ m < 2 by omega)
    rw [Nat.pow_succ]; omega
  exact ⟨h0, (Nat.log2_eq_iff h0).mpr ⟨h1, h2⟩⟩
/-- two unlike numbers part at the highest unlike bit -/
theorem part_atB {a b : Nat} (h : a < b) : ∃ m g, (a ^^^ b).log2 = m ∧ a / 2 ^ m = 2 * g ∧ b / 2 ^ m = 2 * g + 1 ∧ a / 2 ^ (m + 1) = g := by
  have h0 : a ^^^ b ≠ 0 := fun z => by have := xor_z z; omega
  have e := log_div h0
  rw [shr_xor'] at e
  obtain ⟨e1, e2⟩ := xor_one_lt e (Nat.div_le_div_right (Nat.le_of_lt h))
  refine ⟨_, a / 2 ^ ((a ^^^ b).log2 + 1), rfl, ?_, ?_, rfl⟩
  · rw [pow_half]; omega
  · rw [e2, pow_half]; omega
theorem part_ofB {a b m g : Nat} (h1 : a / 2 ^ m = 2 * g) (h2 : b / 2 ^ m = 2 * g + 1) : (a ^^^ b).log2 = m ∧ a / 2 ^ (m + 1) = g ∧ a ^^^ b ≠ 0 := by
  have e : (a ^^^ b) / 2 ^ m = 1 := by rw [shr_xor', h1, h2, one_xor]
  obtain ⟨h0, e⟩ := log_of e
  exact ⟨e, by rw [pow_half, h1]; omega, h0⟩
theorem adj_cons (x y : Nat) (r : List Nat) : adjN (x :: y :: r) = (x, y) :: adjN (y :: r) := rfl
theorem adj_mem {S : List Nat} {p : Nat × Nat} (h : p ∈ adjN S) : p.1 ∈ S ∧ p.2 ∈ S := by
  obtain ⟨i, hi⟩ := List.getElem?_of_mem h
  rw [List.getElem?_zip_eq_some, List.getElem?_drop] at hi
  exact ⟨List.mem_of_getElem? hi.1, List.mem_of_getElem? hi.2⟩
theorem adj_lt : ∀ {S : List Nat}, S.Pairwise (· < ·) → ∀ p ∈ adjN S, p.1 < p.2
  | [], _, p, h => nomatch h
  | [_], _, p, h => nomatch h
  | x :: y :: r, hs, p, h => by
    rw [adj_cons] at h
    rcases List.mem_cons.mp h with rfl | h
    · exact (List.pairwise_cons.mp hs).1 y List.mem_cons_self
    · exact adj_lt (List.pairwise_cons.mp hs).2 p h
theorem adj_next : ∀ {S : List Nat}, S.Pairwise (· < ·) → (adjN S).Pairwise fun p q => p.2 ≤ q.1
  | [], _ => .nil
  | [_], _ => .nil
  | x :: y :: r, hs => by
    rw [adj_cons]
    have h2 := (List.pairwise_cons.mp hs).2
    refine List.pairwise_cons.mpr ⟨fun q hq => ?_, adj_next h2⟩
    have := (adj_mem hq).1
    rcases List.mem_cons.mp this with e | e
    · rw [e]; exact Nat.le_refl _
    · exact Nat.le_of_lt ((List.pairwise_cons.mp h2).1 q.1 e)
/-- somewhere a bound is passed -/
theorem adj_cross {t : Nat} : ∀ {S : List Nat} {a b : Nat}, S.Pairwise (· < ·) → a ∈ S → b ∈ S → a < t → t ≤ b → ∃ p ∈ adjN S, p.1 < t ∧ t ≤ p.2 ∧ a ≤ p.1 ∧ p.2 ≤ b
  | [], a, b, _, h, _, _, _ => nomatch h
  | [x], a, b, _, ha, hb, h1, h2 => by
    simp at ha hb; omega
  | x :: y :: r, a, b, hs, ha, hb, h1, h2 => by
    obtain ⟨hx, hs'⟩ := List.pairwise_cons.mp hs
    rw [adj_cons]
    have hb' : b ∈ y :: r := by
      rcases List.mem_cons.mp hb with e | e
      · exfalso
        rcases List.mem_cons.mp ha with e' | e'
        · omega
        · have := hx a e'; omega
      · exact e
    by_cases hy : y < t
    · have ha' : ∃ a' ∈ y :: r, a' < t ∧ a ≤ a' := by
        rcases List.mem_cons.mp ha with e | e
        · exact ⟨y, List.mem_cons_self, hy, by have := hx y List.mem_cons_self; omega⟩
        · exact ⟨a, e, h1, Nat.le_refl _⟩
      obtain ⟨a', m1, m2, m3⟩ := ha'
      obtain ⟨p, hp, q1, q2, q3, q4⟩ := adj_cross hs' m1 hb' m2 h2
      exact ⟨p, List.mem_cons_of_mem _ hp, q1, q2, by omega, q4⟩
    · have ea : a = x := by
        rcases List.mem_cons.mp ha with e | e
        · exact e
        · exfalso
          rcases List.mem_cons.mp e with e' | e'
          · omega
          · have := (List.pairwise_cons.mp hs').1 a e'; omega
      have yb : y ≤ b := by
        rcases List.mem_cons.mp hb' with e | e
        · omega
        · exact Nat.le_of_lt ((List.pairwise_cons.mp hs').1 b e)
      exact ⟨(x, y), List.mem_cons_self, by show x < t; omega, by show t ≤ y; omega, by show a ≤ x; omega, yb⟩
theorem lg_lt {a b w : Nat} (ha : a < 2 ^ w) (hb : b < 2 ^ w) (h : a ^^^ b ≠ 0) : (a ^^^ b).log2 < w := (Nat.log2_lt h).mpr (Nat.xor_lt_two_pow ha hb)
theorem spl_iff {S : List Nat} {w : Nat} (hs : S.Pairwise (· < ·)) (hb : ∀ x ∈ S, x < 2 ^ w) (p : Nat × Nat) : p ∈ (adjN S).map (spOf w) ↔ SpB S w p := by
  constructor
  · intro h
    obtain ⟨⟨a, b⟩, hq, rfl⟩ := List.mem_map.mp h
    have hl := adj_lt hs _ hq
    obtain ⟨ma, mb⟩ := adj_mem hq
    obtain ⟨m, g, e1, e2, e3, e4⟩ := part_atB hl
    have hx : a ^^^ b ≠ 0 := fun z => by have := xor_z z; dsimp only at hl; omega
    have hm := lg_lt (hb a ma) (hb b mb) hx
    simp only [spOf, e1, e4]
    rw [e1] at hm
    refine ⟨by show w - (m + 1) < w; omega, ⟨a, ma, ?_⟩, ⟨b, mb, ?_⟩⟩
    · rw [show w - (w - (m + 1)) - 1 = m by omega]; exact e2
    · rw [show w - (w - (m + 1)) - 1 = m by omega]; exact e3
  · rintro ⟨hn, ⟨a, ma, ea⟩, ⟨b, mb, eb⟩⟩
    obtain ⟨n, g⟩ := p
    dsimp only at hn ea eb
    generalize hm : w - n - 1 = m at ea eb
    have hp := Nat.two_pow_pos m
    have l1 : a < (2 * g + 1) * 2 ^ m := (Nat.div_lt_iff_lt_mul hp).mp (by omega)
    have l2 : (2 * g + 1) * 2 ^ m ≤ b := (Nat.le_div_iff_mul_le hp).mp (by omega)
    obtain ⟨⟨c, d⟩, hq, q1, q2, q3, q4⟩ := adj_cross hs ma mb l1 l2
    dsimp only at q1 q2 q3 q4
    have c1 : c / 2 ^ m = 2 * g := by
      have := (Nat.div_lt_iff_lt_mul hp).mpr q1
      have := Nat.div_le_div_right (c := 2 ^ m) q3
      omega
    have d1 : d / 2 ^ m = 2 * g + 1 := by
      have := (Nat.le_div_iff_mul_le hp).mpr q2
      have := Nat.div_le_div_right (c := 2 ^ m) q4
      omega
    obtain ⟨e1, e2, _⟩ := part_ofB c1 d1
    refine List.mem_map.mpr ⟨(c, d), hq, ?_⟩
    simp only [spOf, e1, e2]
    exact Prod.ext (by show w - (m + 1) = n; omega) rfl
theorem spl_nodup {S : List Nat} {w : Nat} (hs : S.Pairwise (· < ·)) (hb : ∀ x ∈ S, x < 2 ^ w) : ((adjN S).map (spOf w)).Nodup := by
  refine List.pairwise_map.mpr ((adj_next hs).imp_of_mem fun {p q} hp hq hn e => ?_)
  obtain ⟨p1, p2⟩ := adj_mem hp
  obtain ⟨q1, q2⟩ := adj_mem hq
  have lp := adj_lt hs _ hp
  have lq := adj_lt hs _ hq
  obtain ⟨m, g, e1, e2, e3, e4⟩ := part_atB lp
  obtain ⟨m', g', f1, f2, f3, f4⟩ := part_atB lq
  have hx : p.1 ^^^ p.2 ≠ 0 := fun z => by have := xor_z z; omega
  have hy : q.1 ^^^ q.2 ≠ 0 := fun z => by have := xor_z z; omega
  have hm := lg_lt (hb _ p1) (hb _ p2) hx
  have hm' := lg_lt (hb _ q1) (hb _ q2) hy
  simp only [spOf, e1, e4, f1, f4, Prod.mk.injEq] at e
  rw [e1] at hm
  rw [f1] at hm'
  obtain ⟨z1, z2⟩ := e
  have : m = m' := by omega
  subst this
  have := Nat.div_le_div_right (c := 2 ^ m) hn
  omega
theorem sp_set {xs : List Nat} {w : Nat} {p : Nat × Nat} : SpB (setN xs) w p ↔ SpB xs w p := by simp only [SpB, setN_mem]
theorem splN_mem {xs : List Nat} {w : Nat} (hb : ∀ x ∈ xs, x < 2 ^ w) {p : Nat × Nat} : p ∈ splN xs w ↔ SpB xs w p := by
  rw [splN, sortK_mem, spl_iff (setN_up xs) fun x hx => hb x (setN_mem.mp hx), sp_set]
theorem splN_nodup {xs : List Nat} {w : Nat} (hb : ∀ x ∈ xs, x < 2 ^ w) : (splN xs w).Nodup := (sortK_perm _ _ _).nodup_iff.mpr (spl_nodup (setN_up xs) fun x hx => hb x (setN_mem.mp hx))
/-- each once, put in order -/
theorem splN_of {xs : List Nat} {w : Nat} {F : List (Nat × Nat)} (hb : ∀ x ∈ xs, x < 2 ^ w) (hn : F.Nodup) (hm : ∀ p, p ∈ F ↔ SpB xs w p) : sortK false kB F = splN xs w := by
  refine sortK_uniq (k := kB) (fun x _ y _ e => kB_inj x y e) ?_ (sortK_up _ _) (sortK_up _ _)
  refine (sortK_perm _ _ _).trans (((List.perm_ext_iff_of_nodup hn (spl_nodup (w := w) (setN_up xs) fun x hx => hb x (setN_mem.mp hx))).mpr fun p => ?_).trans (sortK_perm _ _ _).symm)
  rw [hm, spl_iff (setN_up xs) fun x hx => hb x (setN_mem.mp hx), sp_set]
theorem splN_len (xs : List Nat) (w : Nat) : (splN xs w).length = (setN xs).length - 1 := by
  rw [splN, sortK_len, List.length_map, List.length_zip, List.length_drop]; omega
/-! ### level by level -/
abbrev hdN (S : List Nat) (m h : Nat) : List Nat := S.filter fun x => decide (x / 2 ^ m = h)
def dst (S : List Nat) (m h : Nat) : List Nat := (if 1 < (hdN S m (2 * h)).length then [2 * h] else []) ++ (if 1 < (hdN S m (2 * h + 1)).length then [2 * h + 1] else [])
def fst' (S : List Nat) (m n h : Nat) : List (Nat × Nat) := if hdN S m (2 * h) ≠ [] ∧ hdN S m (2 * h + 1) ≠ [] then [(n, h)] else []
theorem hdN_ne {S : List Nat} {m h : Nat} : hdN S m h ≠ [] ↔ ∃ x ∈ S, x / 2 ^ m = h := by
  constructor
  · intro z
    obtain ⟨x, hx⟩ := List.exists_mem_of_ne_nil _ z
    obtain ⟨h1, h2⟩ := List.mem_filter.mp hx
    exact ⟨x, h1, of_decide_eq_true h2⟩
  · rintro ⟨x, h1, h2⟩ z
    have : x ∈ hdN S m h := List.mem_filter.mpr ⟨h1, decide_eq_true h2⟩
    rw [z] at this; cases this
theorem two_len {l : List Nat} (hn : l.Nodup) : 1 < l.length ↔ ∃ a ∈ l, ∃ b ∈ l, a ≠ b := by
  match l, hn with
  | [], _ => simp
  | [x], _ => simp
  | x :: y :: r, hn =>
    have := (List.pairwise_cons.mp hn).1 y List.mem_cons_self
    simp only [List.length_cons]
    exact ⟨fun _ => ⟨x, List.mem_cons_self, y, List.mem_cons_of_mem _ List.mem_cons_self, this⟩, fun _ => by omega⟩
structure Lv (S : List Nat) (w n : Nat) (hs : List Nat) (F : List (Nat × Nat)) : Prop where
  nod : hs.Nodup
  big : (n = 0 ∧ hs = [0]) ∨ ∀ h ∈ hs, 1 < (hdN S (w - n) h).length
  all : ∀ h, 1 < (hdN S (w - n) h).length → h ∈ hs
  fn : F.Nodup
  fm : ∀ p, p ∈ F ↔ SpB S w p ∧ p.1 < n
theorem Lv.start {S : List Nat} {w : Nat} (hb : ∀ x ∈ S, x < 2 ^ w) : Lv S w 0 [0] [] where
  nod := by simp
  big := .inl ⟨rfl, rfl⟩
  all := fun h hl => by
    obtain ⟨x, hx⟩ := List.exists_mem_of_ne_nil (hdN S (w - 0) h) (fun z => by rw [z] at hl; simp at hl)
    obtain ⟨h1, h2⟩ := List.mem_filter.mp hx
    have := of_decide_eq_true h2
    rw [Nat.sub_zero, Nat.div_eq_of_lt (hb x h1)] at this
    simp [← this]
  fn := .nil
  fm := fun p => by simp
theorem dst_mem {S : List Nat} {m h k : Nat} : k ∈ dst S m h ↔ (k = 2 * h ∨ k = 2 * h + 1) ∧ 1 < (hdN S m k).length := by
  unfold dst
  rw [List.mem_append]
  constructor
  · rintro (z | z)
    · split at z
      · rename_i q; simp at z; subst z; exact ⟨.inl rfl, q⟩
      · cases z
    · split at z
      · rename_i q; simp at z; subst z; exact ⟨.inr rfl, q⟩
      · cases z
  · rintro ⟨rfl | rfl, q⟩
    · left; rw [if_pos q]; simp
    · right; rw [if_pos q]; simp
theorem dst_nodup {S : List Nat} {m h : Nat} : (dst S m h).Nodup := by
  unfold dst
  split <;> split <;> simp
theorem fst_mem {S : List Nat} {m n h : Nat} {p : Nat × Nat} : p ∈ fst' S m n h ↔ p = (n, h) ∧ hdN S m (2 * h) ≠ [] ∧ hdN S m (2 * h + 1) ≠ [] := by
  unfold fst'
  split
  · rename_i q; simp [q]
  · rename_i q
    simp only [List.not_mem_nil, false_iff]
    exact fun z => q z.2
theorem Lv.step {S : List Nat} {w n : Nat} {hs : List Nat} {F : List (Nat × Nat)} (hS : S.Nodup) (h : Lv S w n hs F) (hn : n < w) : Lv S w (n + 1) (hs.flatMap (dst S (w - n - 1))) (F ++ hs.flatMap (fst' S (w - n - 1) n)) where
  nod := by
    refine List.pairwise_flatMap.mpr ⟨fun a _ => dst_nodup, h.nod.imp fun {a b} hab x hx y hy e => ?_⟩
    have h1 := (dst_mem.mp hx).1
    have h2 := (dst_mem.mp hy).1
    omega
  big := .inr fun k hk => by
    obtain ⟨a, _, ha⟩ := List.mem_flatMap.mp hk
    exact (dst_mem.mp ha).2
  all := fun k hk => by
    have e : w - n = (w - (n + 1)) + 1 := by omega
    have : k / 2 ∈ hs := h.all _ (by
      rw [two_len (hS.filter _)] at hk ⊢
      obtain ⟨a, ha, b, hb, hab⟩ := hk
      obtain ⟨a1, a2⟩ := List.mem_filter.mp ha
      obtain ⟨b1, b2⟩ := List.mem_filter.mp hb
      have a2 := of_decide_eq_true a2
      have b2 := of_decide_eq_true b2
      exact ⟨a, List.mem_filter.mpr ⟨a1, decide_eq_true (by rw [e, pow_half, a2])⟩, b, List.mem_filter.mpr ⟨b1, decide_eq_true (by rw [e, pow_half, b2])⟩, hab⟩)
    exact List.mem_flatMap.mpr ⟨k / 2, this, dst_mem.mpr ⟨by omega, hk⟩⟩
  fn := by
    refine List.nodup_append.mpr ⟨h.fn, ?_, fun p hp q hq e => ?_⟩
    · refine List.pairwise_flatMap.mpr ⟨fun a _ => ?_, h.nod.imp fun {a b} hab x hx y hy e => ?_⟩
      · unfold fst'; split <;> simp
      · have h1 := (fst_mem.mp hx).1
        have h2 := (fst_mem.mp hy).1
        rw [h1, h2] at e
        simp only [Prod.mk.injEq] at e
        exact hab e.2
    · have h1 := ((h.fm p).mp hp).2
      obtain ⟨a, _, ha⟩ := List.mem_flatMap.mp hq
      have h2 := (fst_mem.mp ha).1
      rw [e, h2] at h1
      exact absurd h1 (Nat.lt_irrefl _)
  fm := fun p => by
    rw [List.mem_append, h.fm, List.mem_flatMap]
    constructor
    · rintro (⟨h1, h2⟩ | ⟨a, ha, hp⟩)
      · exact ⟨h1, by omega⟩
      · obtain ⟨rfl, h1, h2⟩ := fst_mem.mp hp
        exact ⟨⟨hn, hdN_ne.mp h1, hdN_ne.mp h2⟩, Nat.lt_succ_self _⟩
    · rintro ⟨h1, h2⟩
      by_cases hp : p.1 < n
      · exact .inl ⟨h1, hp⟩
      · have e : p.1 = n := by omega
        obtain ⟨_, ⟨a, a1, a2⟩, ⟨b, b1, b2⟩⟩ := h1
        rw [e] at a2 b2
        have em : w - n = (w - n - 1) + 1 := by omega
        have : p.2 ∈ hs := h.all _ (by
          rw [two_len (hS.filter _)]
          exact ⟨a, List.mem_filter.mpr ⟨a1, decide_eq_true (by rw [em, pow_half, a2]; omega)⟩, b, List.mem_filter.mpr ⟨b1, decide_eq_true (by rw [em, pow_half, b2]; omega)⟩, by rintro rfl; omega⟩)
        exact .inr ⟨p.2, this, fst_mem.mpr ⟨Prod.ext e rfl, hdN_ne.mpr ⟨a, a1, a2⟩, hdN_ne.mpr ⟨b, b1, b2⟩⟩⟩
theorem Lv.len {S : List Nat} {w n : Nat} {hs : List Nat} {F : List (Nat × Nat)} (h : Lv S w n hs F) : hs.length ≤ S.length + 1 := by
  rcases h.big with ⟨_, e⟩ | hb
  · rw [e]; simp
  · have := h.nod.length_le_of_subset (l₂ := S.map fun x => x / 2 ^ (w - n)) fun k hk => by
      obtain ⟨x, hx⟩ := List.exists_mem_of_ne_nil (hdN S (w - n) k) (fun z => by have := hb k hk; rw [z] at this; simp at this)
      obtain ⟨h1, h2⟩ := List.mem_filter.mp hx
      exact List.mem_map.mpr ⟨x, h1, of_decide_eq_true h2⟩
    rw [List.length_map] at this
    omega
theorem Lv.flen {S : List Nat} {w n : Nat} {hs : List Nat} {F : List (Nat × Nat)} (hS : S.Pairwise (· < ·)) (hb : ∀ x ∈ S, x < 2 ^ w) (h : Lv S w n hs F) : F.length ≤ S.length := by
  have := h.fn.length_le_of_subset (l₂ := (adjN S).map (spOf w)) fun p hp => (spl_iff hS hb p).mpr ((h.fm p).mp hp).1
  rw [List.length_map, List.length_zip, List.length_drop] at this
  omega
theorem hd_half {S : List Nat} {m h : Nat} (b : Nat) (hb : b < 2) : (hdN S (m + 1) h).filter (fun x => decide (x / 2 ^ m % 2 = b)) = hdN S m (2 * h + b) := by
  unfold hdN
  rw [List.filter_filter]
  refine List.filter_congr fun x _ => ?_
  rw [pow_half, Bool.eq_iff_iff, Bool.and_eq_true, decide_eq_true_iff, decide_eq_true_iff, decide_eq_true_iff]
  omega
end U.P

/-! U15s: d.update(xs) of a list of pairs, {k: v}. -/
namespace U
open PySem PySem.Calls PyProof.Rows PySem.W L2
section
variable {Pr : Program} {ww : World} {Ar : Around} {Er : Value → Shared → Prop}
theorem call_update_listP {st : Shared} {l d : Addr} {ol : Obj} {items : Array Value} {n : Nat} {acc prs : List (Key × Value)} {Q : Value → Shared → Prop} (hh : Ar.handled = none) (hl : st.heap.get? l = some ol) (hc : ol.cls = .type "list") (hd : ol.dict = none) (hdat : ol.data = .seq items n)
    (hm : st.heap.DictOf (mixKind Pr ww) d acc) (hdl : d ≠ l) (hsz : items.size = prs.length) (hln : acc.length + prs.length ≤ sizeLine)
    (ht : ∀ (j : Nat) (q : Key × Value), prs[j]? = some q → ∃ (b : Addr) (u : Value), items[j]? = some (.ref b) ∧ b ≠ d ∧ IsTup st.heap b #[u, q.2] ∧ keyIs q.1 u = true)
    (h : ∀ h' tk, h'.DictOf (mixKind Pr ww) d (merged acc prs) → (∀ b o, b ≠ d → st.heap.get? b = some o → h'.get? b = some o) → Q .none { st with heap := h', toks := tk }) :
    wpAny (model Pr ww) Ar (call (.builtin "dict.update") [.ref d, .ref l]) Q Er st := by
  refine call_meetsIn F.slot_dict_update hm.typeIs F.entry_dict_update (F.args_dict_update_2 _ _)
    (S := fun A' R s' => A' = Ar ∧ s' = st ∧ ∀ h' tk, h'.DictOf (mixKind Pr ww) d (merged acc prs) → (∀ b o, b ≠ d → st.heap.get? b = some o → h'.get? b = some o) → R (.ok (.ret .none)) { st with heap := h', toks := tk }) (fun A' R s' hS => ?_) ⟨rfl, rfl, h⟩
  obtain ⟨rfl, rfl, hq⟩ := hS
  refine meets_dict_update_arg hm.typeIs ?_
  unfold Builtin.Dict.updateFrom
  refine wpAny_bind (wpAny_typeOf (T := "list") ⟨ol, hl, hc⟩ ?_); rw [if_pos (by first | decide | rfl | simp)]
  refine wpAny_bind (miss_list hl hc hdat hd hh fun h1 tk1 hk1 => ?_); rw [if_pos (show (none : Option Value).isNone = true from rfl)]
  refine wpAny_bind (wpAny_rule ?_)
  have hl1 : h1.IsList l items := ⟨ol, hk1 _ _ hl, hc, n, hdat⟩
  refine wpAny_bind (wpAny_pyIter_list hl1 ?_)
  have hlt : ∀ b o, s'.heap.get? b = some o → b < h1.objs.size := fun b o e => Heap.lt_size (hk1 b o e)
  obtain ⟨od, _, _, hod, _⟩ := id hm
  have key := upd_loop (prog := Pr) (w := ww) (A := A') (R := R) (S := d) (I := h1.objs.size) (l := l) (items := items) (res := Value.none) hh
    (Nat.ne_of_lt (hlt _ _ hl)) (Nat.ne_of_lt (hlt _ _ hod)) hdl prs 0 acc 0 0
    { s' with heap := h1.push { cls := .type "list_iterator", data := .fields #[.ref l, .int 0 0] }, toks := tk1 } (by rw [hsz, Nat.zero_add]) hln
    (fun j q e => by
      obtain ⟨b, u, e1, e0, e2, e3⟩ := ht j q e
      have hb : b < s'.heap.objs.size := e2.lt
      obtain ⟨ob, hob, _⟩ := id e2
      exact ⟨b, u, by rw [Nat.zero_add]; exact e1, e0, Nat.ne_of_lt (hlt _ _ hob), e2.keeps fun c o z => Heap.get?_push_of_some _ (hk1 _ _ z), e3⟩)
    ⟨_, Heap.get?_push_size _ rfl, rfl, rfl⟩ (hl1.at fun o e => Heap.get?_push_of_some _ e) ((hm.at fun o e => hk1 _ _ e).at fun o e => Heap.get?_push_of_some _ e)
    (fun h' tk hd' k => hq h' tk hd' fun b o hb e => k b o hb (Nat.ne_of_lt (hlt _ _ e)) (Heap.get?_push_of_some _ (hk1 _ _ e)))
  first
    | exact wpAny_pure ⟨plainId_quiet ud_plain _, key⟩
    | exact wpAny_bind (wpAny_pure (wpAny_pure ⟨plainId_quiet ud_plain _, key⟩))
end
end U
namespace U
open PySem PySem.Calls PyProof.Rows PySem.W L2
/-- d.update(xs) -/
def tDUpd (K : PySem.W.Frag) (td te : TE) : TE := fun σ H Q => td σ H fun x H1 => ∃ a, x = .ref a ∧ IsD H1 a ∧ te σ H1 fun y H2 => ∃ (l : Addr) (ps : List Addr) (kvs more : List (Key × V)), y = .ref l ∧ l ≠ a ∧ (∀ p ∈ ps, p ≠ a) ∧ SqL K H2 l (ps.map V.ref) ∧
  Paired (fun p kv => SqT K H2 p [kV kv.1, kv.2]) ps more ∧ H2 a = some (.dK kvs) ∧ kvs.length + more.length ≤ 10000000 ∧ Q .non (upd H2 a (.dK (mergeK kvs more)))
theorem pe_dupd {X : Cx} {o e : Expr} {td te : TE} {apos cpos : Pos} (hcalm : X.calm = true) (ho : PE X o td) (he : PE X e te) (m : M1 X o "update" apos e cpos) : PE X (.Call (.Attribute o "update" apos) [e] [] cpos) (tDUpd X.K td te) := by
  refine ⟨fun pins s σ H Q I h => ?_⟩
  refine wpAny_Call_method m.base m.few m.line F.plainAttrs_dict F.slot_dict_update F.type_dict_update (thn (ho.run pins s σ H _ I h) fun u s1 ⟨x, H1, I1, rx, a, ex, d, q1⟩ => ?_)
  subst ex
  obtain rfl : u = Value.ref a := rx
  obtain ⟨t1, t2, _⟩ := isD_at I1 d
  refine ⟨t1, t2, ?_⟩
  rw [m.trees]
  refine Calls.callWith_builtin rfl (Calls.evalArgs_plain (Calls.spliced_cons (thn (he.run pins s1 σ H1 _ I1 q1) fun iv s2 ⟨y, H2, I2, ry, l, ps, kvs, more, ey, hla, hpa, hq, hp, ha, hlen, q2⟩ => Calls.spliced_nil ?_)))
  subst ey
  cases ry
  obtain ⟨its, rv, pl, hz⟩ := I2.list hq
  have ei := refs_at rv
  subst ei
  obtain ⟨prs, rel, hl, hpr⟩ := pairs_of I2 hp
  obtain ⟨z, hd, vs, relv, dd⟩ := dk_of I2.hok ha
  obtain ⟨ol, n, hol, hc, hdi, hdat⟩ := pl
  have e1 : prs.length = more.length := rel.length.symm
  refine call_update_listP (prs := prs) (acc := vs) (I2.ok.hd hcalm) hol hc hdi hdat dd (Ne.symm hla) (by simp [hl]) (by rw [← relv.length, e1, sizeLine_eq]; omega) (fun j q' e => ?_) fun h' tk hd' k => ?_
  · obtain ⟨b, u, e1, e2, e3⟩ := hpr j q' e
    exact ⟨b, u, by simp [e1], hpa b (List.mem_of_getElem? e1), e2, e3⟩
  · have hlen2 : (mergeK kvs more).length ≤ sizeLine := by
      have := length_mergeK more kvs
      rw [sizeLine_eq]; omega
    have he' : ∃ q, h'.get? a = some q := let ⟨q, _, _, hq, _⟩ := hd'; ⟨q, hq⟩
    exact ⟨.non, _, I2.write (x := a) (e := a) (by rw [ha]; exact True.intro) (.inl rfl) (fun b q hb z => k b q hb z) he' (dk_new hlen2 hd (rel.merge relv) hd'), rfl, q2⟩
theorem keys_tup {K : PySem.W.Frag} {H : Hp} : ∀ {ds : List D} {xs : List V} {G : List Addr} {ks : List Key}, RepL K H ds xs G → keysT ds = some ks → ∀ p, V.ref p ∈ xs → ∃ ys, H p = some (.tup ys)
  | [], xs, G, ks, h, e, p, hp => by
    simp only [RepL] at h
    rw [h.1] at hp; cases hp
  | d :: ds, xs, G, ks, h, e, p, hp => by
    simp only [RepL] at h
    obtain ⟨v, vs, F1, F2, rfl, rfl, h1, h2⟩ := h
    simp only [keysT] at e
    split at e
    · rename_i k ks' e1 e2
      rcases List.mem_cons.mp hp with rfl | hp
      · unfold keyT at e1
        split at e1
        · simp only [Rep] at h1
          obtain ⟨b, ys, eb, hb, hr⟩ := h1
          cases eb
          exact ⟨ys, hb⟩
        · cases e1
      · exact keys_tup h2 e2 p hp
    · cases e
def allTrue : List D → Bool
  | [] => true
  | .bl true :: ds => allTrue ds
  | _ :: _ => false
theorem allTrue_eq : ∀ {ds : List D}, allTrue ds = true → ds = List.replicate ds.length (.bl true)
  | [], _ => rfl
  | .bl true :: ds, h => by
    have := allTrue_eq (ds := ds) h
    rw [List.length_cons, List.replicate_succ, ← this]
  | .bl false :: _, h => by cases h
  | .non :: _, h => by cases h
  | .int _ :: _, h => by cases h
  | .str _ :: _, h => by cases h
  | .ty _ :: _, h => by cases h
  | .lst _ :: _, h => by cases h
  | .tup _ :: _, h => by cases h
  | .fz _ :: _, h => by cases h
  | .dct _ _ :: _, h => by cases h
  | .lk _ _ :: _, h => by cases h
theorem true_vals {K : PySem.W.Frag} {H : Hp} : ∀ {n : Nat} {xs : List V} {G : List Addr}, RepL K H (List.replicate n (.bl true)) xs G → xs = List.replicate n (V.bl true) ∧ G = []
  | 0, xs, G, h => by simpa [RepL] using h
  | n + 1, xs, G, h => by
    rw [List.replicate_succ] at h
    simp only [RepL, Rep] at h
    obtain ⟨v, vs, F1, F2, rfl, rfl, ⟨rfl, rfl⟩, h2⟩ := h
    obtain ⟨rfl, rfl⟩ := true_vals h2
    exact ⟨rfl, rfl⟩
theorem zip_true (ks : List Key) : (ks.map fun k => (k, V.bl true)) = ks.zip (List.replicate ks.length (V.bl true)) := by
  induction ks with
  | nil => rfl
  | cons x l ih => rw [List.map_cons, List.length_cons, List.replicate_succ, List.zip_cons_cons, ih]
/-- d.update(xs): a dict of marks, xs pairs of numbers and True -/
def mDUpd (i : Nat) (me : M) : M := fun ρ => match look ρ i with
  | some (_, .dct _ _) => match me ρ with
    | some (.tm _ (.lst es), ρ1) => match look ρ1 i, keysT es with
      | some (fl, .dct ks ds), some more => match fl.mu && allTrue ds && decide (ks.length + more.length ≤ 10000000) with
        | true => some (.tm true .non, ρ1.set i (some (fl, .dct (more.foldl addK ks) (List.replicate (more.foldl addK ks).length (.bl true)))))
        | false => none
      | _, _ => none
    | _ => none
  | _ => none
theorem so_dupd {K : PySem.W.Frag} {i : Nat} {te : TE} {me : M} (hm : SO K te me) : SO K (tDUpd K (tVar i) te) (mDUpd i me) := by
  intro ρ o ρ' e T σ H fp R Q h
  simp only [mDUpd] at e
  split at e
  · rename_i fl0 ks0 ds0 h0
    split at e
    · rename_i u es ρ1 e1
      split at e
      · rename_i fl ks ds more hi hk
        split at e
        · rename_i hc
          simp only [Bool.and_eq_true, decide_eq_true_eq] at hc
          obtain ⟨⟨hmu, hat⟩, hful⟩ := hc
          cases e
          obtain ⟨v, hv, r0⟩ := R.rep i _ _ h0
          simp only [Rep] at r0
          obtain ⟨a, xs, G, rfl, ha, hlen, hr, hfp⟩ := r0
          refine ⟨.ref a, hv, a, rfl, .inl ⟨_, .inl ha⟩, ?_⟩
          refine hm ρ _ ρ1 e1 T σ H fp R _ fun y H2 fp2 F R2 p2 n2 f2 r2 => ?_
          obtain ⟨ry, _⟩ := r2
          simp only [Rep] at ry
          obtain ⟨l, ys, G2, rfl, rl, hl, hF⟩ := ry
          obtain ⟨v2, hv2, r3⟩ := R2.rep i _ _ hi
          rw [hv] at hv2
          cases hv2
          simp only [Rep] at r3
          obtain ⟨a2, xs2, G3, ea, ha2, hlen2, hr2, hfp2⟩ := r3
          cases ea
          have et := allTrue_eq hat
          rw [et] at hr2
          obtain ⟨ex, eG⟩ := true_vals hr2
          obtain ⟨ps, rfl, hp⟩ := keys_rep rl hk
          have hds : ds.length = ks.length := by
            have := hlen2
            rw [ex, List.length_replicate] at this
            exact this.symm
          have ez : ks.zip xs2 = ks.map fun k => (k, V.bl true) := by rw [zip_true, ex, hds]
          have hm2 : mergeK (ks.zip xs2) (more.map fun k => (k, V.bl true)) = (more.foldl addK ks).map fun k => (k, V.bl true) := by rw [ez, merge_same]
          refine ⟨l, ps, ks.zip xs2, more.map fun k => (k, V.bl true), rfl, fun z => ?_, fun p hpm z => ?_, .inl (.inl hl), hp, ha2, ?_, ?_⟩
          · rw [z, ha2] at hl; cases hl
          · obtain ⟨ws, hw⟩ := keys_tup rl hk p (List.mem_map.mpr ⟨p, hpm, rfl⟩)
            rw [z, ha2] at hw; cases hw
          · rw [ez, List.length_map, List.length_map]; exact hful
          · rw [hm2]
            have sw := R2.swap (H' := upd H2 a (.dK ((more.foldl addK ks).map fun k => (k, V.bl true)))) (d' := .dct (more.foldl addK ks) (List.replicate (more.foldl addK ks).length (.bl true))) (F' := [a]) hi hv hmu (by
              simp only [Rep]
              exact ⟨a, List.replicate (more.foldl addK ks).length (V.bl true), [], rfl, by rw [upd_same, zip_true], by simp, rep_true _, rfl⟩) (by simp) (fun c hc => .inl (by rw [hfp2, List.mem_singleton.mp hc]; exact List.mem_cons_self)) (fun c hc hn => by
              rw [hfp2] at hc
              rw [upd_ne (fun z => hc (by rw [z]; exact List.mem_cons_self))])
            obtain ⟨R3, P3, N3, X3⟩ := sw
            obtain ⟨R4, r4⟩ := R3.subF.new (d := .non) (v := .non) (New.nil _) (by simp [Rep])
            exact h .non _ _ [] R4 (p2.trans (P3.mono fun c hc => .inl hc)) (n2.trans (N3.mono fun c hc => .inl hc)) (f2.trans X3) r4
        · cases e
      · cases e
    · cases e
  · cases e
/-! ### {k: v} -/
def mDisp1 (k : Int) : M := fun ρ => some (.tm true (.dct [.inl k] [.bl true]), ρ)
theorem so_disp1 {K : PySem.W.Frag} {k : Int} : SO K (tDisp [(tC (.int k), tC (.bl true))]) (mDisp1 k) := by
  intro ρ o ρ' e T σ H fp R Q h
  cases e
  intro p hn
  refine ⟨upd_same, [(.inl k, .bl true)], rfl, by simp, ?_⟩
  have eu : upd (upd H p (.dK [])) p (.dK (mergeK [] [(.inl k, V.bl true)])) = upd H p (.dK [(.inl k, V.bl true)]) := by
    funext b
    by_cases hb : b = p
    · subst hb; rw [upd_same, upd_same]; rfl
    · rw [upd_ne hb, upd_ne hb, upd_ne hb]
  rw [eu]
  obtain ⟨R2, r2⟩ := R.new (d := .dct [.inl k] [.bl true]) (v := .ref p) (New.one (o := .dK [(.inl k, V.bl true)]) hn) (by
    simp only [Rep]
    exact ⟨p, [.bl true], [], rfl, upd_same, rfl, rep_true 1, rfl⟩)
  exact h _ _ fp _ R2 (Pin.same (same_upd hn)) (Nog.refl _ _) (Fix.refl _ _ _) r2
section
variable {G : Gb} {S : Sc}
variable {x : Str} {i : Nat} {px apos cpos p1 p2 p3 : Pos} {e : Expr} {te : TE} {me : M} {k : Int}
theorem b_dupd (hn : nameOk S i x = true) (he : BE G S e te me) (h1 : ∀ env, starEach [e] env = [(false, eval e env)] := by intro _; rfl) (h3 : (apos.endLine == cpos.line) = true := by rfl) : BE G S (.Call (.Attribute (.Name x px) "update" apos) [e] [] cpos) (tDUpd G.K (tVar i) te) (mDUpd i me) :=
  ⟨fun X g => by
    have := pe_dupd (apos := apos) (cpos := cpos) g.calm ((b_name (G := G) (pos := px) hn).pe X g) (he.pe X g) ⟨rfl, by rw [h1]; rfl, h3, by rw [h1]; rfl⟩
    rwa [g.K] at this, so_dupd he.so⟩
theorem b_disp1 {j j2 : Nat} {pos : Pos} : BE G S (.Dict [some (.Constant (.int k) j p1)] [.Constant (.bool true) j2 p2] pos) (tDisp [(tC (.int k), tC (.bl true))]) (mDisp1 k) :=
  ⟨fun X g => pe_disp (pps_cons pe_int pe_bl pps_nil) rfl rfl (by simp) (by simp), so_disp1⟩
end
end U

/-! W19: {k: True}, d.update in the walk. -/
namespace U.P
open PySem L2 U
section
variable {ρ : Env} {Q : Opd → Env → Prop} {i : Nat} {fl : Fl} {k : Int} {n : Nat} {l l0 : List Nat} {α : Type} {xs : List α} {g : α → Nat} {b : Bool}
instance w_disp1 [c : NatI k n] : St (WE (mDisp1 k) ρ Q) (Q (.tm true (mD [n])) ρ) := ⟨fun q => by
  have hc := c.eq
  subst hc
  exact ⟨_, _, rfl, q⟩⟩
def WDU (i : Nat) (o : Opd) (ρ1 : Env) (Q : Opd → Env → Prop) : Prop := ∃ u es fl ks ds more, o = .tm u (.lst es) ∧ look ρ1 i = some (fl, .dct ks ds) ∧ keysT es = some more ∧ (fl.mu && allTrue ds && decide (ks.length + more.length ≤ 10000000)) = true ∧
  Q (.tm true .non) (ρ1.set i (some (fl, .dct (more.foldl addK ks) (List.replicate (more.foldl addK ks).length (.bl true)))))
instance w_dupd {me : M} [a : LookAt ρ i (some (fl, mD l0))] : St (WE (mDUpd i me) ρ Q) (WE me ρ fun o ρ1 => WDU i o ρ1 Q) := ⟨fun h => by
  obtain ⟨o, ρ1, e1, u, es, f, ks, ds, more, rfl, e2, e3, e4, q⟩ := h
  exact ⟨_, _, by simp only [mDUpd, a.eq, mD, e1, e2, e3, e4], q⟩⟩
theorem allTrue_rep : ∀ n : Nat, allTrue (List.replicate n (.bl true)) = true
  | 0 => rfl
  | n + 1 => by rw [List.replicate_succ, allTrue]; exact allTrue_rep n
instance w_du [a : LookAt ρ i (some (fl, mD l))] [u : Mu fl] : St (WDU i (.tm b (.lst (xs.map fun x => .tup [nD (g x), .bl true]))) ρ Q) (WP (l.Nodup ∧ l.length + xs.length ≤ 10000000) (∀ l' : List Nat, (∀ n, n ∈ l' ↔ n ∈ l ∨ n ∈ xs.map g) → l'.Nodup → WUp (ρ.set i (some (fl, mD l'))) fun ρ2 => Q (.tm true .non) ρ2)) := ⟨fun ⟨⟨h1, h2⟩, q⟩ => by
  obtain ⟨l', e1, e2, e3⟩ := fold_add (xs.map g) l h1
  refine ⟨b, _, fl, _, _, _, rfl, a.eq, keysT_map xs, ?_, ?_⟩
  · rw [u.eq, allTrue_rep]
    simpa using h2
  · rw [e1]
    have := q l' e2 e3
    rw [List.length_map]
    exact this⟩
end
end U.P

/-! U15t: d[k] = v of a dict with number keys and plain values; d.get(k, c). -/
namespace U
open PySem L2
def replD : List Key → List D → Key → D → List D
  | k :: ks, d :: ds, q, x => (if k = q then x else d) :: replD ks ds q x
  | _, _, _, _ => []
def putDK (ks : List Key) (q : Key) : List Key := if (ks.any fun k => decide (k = q)) = true then ks else ks ++ [q]
def putDV (ks : List Key) (ds : List D) (q : Key) (x : D) : List D := if (ks.any fun k => decide (k = q)) = true then replD ks ds q x else ds ++ [x]
theorem repl_rep {K : PySem.W.Frag} {H : Hp} {q : Key} {x : D} {w : V} (rx : Rep K H x w []) : ∀ {ks : List Key} {ds : List D} {xs : List V}, RepL K H ds xs [] → ks.length = xs.length → D.pureL ds = true →
    ∃ ys, RepL K H (replD ks ds q x) ys [] ∧ ks.length = ys.length ∧ ((ks.zip xs).map fun kv => if kv.1 = q then (kv.1, w) else kv) = ks.zip ys
  | [], ds, xs, r, hl, _ => by
    cases xs with
    | nil => exact ⟨[], by simp [replD, RepL], rfl, rfl⟩
    | cons => cases hl
  | k :: ks, ds, xs, r, hl, hp => by
    cases ds with
    | nil =>
      simp only [RepL] at r
      rw [r.1] at hl; cases hl
    | cons d ds =>
      simp only [RepL] at r
      obtain ⟨v, vs, F1, F2, rfl, hF, h1, h2⟩ := r
      obtain ⟨rfl, rfl⟩ := List.append_eq_nil_iff.mp hF.symm
      simp only [D.pureL, Bool.and_eq_true] at hp
      obtain ⟨ys, a, b, c⟩ := repl_rep rx (ks := ks) h2 (by simpa using hl) hp.2
      refine ⟨(if k = q then w else v) :: ys, ?_, by simp [b], ?_⟩
      · simp only [replD, RepL]
        refine ⟨_, _, [], [], rfl, rfl, ?_, a⟩
        by_cases e : k = q
        · rw [if_pos e, if_pos e]; exact rx
        · rw [if_neg e, if_neg e]; exact h1
      · rw [List.zip_cons_cons, List.map_cons, c, List.zip_cons_cons]
        by_cases e : k = q
        · rw [if_pos e]; simp [e]
        · rw [if_neg e]; simp [e]
theorem put_rep {K : PySem.W.Frag} {H : Hp} {q : Key} {x : D} {w : V} (rx : Rep K H x w []) {ks : List Key} {ds : List D} {xs : List V} (r : RepL K H ds xs []) (hl : ks.length = xs.length) (hp : D.pureL ds = true) :
    ∃ ys, RepL K H (putDV ks ds q x) ys [] ∧ (putDK ks q).length = ys.length ∧ putK (ks.zip xs) q w = (putDK ks q).zip ys := by
  unfold putDV putDK putK
  have e : ((ks.zip xs).any fun kv => decide (kv.1 = q)) = ks.any fun k => decide (k = q) := by
    have h := congrArg (fun l : List Key => l.any fun k => decide (k = q)) (List.map_fst_zip (l₁ := ks) (l₂ := xs) (by omega))
    rw [List.any_map] at h
    exact h
  rw [e]
  cases hc : ks.any fun k => decide (k = q) with
  | true =>
    simp only [if_true]
    exact repl_rep rx r hl hp
  | false =>
    refine ⟨xs ++ [w], ?_, ?_, ?_⟩
    · have := r.app (show RepL K H [x] [w] [] by simp only [RepL]; exact ⟨w, [], [], [], rfl, rfl, rx, rfl, rfl⟩)
      simpa using this
    · simp [hl]
    · simp only [Bool.false_eq_true, if_false]
      rw [List.zip_append hl]
      rfl
/-- d[k] = v: a dict of plain values -/
def mDSet (i : Nat) (mv mk : M) : MS := fun ρ => match mv ρ with
  | some (.tm _ x, ρ1) => match look ρ1 i, mk ρ1 with
    | some (_, .dct _ _), some (o, ρ2) => match opD ρ2 o, look ρ2 i with
      | some (.int k), some (fl, .dct ks ds) => match fl.mu && x.pure && D.pureL ds && decide (ks.length ≤ 10000000) with
        | true => some (.nx (ρ2.set i (some (fl, .dct (putDK ks (.inl k)) (putDV ks ds (.inl k) x)))))
        | false => none
      | _, _ => none
    | _, _ => none
  | _ => none
theorem ss_dset {K : PySem.W.Frag} {i : Nat} {tv tk : TE} {mv mk : M} (hv : SO K tv mv) (hk : SO K tk mk) : SS K (sDPut (tVar i) tk tv) (mDSet i mv mk) := by
  intro ρ o e T σ H fp E R h
  simp only [mDSet] at e
  split at e
  · rename_i u x ρ1 e1
    split at e
    · rename_i fl0 ks0 ds0 o2 ρ2 h0 e2
      split at e
      · rename_i k fl ks ds ek hi
        split at e
        · rename_i hc
          simp only [Bool.and_eq_true, decide_eq_true_eq] at hc
          obtain ⟨⟨⟨hmu, hpx⟩, hpl⟩, hful⟩ := hc
          cases e
          refine hv ρ _ ρ1 e1 T σ H fp R _ fun v H1 fp1 F1 R1 p1 n1 f1 r1 => ?_
          obtain ⟨rx, _⟩ := r1
          obtain rfl := Rep.pure x v F1 rx hpx
          obtain ⟨v0, hv0, r0⟩ := R1.rep i _ _ h0
          simp only [Rep] at r0
          obtain ⟨a, xs0, G0, rfl, ha0, _, _, _⟩ := r0
          refine ⟨.ref a, hv0, ?_⟩
          refine hk ρ1 _ ρ2 e2 (addF T []) σ H1 fp1 R1 _ fun y H2 fp2 F2 R2 p2 n2 f2 r2 => ?_
          obtain ⟨Gy, ry⟩ := r2.rep R2 ek
          simp only [Rep] at ry
          obtain ⟨rfl, _⟩ := ry
          have rx2 : Rep K H2 x v [] := Rep.pin p2 x v [] rx fun _ h => nomatch h
          obtain ⟨v2, hv2, r3⟩ := R2.rep i _ _ hi
          rw [hv0] at hv2
          cases hv2
          simp only [Rep] at r3
          obtain ⟨a2, xs, G, ea, ha, hlen, hr, hfp⟩ := r3
          cases ea
          have hG := RepL.pure ds xs G hr hpl
          subst hG
          obtain ⟨ys, s1, s2, s3⟩ := put_rep (q := .inl k) rx2 hr hlen hpl
          have hsz : (ks.zip xs).length < sizeLine := by
            rw [List.length_zip, hlen, Nat.min_self, ← hlen, sizeLine_eq]
            omega
          refine ⟨a, upd H2 a (.dK (putK (ks.zip xs) (.inl k) v)), rfl, DPut.k (k := .inl k) ha hsz, ?_⟩
          have pin : Pin (fun c => c ≠ a) H2 (upd H2 a (.dK (putK (ks.zip xs) (.inl k) v))) := fun c ob eo hc => by
            have ca : c ≠ a := by
              rcases hc with hc | hc
              · exact hc
              · rintro rfl
                rw [ha] at eo; cases eo
                cases hc
            rw [upd_ne ca]; exact eo
          have sw := R2.swap (H' := upd H2 a (.dK (putK (ks.zip xs) (.inl k) v))) (d' := .dct (putDK ks (.inl k)) (putDV ks ds (.inl k) x)) (F' := [a]) hi hv0 hmu (by
            simp only [Rep]
            exact ⟨a, ys, [], rfl, by rw [upd_same, s3], s2, RepL.pin pin _ ys [] s1 (fun _ h => nomatch h), rfl⟩) (by simp) (fun c hc => .inl (by rw [hfp]; exact hc)) (fun c hc hn => by
            rw [hfp] at hc
            rw [upd_ne (fun z => hc (by rw [z]; simp))])
          obtain ⟨R3, P3, N3, X3⟩ := sw
          exact h σ _ _ (R3.mono fun c hc => .inl (.inl hc)) (p1.trans ((p2.mono fun c hc => .inl hc).trans (P3.mono fun c hc => .inl (.inl hc)))) (f1.trans (f2.trans X3))
        · cases e
      · cases e
    · cases e
  · cases e
/-- d.get(k, c): a dict of plain values, c a number -/
def mDGetC (i : Nat) (mk : M) (c : Int) : M := fun ρ => match look ρ i with
  | some (_, .dct _ _) => match mk ρ with
    | some (o, ρ1) => match opD ρ1 o, look ρ1 i with
      | some (.int k), some (_, .dct ks ds) => match D.pureL ds with
        | true => some (.tm true ((findD ks ds (.inl k)).getD (.int c)), ρ1)
        | false => none
      | _, _ => none
    | none => none
  | _ => none
end U
namespace U
open PySem L2
section
variable {G : Gb} {S : Sc}
theorem bs_dset {x : Str} {i : Nat} {px pos' pos : Pos} {e v : Expr} {te tv : TE} {me mv : M} (hn : nameOk S i x = true) (he : BE G S e te me) (hv : BE G S v tv mv) (hs : ∀ env, swapsWith v (some (.Subscript (.Name x px) e pos')) pos.line env = pure false := by intro _; rfl) :
    BS G S (.Assign [.Subscript (.Name x px) e pos'] v pos) (sDPut (tVar i) te tv) (mDSet i mv me) :=
  ⟨fun X g => ps_dput (units1 g) ((b_name (G := G) hn).pe X g) (he.pe X g) (hv.pe X g) (hs X.env), ss_dset hv.so he.so⟩
end
end U

/-! W20: d[k] = True in the walk. -/
namespace U.P
open PySem L2 U
section
variable {ρ : Env} {Q : Out → Prop} {R : Prop} {i : Nat} {fl : Fl} {k : Int} {n : Nat} {l : List Nat} {mv mk : M}
def WDk (i : Nat) (ρ1 : Env) (R : Prop) : Prop := (∃ fl ks ds, look ρ1 i = some (fl, .dct ks ds)) ∧ R
def WDS (i : Nat) (x : D) (d : D) (ρ2 : Env) (Q : Out → Prop) : Prop := ∃ k fl ks ds, d = .int k ∧ look ρ2 i = some (fl, .dct ks ds) ∧ (fl.mu && x.pure && D.pureL ds && decide (ks.length ≤ 10000000)) = true ∧ Q (.nx (ρ2.set i (some (fl, .dct (putDK ks (.inl k)) (putDV ks ds (.inl k) x)))))
instance w_dset : St (WS (mDSet i mv mk) ρ Q) (WE mv ρ fun o ρ1 => WTm o fun u x => WDk i ρ1 (WE mk ρ1 fun o2 ρ2 => W1 (opD ρ2 o2) fun d => WDS i x d ρ2 Q)) := ⟨fun h => by
  obtain ⟨o, ρ1, e1, h⟩ := h
  cases o with
  | sl j => exact h.elim
  | tm u x =>
    obtain ⟨⟨f0, k0, d0, e0⟩, o2, ρ2, e2, d, e3, k, f, ks, ds, rfl, e4, e5, q⟩ := h
    exact ⟨_, by simp only [mDSet, e1, e0, e2, e3, e4, e5], q⟩⟩
instance w_dkM [a : LookAt ρ i (some (fl, mD l))] : St (WDk i ρ R) R := ⟨fun q => ⟨⟨_, _, _, a.eq⟩, q⟩⟩
theorem pureL_true : ∀ n : Nat, D.pureL (List.replicate n (.bl true)) = true
  | 0 => rfl
  | n + 1 => by rw [List.replicate_succ]; simp [D.pureL, D.pure, pureL_true n]
theorem repl_true (q : Key) : ∀ ks : List Key, replD ks (List.replicate ks.length (.bl true)) q (.bl true) = List.replicate ks.length (.bl true)
  | [] => rfl
  | k :: ks => by rw [List.length_cons, List.replicate_succ, replD, repl_true q ks]; simp
instance w_dsM [a : LookAt ρ i (some (fl, mD l))] [u : Mu fl] [c : NatI k n] : St (WDS i (.bl true) (.int k) ρ Q) (WP (l.Nodup ∧ l.length ≤ 10000000) (∀ l' : List Nat, (∀ m, m ∈ l' ↔ m ∈ l ∨ m = n) → l'.Nodup → WUp (ρ.set i (some (fl, mD l'))) fun ρ2 => Q (.nx ρ2))) := ⟨fun ⟨⟨h1, h2⟩, q⟩ => by
  have hc := c.eq
  subst hc
  refine ⟨_, fl, _, _, rfl, a.eq, by rw [u.eq, pureL_true]; simpa [D.pure] using h2, ?_⟩
  have e : ((l.map kN).any fun k => decide (k = Sum.inl (n : Int))) = decide (n ∈ l) := by
    rw [List.any_map]
    have : (fun x => decide (x = (Sum.inl (n : Int) : Key))) ∘ kN = fun m => decide (m = n) := by
      funext m
      exact decide_eq_decide.mpr kN_inj
    rw [this]
    by_cases h : n ∈ l
    · rw [decide_eq_true h]; exact List.any_eq_true.mpr ⟨n, h, by simp⟩
    · rw [decide_eq_false h]
      exact List.any_eq_false.mpr fun m hm e => h (by rw [← of_decide_eq_true e]; exact hm)
  by_cases h : n ∈ l
  · have := q l (fun m => ⟨.inl, fun h' => h'.elim id fun e => by rw [e]; exact h⟩) h1
    unfold putDK putDV
    rw [e, decide_eq_true h, if_pos rfl, if_pos rfl]
    have e2 := repl_true (Sum.inl (n : Int)) (l.map kN)
    rw [List.length_map] at e2
    rw [e2]
    exact this
  · have := q (l ++ [n]) (fun m => by simp) (List.nodup_append.mpr ⟨h1, by simp, fun a ha b hb => by rw [List.mem_singleton.mp hb]; exact fun e => h (e ▸ ha)⟩)
    unfold putDK putDV
    rw [e, decide_eq_false h]
    simp only [Bool.false_eq_true, if_false]
    have e3 : mD (l ++ [n]) = .dct (l.map kN ++ [Sum.inl (n : Int)]) (List.replicate l.length (.bl true) ++ [.bl true]) := by
      unfold mD
      rw [List.map_append, List.length_append, List.length_singleton, List.replicate_succ']
      rfl
    rw [e3] at this
    exact this⟩
end
instance q_orN {Q : D → Prop} {i j : Int} {m n : Nat} [a : NatI i m] [b : NatI j n] : St (W1 (dOr (.int i) (.int j)) Q) (Q (.int ((m ||| n : Nat) : Int))) := ⟨fun h => ⟨_, by
  have e1 := a.eq
  have e2 := b.eq
  subst e1 e2
  show some (D.int (Builtin.bitOr (m : Int) (n : Int))) = _
  rw [Bits.bitOr_pp (by omega) (by omega), Int.toNat_natCast, Int.toNat_natCast], h⟩⟩
instance q_isBF {Q : D → Prop} {b : Bool} : St (W1 (dIsB (.bl b) (.bl false)) Q) (Q (.bl (!b))) := ⟨fun q => ⟨_, by cases b <;> rfl, q⟩⟩
instance (priority := low) u_insN {α : Type} {f : α → D} {xs : List α} {x : α} {fl : Fl} {d : D} {k : Int} {n : Nat} {Q : D × Option (Fl × D) → Prop} [m : Mu fl] [c : Cv f d x] [b : NatI k n] : St (W1 (U.P.mutO xInsert [.int k, d] (some (fl, .lst (xs.map f)))) Q) (WP (xs.length ≤ 10000000 ∧ n < 2 ^ 62) (Q (.non, some (fl, .lst ((xs.take n ++ x :: xs.drop n).map f))))) := ⟨fun ⟨⟨h1, h2⟩, q⟩ => by
  have e1 := c.eq
  have e2 := b.eq
  subst e1 e2
  refine ⟨_, ?_, q⟩
  have h3 : decide ((n : Int) < 9223372036854775808) = true := decide_eq_true (by omega)
  simp [U.P.mutO, m.eq, xInsert, fullLen, h1, h3, List.map_take, List.map_drop]⟩
end U.P

/-! U15u: str(x) of any data. -/
namespace U
open PySem PySem.W PyProof.Rows L2
mutual
/-- ints of at most 200 bits, texts of real signs -/
def D.lf : D → Bool
  | .int i => decide (i.natAbs < 2 ^ 200)
  | .str x => x.cps.toList.all fun c => decide (c < 16 ^ 8)
  | .lst xs => D.lfs xs
  | .tup xs => D.lfs xs
  | .fz xs => D.lfs xs
  | _ => true
def D.lfs : List D → Bool
  | [] => true
  | x :: xs => D.lf x && D.lfs xs
end
mutual
def D.blk : D → Nat
  | .str x => x.cps.size
  | .lst xs => D.blks xs
  | .tup xs => D.blks xs
  | .fz xs => D.blks xs
  | _ => 0
def D.blks : List D → Nat
  | [] => 0
  | x :: xs => D.blk x + 1 + D.blks xs
end
theorem log_200 {n : Nat} (h : n < 2 ^ 200) : n.log2 < 200 := by
  rcases Nat.eq_zero_or_pos n with rfl | h0
  · decide
  · exact (Nat.log2_lt (by omega)).mpr h
mutual
theorem lf_short : ∀ d : D, d.ok = true → d.lf = true → d.py.leavesShort 201 = true ∧ d.py.showable = true ∧ d.py.bulk = d.blk ∧ d.py.hasDict = false
  | .non, _, _ => ⟨rfl, rfl, rfl, rfl⟩
  | .bl b, _, _ => ⟨rfl, rfl, rfl, rfl⟩
  | .int i, _, h => by
    have h' := log_200 (of_decide_eq_true h)
    refine ⟨?_, ?_, rfl, rfl⟩
    · simp only [D.py, PyData.leavesShort, decide_eq_true_eq]
      have := int_text_length_le (a := i) (k := 200) (by decide) h'
      simp only [PyData.shown, PySem.ofString_length]
      omega
    · simp only [D.py, PyData.showable, decide_eq_true_eq]
      omega
  | .str x, _, h => ⟨by simpa [D.py, PyData.leavesShort, D.lf] using h, rfl, rfl, rfl⟩
  | .lst xs, o, h => by
    obtain ⟨a, b, c, e⟩ := lfs_short xs (by simpa [D.ok] using o) (by simpa [D.lf] using h)
    exact ⟨by simpa [D.py, PyData.leavesShort] using a, by simpa [D.py, PyData.showable] using b, by simpa [D.py, PyData.bulk, D.blk] using c, by simpa [D.py, PyData.hasDict] using e⟩
  | .tup xs, o, h => by
    obtain ⟨a, b, c, e⟩ := lfs_short xs (by simpa [D.ok] using o) (by simpa [D.lf] using h)
    exact ⟨by simpa [D.py, PyData.leavesShort] using a, by simpa [D.py, PyData.showable] using b, by simpa [D.py, PyData.bulk, D.blk] using c, by simpa [D.py, PyData.hasDict] using e⟩
  | .ty _, o, _ => by cases o
  | .fz xs, o, h => by
    obtain ⟨a, b, c, e⟩ := lfs_short xs (by simpa [D.ok] using o) (by simpa [D.lf] using h)
    exact ⟨by simpa [D.py, PyData.leavesShort] using a, by simpa [D.py, PyData.showable] using b, by simpa [D.py, PyData.bulk, D.blk] using c, by simpa [D.py, PyData.hasDict] using e⟩
  | .dct _ _, o, _ => by cases o
  | .lk _ _, o, _ => by cases o
theorem lfs_short : ∀ ds : List D, D.oks ds = true → D.lfs ds = true → PyData.leavesShortAll 201 (D.pys ds) = true ∧ PyData.showableAll (D.pys ds) = true ∧ PyData.bulkAll (D.pys ds) = D.blks ds ∧ PyData.hasDictAll (D.pys ds) = false
  | [], _, _ => ⟨rfl, rfl, rfl, rfl⟩
  | d :: ds, o, h => by
    simp only [D.oks, D.lfs, Bool.and_eq_true] at o h
    obtain ⟨a, b, c, e⟩ := lf_short d o.1 h.1
    obtain ⟨a', b', c', e'⟩ := lfs_short ds o.2 h.2
    exact ⟨by simp [D.pys, PyData.leavesShortAll, a, a'], by simp [D.pys, PyData.showableAll, b, b'], by simp [D.pys, PyData.bulkAll, D.blks, c, c'], by simp [D.pys, PyData.hasDictAll, e, e']⟩
end
/-- what may be written -/
def D.wr (d : D) : Bool := d.ok && d.lf && decide (d.blk ≤ 20000) && decide (d.py.depth ≤ 60)
/-- str(x) -/
def strA : D → Str
  | .str x => x
  | d => d.py.shown
def cStrA : List D → Option D
  | [d] => match d.wr with
    | true => some (.str (strA d))
    | false => none
  | _ => none
def rStrA (K : PySem.W.Frag) : List V → Hp → VK → Prop := fun xs H Q => ∃ (v : V) (d : D) (F : List Addr), xs = [v] ∧ Rep K H d v F ∧ d.wr = true ∧ Q (.str (strA d)) H
theorem rc_strA {K : PySem.W.Frag} : RCall K (rStrA K) cStrA := by
  intro ds d e H vs rs Q q
  unfold cStrA at e
  split at e
  · split at e
    · rename_i hw
      cases e
      obtain ⟨v, F, rfl, r⟩ := rs.one
      exact ⟨v, _, F, rfl, r, hw, q _ _ [] (New.nil H) (by simp [Rep])⟩
    · cases e
  · cases e
theorem cr_strA {X : Cx} (hst : Still X.A) (hu : X.A.units + 65 < cLine) : CallR X (.type "str") (rStrA X.K) := by
  intro pins st σ H xs us Q I r h
  obtain ⟨v, d, F, rfl, rp, hw, q⟩ := h
  simp only [D.wr, Bool.and_eq_true, decide_eq_true_eq] at hw
  obtain ⟨⟨⟨ho, hl⟩, hb⟩, hd⟩ := hw
  obtain ⟨u, eu, rx⟩ := vals1 r
  subst eu
  obtain ⟨l1, l2, l3, l4⟩ := lf_short d ho hl
  have hsh : d.py.shown.length ≤ sizeLine := by
    have := PyData.shown_le_bulk 201 (by decide) d.py l1
    rw [l3] at this
    rw [sizeLine_eq]
    omega
  have disp : ∀ a, u = .ref a → (∀ x, d ≠ .str x) → wpAny (model X.prog X.w) X.A (call (.type "str") [u]) (EP X pins σ Q) X.xe st := fun a ea hns => by
    subst ea
    obtain ⟨as, rd⟩ := Dp.reads I _ _ _ (Rep.dp d v F rp ho) rx
    refine str_of_reads rd l2 (fun e => by rw [l4] at e; cases e) hst (by omega) (fun _ _ e => e) (fun h' t tk hk => ?_) hsh
    have e : strA d = d.py.shown := by
      cases d <;> first | rfl | exact absurd rfl (hns _)
    exact ⟨.str (strA d), H, I.kept (t' := tk) hk, by rw [e]; exact ⟨t, rfl⟩, q⟩
  cases d with
  | non =>
    simp only [Rep] at rp
    obtain ⟨rfl, _⟩ := rp
    cases rx
    exact P.str_of_none ⟨.str (strA .non), H, I.tok _, ⟨_, rfl⟩, q⟩
  | bl b =>
    simp only [Rep] at rp
    obtain ⟨rfl, _⟩ := rp
    cases rx
    exact P.str_of_bool ⟨.str (strA (.bl b)), H, I.tok _, ⟨_, rfl⟩, q⟩
  | int i =>
    simp only [Rep] at rp
    obtain ⟨rfl, _⟩ := rp
    obtain ⟨t, rfl⟩ := rx
    exact P.str_of_int (by simpa [D.py, PyData.showable] using l2) ⟨.str (strA (.int i)), H, I.tok _, ⟨_, rfl⟩, q⟩
  | str x =>
    simp only [Rep] at rp
    obtain ⟨rfl, _⟩ := rp
    obtain ⟨t, rfl⟩ := rx
    exact P.str_of_str ⟨.str x, H, I, ⟨_, rfl⟩, q⟩
  | lst ds =>
    simp only [Rep] at rp
    obtain ⟨a, ys, G, rfl, _⟩ := id rp
    cases rx
    exact disp a rfl (fun _ => nofun)
  | tup ds =>
    simp only [Rep] at rp
    obtain ⟨a, ys, rfl, _⟩ := id rp
    cases rx
    exact disp a rfl (fun _ => nofun)
  | ty n => cases ho
  | fz ds =>
    simp only [Rep] at rp
    obtain ⟨a, ys, rfl, _⟩ := id rp
    cases rx
    exact disp a rfl (fun _ => nofun)
  | dct ks ds => cases ho
  | lk ks ds => cases ho
theorem b_strA {G : Gb} {S : Sc} {e : Expr} {p pos : Pos} {t : TA} {m : MA} (hm : G.mg "str" = none) (hg : globOk S "str" = true) (ha : BA G S [e] t m) (h1 : ∀ env, starEach [e] env = [(false, eval e env)] := by intro _; rfl) : BE G S (.Call (.Name "str" p) [e] [] pos) (tCB (rStrA G.K) t) (mCB cStrA m) :=
  b_callT (fun X g => by rw [← g.K]; exact cr_strA g.still (units65 g)) rc_strA (by decide +kernel) hm hg ha h1 (by intro _; rfl)
end U

/-! W21: str(x) in the walk; == of texts. -/
namespace U.P
open PySem L2 U
section
variable {Q : D → Prop} {d : D}
instance q_strA : St (W1 (cStrA [d]) Q) (WP (d.wr = true) (Q (.str (strA d)))) := ⟨fun ⟨h, q⟩ => ⟨_, by simp only [cStrA, h], q⟩⟩
end
end U.P

/-! U15v: x in xs, any data. -/
namespace U
open PySem PySem.W PyProof.Rows L2
/-- what may be looked for -/
def inOk (k : D) (ds : List D) : Bool := k.ok && D.oks ds && SeqAt.shaped k.py && PyData.canLayAll0 (D.pys ds)
def dInA : D → D → Option D
  | k, .lst ds => match inOk k ds with
    | true => some (.bl (ds.any (eqB k)))
    | false => none
  | _, _ => none
def rInA (K : PySem.W.Frag) : R2 := fun x y H Q => ∃ (k : D) (ds : List D) (F G : List Addr), Rep K H k x F ∧ Rep K H (.lst ds) y G ∧ inOk k ds = true ∧ Q (.bl (ds.any (eqB k))) H
theorem op_inA {X : Cx} (hu : X.A.units + 65 < cLine) : OpR X (compareOp .In) (rInA X.K) := by
  intro pins s σ H x y v u Q I rx ry h
  obtain ⟨k, ds, F, G, r1, r2, ho, q⟩ := h
  simp only [inOk, Bool.and_eq_true] at ho
  obtain ⟨⟨⟨h1, h2⟩, h3⟩, h4⟩ := ho
  obtain ⟨as, d1⟩ := Dp.reads I _ _ _ (Rep.dp k x F r1 h1) rx
  obtain ⟨bs, d2⟩ := Dp.reads I _ _ _ (Rep.dp (.lst ds) y G r2 (by simpa [D.ok] using h2)) ry
  refine SeqAt.in_list_reads d2 d1 (by simpa [D.py, PyData.canLay0] using h4) (SeqAt.canLay_of_shaped h3) (room_in_shaped h3 hu) ⟨.bl _, H, I, rfl, ?_⟩
  rw [pys_map, List.any_map]
  exact q
theorem rop_inA {K : PySem.W.Frag} : ROp K (rInA K) dInA := by
  intro d1 d2 d e H v w F G r1 r2 Q h
  unfold dInA at e
  split at e
  · split at e
    · rename_i ho
      cases e
      exact ⟨_, _, F, G, r1, r2, ho, h _ H [] (New.nil H) (by simp [Rep])⟩
    · cases e
  · cases e
theorem k_inA {G : Gb} {S : Sc} : InK G S .In (rInA G.K) dInA := ⟨fun X g => by rw [← g.K]; exact op_inA (units65 g), rop_inA⟩
end U

/-! W22: x in xs of any data, in the walk. -/
namespace U.P
open PySem L2 U
section
variable {Q : D → Prop} {k : D} {ds : List D}
instance q_inA : St (W1 (dInA k (.lst ds)) Q) (WP (inOk k ds = true) (Q (.bl (ds.any (eqB k))))) := ⟨fun ⟨h, q⟩ => ⟨_, by simp only [dInA, h], q⟩⟩
end
/-- one of a list's things, by a number -/
theorem ix_any {ds : List D} {i : Nat} {d : D} (h : ds[i]? = some d) : d ∈ ds := List.mem_of_getElem? h
end U.P

/-! U15w: xs + ys of lists of anything; what they hold is shared from then on. -/
namespace U
open PySem PySem.W L2
def catO : Opd → Opd → Env → Option (Opd × Env)
  | .tm _ (.lst a), .tm _ (.lst b), ρ => match fullLen (a.length + b.length) with
    | true => some (.tm false (.lst (a ++ b)), ρ)
    | false => none
  | _, _, _ => none
def mCatS (ma mb : M) : M := fun ρ => do
  let (o1, ρ1) ← ma ρ
  let (o2, ρ2) ← mb ρ1
  catO o1 o2 ρ2
theorem so_catS {K : PySem.W.Frag} {ta tb : TE} {ma mb : M} (ha : SO K ta ma) (hb : SO K tb mb) : SO K (tOp (rAddU K) ta tb) (mCatS ma mb) := by
  intro ρ o ρ' e T σ H fp R Q h
  simp only [mCatS, Option.bind_eq_bind, Option.bind_eq_some_iff] at e
  obtain ⟨⟨o1, ρ1⟩, e1, ⟨o2, ρ2⟩, e2, e⟩ := e
  dsimp only at e
  refine so2 ha hb e1 e2 R fun v w H' fp' F G R' p n fx r1 r2 => ?_
  unfold catO at e
  split at e
  · rename_i u1 a u2 b _
    split at e
    · rename_i hl
      cases e
      have q1 := r1.1
      have q2 := r2.1
      simp only [Rep] at q1 q2
      obtain ⟨p1, xs, G1, rfl, q1, h1, rfl⟩ := q1
      obtain ⟨p2, ys, G2, rfl, q2, h2, rfl⟩ := q2
      refine .inr (.inl ⟨p1, p2, xs, ys, rfl, rfl, h1, h2, by rw [← q1.length, ← q2.length]; exact fullLen_ok hl, fun m hm => ?_⟩)
      have s := same_upd (o := .lst (xs ++ ys)) hm
      refine h (.ref m) _ fp' (m :: (G1 ++ G2)) ?_ (p.trans (Pin.same s)) n fx ⟨Rep.lst_of upd_same ((q1.app q2).same s), fun z => nomatch z⟩
      refine ((R'.same s).pinF (F := [m]) (fun a ha => ?_) fun a ha i fl d e u => ?_).mono fun a t => ?_
      · rw [List.mem_singleton.mp ha, upd_same]; exact fun z => nomatch z
      · rw [List.mem_singleton.mp ha]; exact R'.fresh hm i
      · rcases t with t | t
        · exact .inl (.inl t)
        · rcases List.mem_cons.mp t with rfl | t
          · exact .inr (by simp)
          · refine .inl (.inr ?_)
            rcases List.mem_append.mp t with t | t
            · exact List.mem_append.mpr (.inl (List.mem_cons_of_mem _ t))
            · exact List.mem_append.mpr (.inr (List.mem_cons_of_mem _ t))
    · cases e
  · cases e
theorem b_catS {G : Gb} {S : Sc} {a b : Expr} {pos : Pos} {ta tb : TE} {ma mb : M} (ha : BE G S a ta ma) (hb : BE G S b tb mb) : BE G S (.BinOp a .Add b pos) (tOp (rAddU G.K) ta tb) (mCatS ma mb) := ⟨fun X g => by rw [← g.K]; exact pe_op op_addU (ha.pe X g) (hb.pe X g), so_catS ha.so hb.so⟩
end U

/-! W23: + of lists of anything. -/
namespace U.P
open PySem L2 U
variable {ρ : Env}
instance w_catS {ma mb : M} {Q : Opd → Env → Prop} : St (WE (mCatS ma mb) ρ Q) (WE ma ρ fun o1 ρ1 => WE mb ρ1 fun o2 ρ2 => WV (catO o1 o2 ρ2) Q) := ⟨fun ⟨o1, ρ1, e1, o2, ρ2, e2, q⟩ => by
  obtain ⟨o, ρ3, e3, q⟩ := q
  exact ⟨o, ρ3, by simp only [mCatS, e1, e2, Option.bind_eq_bind, Option.bind_some, e3], q⟩⟩
instance x_catS {u v : Bool} {a b : List D} {m n : Nat} [l : Len a m] [l' : Len b n] {Q : Opd → Env → Prop} : St (WV (catO (.tm u (.lst a)) (.tm v (.lst b)) ρ) Q) (WP (m + n ≤ 10000000) (Q (.tm false (.lst (a ++ b))) ρ)) := ⟨fun ⟨h, q⟩ => by
  have e : fullLen (a.length + b.length) = true := by rw [l.eq, l'.eq]; exact decide_eq_true h
  exact ⟨_, _, by simp only [catO, e], q⟩⟩
instance (priority := high) x_catSL {u v : Bool} {a b c : List D} {m n : Nat} [l : Len a m] [l' : Len b n] [e : AppL a b c] {Q : Opd → Env → Prop} : St (WV (catO (.tm u (.lst a)) (.tm v (.lst b)) ρ) Q) (WP (m + n ≤ 10000000) (Q (.tm false (.lst c)) ρ)) := ⟨fun q => (x_catS (a := a) (b := b) (Q := Q)).pf (by rw [e.eq]; exact q)⟩
end U.P

/-! U15x: a list just made is never changed again: from then on it is read only. -/
namespace U
open PySem PySem.W L2
def tFz (t : TE) : TE := fun σ H Q => t σ H fun v H1 => Q v H1 ∨ ∃ a xs, v = .ref a ∧ H1 a = some (.lst xs) ∧ ∀ od, Q v (upd H1 a (.frz od (.lst xs)))
theorem pe_fz {X : Cx} {e : Expr} {t : TE} (h : PE X e t) : PE X e (tFz t) := by
  refine ⟨fun pins s σ H Q I hw => ?_⟩
  refine thn (h.run pins s σ _ _ I hw) fun v s1 ⟨x, H1, I1, r, q⟩ => ?_
  rcases q with q | ⟨a, xs, rfl, e, q⟩
  · exact ⟨x, H1, I1, r, q⟩
  · obtain ⟨od, I2⟩ := I1.lock e (by trivial)
    exact ⟨_, _, I2, r, q od⟩
def fzO : Opd → Opd
  | .tm true (.lst ds) => match D.pureL ds with
    | true => .tm true (.fz ds)
    | false => .tm true (.lst ds)
  | o => o
def mFz (m : M) : M := fun ρ => match m ρ with
  | some (o, ρ1) => some (fzO o, ρ1)
  | none => none
theorem so_fz {K : PySem.W.Frag} {t : TE} {m : M} (hm : SO K t m) : SO K (tFz t) (mFz m) := by
  intro ρ o ρ' e T σ H fp R Q h
  unfold mFz at e
  split at e
  · rename_i o1 ρ1 e1
    cases e
    refine hm ρ o1 _ e1 T σ H fp R _ fun v H' fp' F R' p n f r => ?_
    unfold fzO at h
    split at h
    · rename_i ds
      split at h
      · rename_i hp
        obtain ⟨r1, r2⟩ := r
        obtain ⟨_, hT, hfp⟩ := r2 rfl
        simp only [Rep] at r1
        obtain ⟨a, xs, G, rfl, rl, ha, rfl⟩ := r1
        have := RepL.pure _ xs G rl hp; subst this
        refine .inr ⟨a, xs, rfl, ha, fun od => ?_⟩
        have keep : ∀ b : Addr, b ≠ a → upd H' a (.frz od (.lst xs)) b = H' b := fun b hb => upd_ne hb
        have pin : Pin (fun b => b ≠ a) H' (upd H' a (.frz od (.lst xs))) := fun b o e c => by
          have hb : b ≠ a := by
            rcases c with c | c
            · exact c
            · rintro rfl
              rw [ha] at e; cases e; cases c
          rw [keep b hb]; exact e
        have al : ∀ b, H' b ≠ none → upd H' a (.frz od (.lst xs)) b ≠ none := fun b hb => by
          by_cases z : b = a
          · subst z; rw [upd_same]; exact fun z => nomatch z
          · rw [keep b z]; exact hb
        refine h _ _ fp' [] ⟨R'.len, fun i fl d l => ?_, R'.nil, fun i fl d l u => ?_, fun b t => ?_⟩ (fun b o e c => ?_) n f ⟨?_, fun _ => ⟨.nil, (fun _ z => nomatch z), (fun _ _ z => nomatch z)⟩⟩
        · obtain ⟨w, e1, e2⟩ := R'.rep i fl d l
          exact ⟨w, e1, Rep.pin pin d w _ e2 fun b hb => fun z => hfp i a (by simp) (z ▸ hb)⟩
        · obtain ⟨n1, n2, n3⟩ := R'.nod i fl d l u
          exact ⟨n1, fun b hb t => n2 b hb (t.imp id (fun z => nomatch z)), n3⟩
        · exact al b (R'.tal b (t.imp id (fun z => nomatch z)))
        · have e' := p b o e c
          by_cases z : b = a
          · subst z
            rw [ha] at e'; cases e'
            rcases c with c | c
            · exact absurd c (hT b (by simp))
            · cases c
          · rw [keep b z]; exact e'
        · simp only [Rep]
          exact ⟨a, xs, rfl, .inl ⟨od, upd_same⟩, RepL.pin pin ds xs [] rl (fun _ z => nomatch z)⟩
      · exact .inl (h v H' fp' F R' p n f r)
    · exact .inl (h v H' fp' F R' p n f r)
  · cases e
theorem b_fz {G : Gb} {S : Sc} {e : Expr} {t : TE} {m : M} (h : BE G S e t m) : BE G S e (tFz t) (mFz m) := ⟨fun X g => pe_fz (h.pe X g), so_fz h.so⟩
end U

/-! U15y: some statements of a list by themselves. -/
namespace U
open PySem PySem.W PySem.Spec PyProof.Rows L2
theorem wp_execs_app {M : Model} {A : Around} {E : Value → Shared → Prop} {env : PySem.Env} {Q : Flow → Shared → Prop} (Γ : PySem.Ctx) (hΓ : Γ.In A) (ys : List Stmt) : ∀ (xs : List Stmt) (p : Pos) (s : Shared),
    Sem.wp M Γ (execs xs env) (fun f _ s' => match f with | .next => wpAny M A (execs ys env) Q E s' | f => Q f s') (fun e _ s' => E e s') p s → Sem.wp M Γ (execs (xs ++ ys) env) (fun f _ s' => Q f s') (fun e _ s' => E e s') p s
  | [], p, s, h => (show wpAny M A (execs ys env) Q E s from h) Γ p hΓ
  | st :: xs, p, s, h => by
    rw [List.cons_append, execs_cons, Sem.wp_bind']
    rw [execs_cons, Sem.wp_bind'] at h
    refine Sem.wp_mono M Γ _ (fun f p' s' h' => ?_) (fun _ _ _ h' => h') _ _ h
    cases f with
    | next => exact wp_execs_app Γ hΓ ys xs p' s' h'
    | ret v => exact h'
    | brk => exact h'
    | cont => exact h'
theorem pss_app {X : Cx} {xs ys : List Stmt} {t u : TS} (h1 : PSs X xs t) (h2 : PSs X ys u) : PSs X (xs ++ ys) (tSeq t u) := by
  refine ⟨fun pins s σ H D I h => fun Γ p hΓ => wp_execs_app (A := X.A) Γ hΓ ys xs p s ?_⟩
  refine Sem.wp_mono _ Γ _ (fun f p' s' q => ?_) (fun _ _ _ h' => h') _ _ (h1.run pins s σ H { D with nx := u D } I h Γ p hΓ)
  cases f with
  | next =>
    obtain ⟨σ', H', I', q⟩ := q
    exact h2.run pins s' σ' H' D I' q
  | ret v => exact q
  | brk => exact q
  | cont => exact q
theorem bss_part {G : Gb} {S : Sc} {sts : List Stmt} {t u : TS} {m n : MS} (k : Nat) (h1 : BSs G S (sts.take k) t m) (h2 : BSs G S (sts.drop k) u n) : BSs G S sts (tSeq t u) (mSeq m n) :=
  ⟨fun X g => by
    have := pss_app (h1.ps X g) (h2.ps X g)
    rwa [List.take_append_drop] at this, ss_seq h1.ss h2.ss⟩
end U

/-! W24: frozen lists in the walk. -/
namespace U.P
open PySem L2 U
/-- an operand, frozen -/
def WFz (o : Opd) (Q : Opd → Prop) : Prop := Q (fzO o)
section
variable {ρ : Env} {Q : Opd → Env → Prop} {R : Opd → Prop}
theorem w_fz {m : M} (h : WE m ρ fun o ρ1 => WFz o fun o' => Q o' ρ1) : WE (mFz m) ρ Q := by
  obtain ⟨o, ρ1, e, q⟩ := h
  exact ⟨_, _, by simp only [mFz, e], q⟩
instance w_fz_ {m : M} : St (WE (mFz m) ρ Q) (WE m ρ fun o ρ1 => WFz o fun o' => Q o' ρ1) := ⟨w_fz⟩
instance wfz_l {ds : List D} [h : PuL ds true] : St (WFz (.tm true (.lst ds)) R) (R (.tm true (.fz ds))) := ⟨fun q => by unfold WFz fzO; simp only [h.eq]; exact q⟩
instance wfz_l' {ds : List D} [h : PuL ds false] : St (WFz (.tm true (.lst ds)) R) (R (.tm true (.lst ds))) := ⟨fun q => by unfold WFz fzO; simp only [h.eq]; exact q⟩
instance wfz_F {d : D} : St (WFz (.tm false d) R) (R (.tm false d)) := ⟨fun q => q⟩
instance wfz_sl {i : Nat} : St (WFz (.sl i) R) (R (.sl i)) := ⟨fun q => q⟩
instance wfz_non : St (WFz (.tm true .non) R) (R (.tm true .non)) := ⟨fun q => q⟩
instance wfz_bl {b : Bool} : St (WFz (.tm true (.bl b)) R) (R (.tm true (.bl b))) := ⟨fun q => q⟩
instance wfz_int {i : Int} : St (WFz (.tm true (.int i)) R) (R (.tm true (.int i))) := ⟨fun q => q⟩
instance wfz_str {x : Str} : St (WFz (.tm true (.str x)) R) (R (.tm true (.str x))) := ⟨fun q => q⟩
instance wfz_tup {ds : List D} : St (WFz (.tm true (.tup ds)) R) (R (.tm true (.tup ds))) := ⟨fun q => q⟩
instance wfz_fz {ds : List D} : St (WFz (.tm true (.fz ds)) R) (R (.tm true (.fz ds))) := ⟨fun q => q⟩
end
abbrev fD {α : Type} (f : α → D) (xs : List α) : D := .fz (xs.map f)
section
variable {ds a b : List D} {Q : List D → Prop}
instance sq_f_ : St (W1 (seqD (.fz ds)) Q) (Q ds) := ⟨fun q => ⟨_, rfl, q⟩⟩
instance wk_f_ : St (W1 (walkD (.fz ds)) Q) (Q ds) := ⟨fun q => ⟨_, rfl, q⟩⟩
instance sm_fl_ {Q : List D × List D → Prop} : St (W1 (sameSeq (.fz a) (.lst b)) Q) (Q (a, b)) := ⟨fun q => ⟨_, rfl, q⟩⟩
instance sm_lf_ {Q : List D × List D → Prop} : St (W1 (sameSeq (.lst a) (.fz b)) Q) (Q (a, b)) := ⟨fun q => ⟨_, rfl, q⟩⟩
instance sm_ff_ {Q : List D × List D → Prop} : St (W1 (sameSeq (.fz a) (.fz b)) Q) (Q (a, b)) := ⟨fun q => ⟨_, rfl, q⟩⟩
end
instance is_fz {ds : List D} : Ist (.fz ds) false := ⟨rfl⟩
instance ty_fz {ds : List D} : TyN (.fz ds) "list" := ⟨rfl⟩
section
variable {ds : List D} {n : Nat} {Q : D → Prop}
instance q_lenF_ [h : Len ds n] : St (W1 (cLen [.fz ds]) Q) (Q (.int (n : Int))) := ⟨fun q => ⟨_, by simp only [cLen, h.eq], q⟩⟩
instance q_listF_ [h : PuL ds true] : St (W1 (cList [.fz ds]) Q) (Q (.lst ds)) := ⟨fun q => ⟨_, by simp [cList, seqP, h.eq], q⟩⟩
instance q_tupleF_ [h : PuL ds true] : St (W1 (cTuple [.fz ds]) Q) (Q (.tup ds)) := ⟨fun q => ⟨_, by simp [cTuple, seqP, h.eq], q⟩⟩
end
section
variable {ρ : Env} {o : Opd} {i : Int} {n : Nat} {d : D} {ds : List D} {Q : Opd → Env → Prop}
instance (priority := high) x_litF {o' : Opd} {ρ2 : Env} {b : Bool} [a : NatI i n] [g : GetAt ds n d] [p : Pu d b] [x : IxE o d b ρ o' ρ2] : St (WV (ixO o (.fz ds) (.int i) ρ) Q) (Q o' ρ2) := ⟨fun q => ⟨_, _, x.eq _ _ (by rw [a.eq]; exact atI_nat g.eq) p.eq, q⟩⟩
instance x_mapF {α : Type} {f : α → D} {xs : List α} [a : NatI i n] [p : PuF f] : St (WV (ixO o (.fz (xs.map f)) (.int i) ρ) Q) (WP (n < xs.length) (∀ x, xs[n]? = some x → Q (.tm true (f x)) ρ)) := ⟨fun ⟨h, q⟩ => by
  obtain ⟨x, hx⟩ : ∃ x, xs[n]? = some x := ⟨xs[n], List.getElem?_eq_getElem h⟩
  exact ⟨_, _, ie_p.eq (.fz (xs.map f)) i (by rw [a.eq]; exact atI_nat (by rw [List.getElem?_map, hx]; rfl)) (p.eq x), q x hx⟩⟩
end
/-! ### what may be compared at all -/
class OkD (d : D) (k : outParam Nat) : Prop where
  ok : d.ok = true
  lay : PyData.canLay0 d.py = true
  dep : PyData.depth d.py ≤ k
class OkDs (ds : List D) (k : outParam Nat) : Prop where
  ok : D.oks ds = true
  lay : PyData.canLayAll0 (D.pys ds) = true
  dep : PyData.depthAll (D.pys ds) ≤ k
instance okd_non : OkD .non 0 := ⟨rfl, rfl, Nat.le_refl _⟩
instance okd_bl {b : Bool} : OkD (.bl b) 0 := ⟨rfl, rfl, Nat.le_refl _⟩
instance okd_int {i : Int} : OkD (.int i) 0 := ⟨rfl, rfl, Nat.le_refl _⟩
instance okd_tup {ds : List D} {k : Nat} [h : OkDs ds k] : OkD (.tup ds) (k + 1) := ⟨h.ok, h.lay, by have := h.dep; simp only [D.py, PyData.depth]; omega⟩
instance okd_lst {ds : List D} {k : Nat} [h : OkDs ds k] : OkD (.lst ds) (k + 1) := ⟨h.ok, h.lay, by have := h.dep; simp only [D.py, PyData.depth]; omega⟩
instance okd_fz {ds : List D} {k : Nat} [h : OkDs ds k] : OkD (.fz ds) (k + 1) := ⟨h.ok, h.lay, by have := h.dep; simp only [D.py, PyData.depth]; omega⟩
instance oks_n : OkDs [] 0 := ⟨rfl, rfl, Nat.le_refl _⟩
instance oks_c {d : D} {ds : List D} {k l : Nat} [h : OkD d k] [h' : OkDs ds l] : OkDs (d :: ds) (max k l) := ⟨by simp [D.oks, h.ok, h'.ok], by simp [D.pys, PyData.canLayAll0, h.lay, h'.lay], by
  have h1 := h.dep
  have h2 := h'.dep
  simp only [D.pys, PyData.depthAll]
  omega⟩
theorem oks_of {ds : List D} {k : Nat} (h : ∀ d ∈ ds, OkD d k) : OkDs ds k := by
  induction ds with
  | nil => exact ⟨rfl, rfl, Nat.zero_le _⟩
  | cons d ds ih =>
    have h1 := h d List.mem_cons_self
    have h2 := ih fun x hx => h x (List.mem_cons_of_mem _ hx)
    refine ⟨by simp [D.oks, h1.ok, h2.ok], by simp [D.pys, PyData.canLayAll0, h1.lay, h2.lay], ?_⟩
    have h1 := h1.dep
    have h2 := h2.dep
    simp only [D.pys, PyData.depthAll]
    omega
instance oks_m {α : Type} {f : α → D} {xs : List α} {k : Nat} [h : ∀ x, OkD (f x) k] : OkDs (xs.map f) k := oks_of fun d hd => by
  obtain ⟨x, _, rfl⟩ := List.mem_map.mp hd
  exact h x
instance e2l_ok0 {α : Type} {f : α → D} {xs : List α} {k : Nat} [h : ∀ x, OkD (f x) k] : Eq2L (xs.map f) [] (decide (xs = [])) k := by
  have q := (oks_m (f := f) (xs := xs) (k := k))
  refine ⟨⟨q.ok, rfl⟩, ⟨q.lay, rfl⟩, ⟨q.dep, Nat.zero_le _⟩, ?_⟩
  cases xs with
  | nil => rfl
  | cons x xs => simp [D.pys, PyData.eqvAll]
section
variable {ds es : List D} {b : Bool} {k : Nat}
instance e2_fl [h : Eq2L ds es b k] : Eq2 (.fz ds) (.lst es) b (k + 1) := ⟨h.ok, h.lay, ⟨by have := h.dep.1; simp only [D.py, PyData.depth]; omega, by have := h.dep.2; simp only [D.py, PyData.depth]; omega⟩, by simp only [D.py, PyData.eqv, h.eqv]⟩
instance e2_lf [h : Eq2L ds es b k] : Eq2 (.lst ds) (.fz es) b (k + 1) := ⟨h.ok, h.lay, ⟨by have := h.dep.1; simp only [D.py, PyData.depth]; omega, by have := h.dep.2; simp only [D.py, PyData.depth]; omega⟩, by simp only [D.py, PyData.eqv, h.eqv]⟩
instance e2_ff [h : Eq2L ds es b k] : Eq2 (.fz ds) (.fz es) b (k + 1) := ⟨h.ok, h.lay, ⟨by have := h.dep.1; simp only [D.py, PyData.depth]; omega, by have := h.dep.2; simp only [D.py, PyData.depth]; omega⟩, by simp only [D.py, PyData.eqv, h.eqv]⟩
end
section
variable {ds es : List D} {b : Bool} {k : Nat} {Q : D → Prop}
instance (priority := low) q_eqFL [h : Eq2 (.fz ds) (.lst es) b k] : St (W1 (dEq (.fz ds) (.lst es)) Q) (WP (k < 60) (Q (.bl b))) := ⟨fun ⟨hk, q⟩ => ⟨_, by simp only [dEq, eq2_D h hk, Option.map_some], q⟩⟩
instance (priority := low) q_neFL [h : Eq2 (.fz ds) (.lst es) b k] : St (W1 (dNe (.fz ds) (.lst es)) Q) (WP (k < 60) (Q (.bl (!b)))) := ⟨fun ⟨hk, q⟩ => ⟨_, by simp only [dNe, eq2_D h hk, Option.map_some], q⟩⟩
instance (priority := low) q_eqLF [h : Eq2 (.lst ds) (.fz es) b k] : St (W1 (dEq (.lst ds) (.fz es)) Q) (WP (k < 60) (Q (.bl b))) := ⟨fun ⟨hk, q⟩ => ⟨_, by simp only [dEq, eq2_D h hk, Option.map_some], q⟩⟩
instance (priority := low) q_neLF [h : Eq2 (.lst ds) (.fz es) b k] : St (W1 (dNe (.lst ds) (.fz es)) Q) (WP (k < 60) (Q (.bl (!b)))) := ⟨fun ⟨hk, q⟩ => ⟨_, by simp only [dNe, eq2_D h hk, Option.map_some], q⟩⟩
instance (priority := low) q_eqFF [h : Eq2 (.fz ds) (.fz es) b k] : St (W1 (dEq (.fz ds) (.fz es)) Q) (WP (k < 60) (Q (.bl b))) := ⟨fun ⟨hk, q⟩ => ⟨_, by simp only [dEq, eq2_D h hk, Option.map_some], q⟩⟩
instance (priority := low) q_neFF [h : Eq2 (.fz ds) (.fz es) b k] : St (W1 (dNe (.fz ds) (.fz es)) Q) (WP (k < 60) (Q (.bl (!b)))) := ⟨fun ⟨hk, q⟩ => ⟨_, by simp only [dNe, eq2_D h hk, Option.map_some], q⟩⟩
end
/-- the first way ends where the second one does -/
theorem wif_to {b : Bool} {P1 P2 : Prop} (q : P2) (h : P2 → b = true → P1) : WIf b P1 P2 := by
  cases b with
  | true => exact wif_t rfl (h q rfl)
  | false => exact wif_f rfl q
theorem wif_fro {b : Bool} {P1 P2 : Prop} (q : P1) (h : P1 → b = false → P2) : WIf b P1 P2 := by
  cases b with
  | true => exact wif_t rfl q
  | false => exact wif_f rfl (h q rfl)
end U.P

/-! U15z: x in xs, x not in xs: any data, in lists and tuples. -/
namespace U
open PySem PySem.W PyProof.Rows L2
def seqX : D → Option (List D)
  | .lst ds => some ds
  | .fz ds => some ds
  | .tup ds => some ds
  | _ => none
def dInX (k e : D) : Option D := match seqX e with
  | some ds => match inOk k ds with
    | true => some (.bl (ds.any (eqB k)))
    | false => none
  | none => none
def dNotInX (k e : D) : Option D := match seqX e with
  | some ds => match inOk k ds with
    | true => some (.bl (!ds.any (eqB k)))
    | false => none
  | none => none
def rInX (K : PySem.W.Frag) : R2 := fun x y H Q => ∃ (k e : D) (ds : List D) (F G : List Addr), Rep K H k x F ∧ Rep K H e y G ∧ seqX e = some ds ∧ inOk k ds = true ∧ Q (.bl (ds.any (eqB k))) H
def rNotInX (K : PySem.W.Frag) : R2 := fun x y H Q => ∃ (k e : D) (ds : List D) (F G : List Addr), Rep K H k x F ∧ Rep K H e y G ∧ seqX e = some ds ∧ inOk k ds = true ∧ Q (.bl (!ds.any (eqB k))) H
theorem op_inX {X : Cx} (hu : X.A.units + 65 < cLine) : OpR X (compareOp .In) (rInX X.K) := by
  intro pins s σ H x y v u Q I rx ry h
  obtain ⟨k, e, ds, F, G, r1, r2, he, ho, q⟩ := h
  simp only [inOk, Bool.and_eq_true] at ho
  obtain ⟨⟨⟨h1, h2⟩, h3⟩, h4⟩ := ho
  obtain ⟨as, d1⟩ := Dp.reads I _ _ _ (Rep.dp k x F r1 h1) rx
  have hq : (D.pys ds).any (fun y => PyData.eqv y k.py) = ds.any (eqB k) := by rw [pys_map, List.any_map]; rfl
  cases e <;> cases he
  · obtain ⟨bs, d2⟩ := Dp.reads I _ _ _ (Rep.dp (.lst ds) y G r2 (by simpa [D.ok] using h2)) ry
    exact SeqAt.in_list_reads d2 d1 h4 (SeqAt.canLay_of_shaped h3) (room_in_shaped h3 hu) ⟨.bl _, H, I, rfl, by rw [hq]; exact q⟩
  · obtain ⟨bs, d2⟩ := Dp.reads I _ _ _ (Rep.dp (.tup ds) y G r2 (by simpa [D.ok] using h2)) ry
    exact SeqAt.in_tuple_reads d2 d1 h4 (SeqAt.canLay_of_shaped h3) (room_in_shaped h3 hu) ⟨.bl _, H, I, rfl, by rw [hq]; exact q⟩
  · obtain ⟨bs, d2⟩ := Dp.reads I _ _ _ (Rep.dp (.fz ds) y G r2 (by simpa [D.ok] using h2)) ry
    exact SeqAt.in_list_reads d2 d1 h4 (SeqAt.canLay_of_shaped h3) (room_in_shaped h3 hu) ⟨.bl _, H, I, rfl, by rw [hq]; exact q⟩
theorem op_notInX {X : Cx} (hu : X.A.units + 65 < cLine) : OpR X (compareOp .NotIn) (rNotInX X.K) := by
  intro pins s σ H x y v u Q I rx ry h
  obtain ⟨k, e, ds, F, G, r1, r2, he, ho, q⟩ := h
  simp only [inOk, Bool.and_eq_true] at ho
  obtain ⟨⟨⟨h1, h2⟩, h3⟩, h4⟩ := ho
  obtain ⟨as, d1⟩ := Dp.reads I _ _ _ (Rep.dp k x F r1 h1) rx
  have hq : (D.pys ds).any (fun y => PyData.eqv y k.py) = ds.any (eqB k) := by rw [pys_map, List.any_map]; rfl
  cases e <;> cases he
  · obtain ⟨bs, d2⟩ := Dp.reads I _ _ _ (Rep.dp (.lst ds) y G r2 (by simpa [D.ok] using h2)) ry
    exact SeqAt.notIn_list_reads d2 d1 h4 (SeqAt.canLay_of_shaped h3) (room_in_shaped h3 hu) ⟨.bl _, H, I, rfl, by rw [hq]; exact q⟩
  · obtain ⟨bs, d2⟩ := Dp.reads I _ _ _ (Rep.dp (.tup ds) y G r2 (by simpa [D.ok] using h2)) ry
    exact SeqAt.notIn_tuple_reads d2 d1 h4 (SeqAt.canLay_of_shaped h3) (room_in_shaped h3 hu) ⟨.bl _, H, I, rfl, by rw [hq]; exact q⟩
  · obtain ⟨bs, d2⟩ := Dp.reads I _ _ _ (Rep.dp (.fz ds) y G r2 (by simpa [D.ok] using h2)) ry
    exact SeqAt.notIn_list_reads d2 d1 h4 (SeqAt.canLay_of_shaped h3) (room_in_shaped h3 hu) ⟨.bl _, H, I, rfl, by rw [hq]; exact q⟩
theorem rop_inX {K : PySem.W.Frag} : ROp K (rInX K) dInX := by
  intro d1 d2 d e H v w F G r1 r2 Q h
  unfold dInX at e
  split at e
  · rename_i ds hs
    split at e
    · rename_i ho
      cases e
      exact ⟨_, _, ds, F, G, r1, r2, hs, ho, h _ H [] (New.nil H) (by simp [Rep])⟩
    · cases e
  · cases e
theorem rop_notInX {K : PySem.W.Frag} : ROp K (rNotInX K) dNotInX := by
  intro d1 d2 d e H v w F G r1 r2 Q h
  unfold dNotInX at e
  split at e
  · rename_i ds hs
    split at e
    · rename_i ho
      cases e
      exact ⟨_, _, ds, F, G, r1, r2, hs, ho, h _ H [] (New.nil H) (by simp [Rep])⟩
    · cases e
  · cases e
theorem k_inX {G : Gb} {S : Sc} : InK G S .In (rInX G.K) dInX := ⟨fun X g => by rw [← g.K]; exact op_inX (units65 g), rop_inX⟩
theorem k_notInX {G : Gb} {S : Sc} : InK G S .NotIn (rNotInX G.K) dNotInX := ⟨fun X g => by rw [← g.K]; exact op_notInX (units65 g), rop_notInX⟩
end U

/-! W25: in, not in: data in lists and tuples. -/
namespace U.P
open PySem L2 U
class InL (d : D) (ds : List D) (b : outParam Bool) (k : outParam Nat) : Prop where
  ok : d.ok = true ∧ D.oks ds = true
  lay : PyData.canLay0 d.py = true ∧ PyData.canLayAll0 (D.pys ds) = true
  dep : PyData.depth d.py ≤ k
  eq : ds.any (eqB d) = b
section
variable {d e : D} {ds es : List D} {b c : Bool} {k l : Nat} {Q : D → Prop}
instance il_nil [h : OkD d k] : InL d [] false k := ⟨⟨h.ok, rfl⟩, ⟨h.lay, rfl⟩, h.dep, rfl⟩
instance (priority := low) il_cons [h : Eq2 e d b k] [h' : InL d es c l] : InL d (e :: es) (b || c) l := ⟨⟨h'.ok.1, by simp [D.oks, h.ok.1, h'.ok.2]⟩, ⟨h'.lay.1, by simp [D.pys, PyData.canLayAll0, h.lay.1, h'.lay.2]⟩, h'.dep, by
  rw [List.any_cons, h'.eq]
  have : eqB d e = b := h.eqv
  rw [this]⟩
instance il_map {α : Type} [DecidableEq α] {f : α → D} {xs : List α} {x : α} [h : EqF f k] [c : Cv f d x] : InL d (xs.map f) (decide (x ∈ xs)) k := by
  obtain rfl := c.eq
  exact ⟨⟨h.ok x, ef_oks h xs⟩, ⟨h.lay x, ef_lays h xs⟩, h.dep x, any_map_eq h x xs⟩
theorem InL.inOk (h : InL d ds b k) (hk : k < 60) : inOk d ds = true := by
  have h1 := h.dep
  have s : SeqAt.shaped d.py = true := by
    simp only [SeqAt.shaped, h.lay.1, Bool.true_and]
    exact decide_eq_true (by omega)
  simp only [U.inOk, h.ok.1, h.ok.2, h.lay.2, s, Bool.and_self]
instance q_inXl [h : InL d ds b k] : St (W1 (dInX d (.lst ds)) Q) (WP (k < 60) (Q (.bl b))) := ⟨fun ⟨hk, q⟩ => ⟨_, by simp only [dInX, seqX, h.inOk hk, h.eq], q⟩⟩
instance q_inXt [h : InL d ds b k] : St (W1 (dInX d (.tup ds)) Q) (WP (k < 60) (Q (.bl b))) := ⟨fun ⟨hk, q⟩ => ⟨_, by simp only [dInX, seqX, h.inOk hk, h.eq], q⟩⟩
instance q_inXf [h : InL d ds b k] : St (W1 (dInX d (.fz ds)) Q) (WP (k < 60) (Q (.bl b))) := ⟨fun ⟨hk, q⟩ => ⟨_, by simp only [dInX, seqX, h.inOk hk, h.eq], q⟩⟩
instance q_notInXl [h : InL d ds b k] : St (W1 (dNotInX d (.lst ds)) Q) (WP (k < 60) (Q (.bl (!b)))) := ⟨fun ⟨hk, q⟩ => ⟨_, by simp only [dNotInX, seqX, h.inOk hk, h.eq], q⟩⟩
instance q_notInXt [h : InL d ds b k] : St (W1 (dNotInX d (.tup ds)) Q) (WP (k < 60) (Q (.bl (!b)))) := ⟨fun ⟨hk, q⟩ => ⟨_, by simp only [dNotInX, seqX, h.inOk hk, h.eq], q⟩⟩
instance q_notInXf [h : InL d ds b k] : St (W1 (dNotInX d (.fz ds)) Q) (WP (k < 60) (Q (.bl (!b)))) := ⟨fun ⟨hk, q⟩ => ⟨_, by simp only [dNotInX, seqX, h.inOk hk, h.eq], q⟩⟩
end
instance (priority := low) q_sumL {ds : List D} {ks : List Nat} {Q : D → Prop} [h : NatsL ds ks] : St (W1 (cSum [.lst ds]) Q) (Q (.int ((ks.sum : Nat) : Int))) := ⟨fun q => by rw [h.eq]; exact q_sumN.pf q⟩
end U.P

namespace U
open PySem L2
namespace Mir
def m_holds : MS :=
  (mRet (mOp dEq (mOp dShr (mName 2) (mOp dSub (mName 1) (mIx (mName 0) (mC (.int ((0 : Nat) : Int)))))) (mIx (mName 0) (mC (.int ((1 : Nat) : Int))))))
def F_holds : Fn := fnOf [false, false, false] 0 m_holds
def m_halves_of : MS :=
  (mSeq (mAsg (mVal false (mName 0)) (gTupD 2 (gsCons (gSet 1) (gsCons (gSet 2) gsNil))))
  (mRet (mTup (mCons (mTup (mCons (mOp dAdd (mName 1) (mC (.int ((1 : Nat) : Int)))) (mCons (mOp dMul (mC (.int ((2 : Nat) : Int))) (mName 2)) mNil))) (mCons (mTup (mCons (mOp dAdd (mName 1) (mC (.int ((1 : Nat) : Int)))) (mCons (mOp dAdd (mOp dMul (mC (.int ((2 : Nat) : Int))) (mName 2)) (mC (.int ((1 : Nat) : Int)))) mNil))) mNil)))))
def F_halves_of : Fn := fnOf [false] 2 m_halves_of
def m_branch_of : MS :=
  (mRet (mTup (mMv (mCons (mName 2) (mCons (mOp dShr (mName 0) (mOp dSub (mName 1) (mName 2))) mNil)))))
def F_branch_of : Fn := fnOf [false, false, false] 0 m_branch_of
def m_turned : MS :=
  (mSeq (mAsg (mVal false (mName 0)) (gTupD 2 (gsCons (gSet 3) (gsCons (gSet 4) gsNil))))
  (mRet (mTup (mMv (mCons (mName 3) (mCons (mOp dXor (mName 4) (mOp dShr (mName 2) (mOp dSub (mName 1) (mName 3)))) mNil))))))
def F_turned : Fn := fnOf [false, false, false] 2 m_turned
def m_heads_of : MS :=
  (mRet (mCB cTuple (mCons (mCB cSortX (mCons (mCB cDictT (mCons (mLc (mSrc (mName 0)) (gSet 3) mYes (mTup (mCons (mOp dShr (mName 3) (mOp dSub (mName 1) (mName 2))) (mCons (mC (.bl true)) mNil))) [3]) mNil)) mNil)) mNil)))
def F_heads_of : Fn := fnOf [false, false, false] 1 m_heads_of
def m_count_in : MS :=
  (mRet (mCB cLen (mCons (mLc (mSrc (mName 0)) (gSet 3) (mB (mCall [false, false, false] F_holds (mCons (mName 2) (mCons (mName 1) (mCons (mName 3) mNil))))) (mVal false (mName 3)) [3]) mNil)))
def F_count_in : Fn := fnOf [false, false, false] 1 m_count_in
def m_splits_of : MS :=
  (mSeq (mAsg (mCB cSortX (mCons (mCB cDictT (mCons (mLc (mSrc (mName 0)) (gSet 3) mYes (mTup (mCons (mVal false (mName 3)) (mCons (mC (.bl true)) mNil))) [3]) mNil)) mNil)) (gSet 2))
  (mSeq (mAsg (mLst mNil) (gSet 4))
  (mSeq (mPre [5, 6, 7] (mFor (mZip (mCons (mName 2) (mCons (mSl (mName 2) (mPart (mC (.int ((1 : Nat) : Int)))) mNoPart) mNil))) (gTupD 2 (gsCons (gSet 5) (gsCons (gSet 6) gsNil)))
    (mKill [5, 6, 7] (mSeq (mAsg (mOp dSub (mName 1) (mUn dBits (mOp dXor (mName 5) (mName 6)))) (gSet 7))
    (mDrop (mMut 4 xAppend (mCons (mTup (mCons (mVal false (mName 7)) (mCons (mOp dShr (mName 5) (mOp dSub (mName 1) (mName 7))) mNil))) mNil)))))))
  (mRet (mCB (cSortD false) (mCons (mName 4) mNil))))))
def F_splits_of : Fn := fnOf [false, false] 6 m_splits_of
def m_unlike : MS :=
  (mRet (mOp dXor (mName 0) (mName 1)))
def F_unlike : Fn := fnOf [false, false] 0 m_unlike
def m_alike_ahead : MS :=
  (mRet (mOp dSub (mName 2) (mUn dBits (mOp dXor (mName 0) (mName 1)))))
def F_alike_ahead : Fn := fnOf [false, false, false] 0 m_alike_ahead
def m__law_box : MS :=
  (mSeq (mAsg (mIx (mOp dAdd (mName 0) (mOp dMul (mLst (mCons (mC (.int ((0 : Nat) : Int))) mNil)) (mOp dAdd (mName 1) (mC (.int ((1 : Nat) : Int)))))) (mName 1)) (gSet 2))
  (mRet (mLst (mCons (mOp dMul (mCB cAbs (mCons (mName 2) mNil)) (mCB cInt (mCons (mOp dGe (mCB cAbs (mCons (mName 2) mNil)) (mOp dPow (mC (.int ((10 : Nat) : Int))) (mC (.int ((18 : Nat) : Int))))) mNil))) (mCons (mOp dMod (mOp dMul (mOp dAdd (mOp dAdd (mOp dMod (mName 2) (mC (.int ((2147483629 : Nat) : Int)))) (mOp dMul (mC (.int ((15485863 : Nat) : Int))) (mName 1))) (mC (.int ((37 : Nat) : Int)))) (mC (.int ((48271 : Nat) : Int)))) (mC (.int ((2147483647 : Nat) : Int)))) (mCons (mC (.int ((0 : Nat) : Int))) mNil))))))
def F__law_box : Fn := fnOf [false, false] 1 m__law_box
def m__law_take : MS :=
  (mSeq (mIfS (mB (mOp dGt (mIx (mName 0) (mC (.int ((0 : Nat) : Int)))) (mC (.int ((0 : Nat) : Int)))))
    (mSeq (mAsg (mCB cDivmod (mCons (mIx (mName 0) (mC (.int ((0 : Nat) : Int)))) (mCons (mName 1) mNil))) (gTupD 2 (gsCons (gSubD 0 (mC (.int ((0 : Nat) : Int)))) (gsCons (gSet 2) gsNil))))
    (mRet (mVal true (mName 2))))
    mNext)
  (mSeq (mAsg (mOp dAdd (mIx (mName 0) (mC (.int ((2 : Nat) : Int)))) (mC (.int ((1 : Nat) : Int)))) (gSubD 0 (mC (.int ((2 : Nat) : Int)))))
  (mSeq (mAsg (mOp dMod (mOp dMul (mOp dAdd (mIx (mName 0) (mC (.int ((1 : Nat) : Int)))) (mOp dMul (mC (.int ((39373 : Nat) : Int))) (mIx (mName 0) (mC (.int ((2 : Nat) : Int)))))) (mOp dAdd (mC (.int ((69621 : Nat) : Int))) (mIx (mName 0) (mC (.int ((2 : Nat) : Int)))))) (mC (.int ((2147483587 : Nat) : Int)))) (gSet 3))
  (mSeq (mAsg (mOp dMod (mOp dAdd (mOp dMul (mName 3) (mOp dAdd (mOp dMod (mName 3) (mC (.int ((30011 : Nat) : Int)))) (mC (.int ((5 : Nat) : Int))))) (mIx (mName 0) (mC (.int ((2 : Nat) : Int))))) (mC (.int ((2147483563 : Nat) : Int)))) (gSet 4))
  (mRet (mOp dMod (mOp dFdiv (mOp dMod (mOp dMul (mName 4) (mOp dAdd (mOp dMod (mName 4) (mC (.int ((1013 : Nat) : Int)))) (mC (.int ((3 : Nat) : Int))))) (mC (.int ((998244353 : Nat) : Int)))) (mC (.int ((16 : Nat) : Int)))) (mName 1)))))))
def F__law_take : Fn := fnOf [true, false] 3 m__law_take
def m__law_folded : MS :=
  (mSeq (mAsg (mCB cList (mCons (mSl (mName 0) mNoPart (mPart (mName 1))) mNil)) (gSet 2))
  (mSeq (mPre [3, 4] (mFor (mEnum (mCons (mSl (mName 0) (mPart (mName 1)) (mPart (mC (.int ((63 : Nat) : Int))))) mNil)) (gTupD 2 (gsCons (gSet 3) (gsCons (gSet 4) gsNil)))
    (mKill [3, 4] (mAsg (mOp dAdd (mIx (mName 2) (mOp dMod (mName 3) (mName 1))) (mOp dMul (mName 4) (mOp dAdd (mName 3) (mC (.int ((2 : Nat) : Int)))))) (gSubD 2 (mOp dMod (mName 3) (mName 1)))))))
  (mRet (mVal true (mName 2)))))
def F__law_folded : Fn := fnOf [false, false] 3 m__law_folded
def m__law_wide : MS :=
  (mSeq (mAsg (mCall [true, false] F__law_take (mCons (mName 0) (mCons (mC (.int ((8 : Nat) : Int))) mNil))) (gSet 1))
  (mSeq (mIfS (mB (mOp dLt (mName 1) (mC (.int ((4 : Nat) : Int)))))
    (mRet (mOp dAdd (mC (.int ((1 : Nat) : Int))) (mCall [true, false] F__law_take (mCons (mName 0) (mCons (mC (.int ((8 : Nat) : Int))) mNil)))))
    mNext)
  (mRet (mIx (mLst (mCons (mC (.int ((60 : Nat) : Int))) (mCons (mC (.int ((59 : Nat) : Int))) (mCons (mC (.int ((31 : Nat) : Int))) (mCons (mC (.int ((32 : Nat) : Int))) (mCons (mOp dAdd (mC (.int ((1 : Nat) : Int))) (mCall [true, false] F__law_take (mCons (mName 0) (mCons (mC (.int ((60 : Nat) : Int))) mNil)))) (mCons (mOp dAdd (mC (.int ((9 : Nat) : Int))) (mCall [true, false] F__law_take (mCons (mName 0) (mCons (mC (.int ((12 : Nat) : Int))) mNil)))) mNil))))))) (mCall [true, false] F__law_take (mCons (mName 0) (mCons (mC (.int ((6 : Nat) : Int))) mNil)))))))
def F__law_wide : Fn := fnOf [true] 1 m__law_wide
def m__law_number : MS :=
  (mSeq (mAsg (mC (.int ((0 : Nat) : Int))) (gSet 2))
  (mSeq (mPre [3] (mFor (mRange rangeD (mCons (mC (.int ((3 : Nat) : Int))) mNil)) (gSet 3)
    (mKill [3] (mAsg (mOp dAdd (mOp dMul (mName 2) (mC (.int ((1048576 : Nat) : Int)))) (mCall [true, false] F__law_take (mCons (mName 0) (mCons (mC (.int ((1048576 : Nat) : Int))) mNil)))) (gSet 2)))))
  (mRet (mOp dMod (mName 2) (mOp dShl (mC (.int ((1 : Nat) : Int))) (mName 1))))))
def F__law_number : Fn := fnOf [true, false] 2 m__law_number
def m__law_any_number : MS :=
  (mSeq (mAsg (mOp dSub (mOp dShl (mC (.int ((1 : Nat) : Int))) (mName 1)) (mC (.int ((1 : Nat) : Int)))) (gSet 2))
  (mSeq (mAsg (mLst (mCons (mC (.int ((0 : Nat) : Int))) (mCons (mVal false (mName 2)) (mCons (mOp dShl (mC (.int ((1 : Nat) : Int))) (mCall [true, false] F__law_take (mCons (mName 0) (mCons (mName 1) mNil)))) (mCons (mOp dSub (mName 2) (mOp dShl (mC (.int ((1 : Nat) : Int))) (mCall [true, false] F__law_take (mCons (mName 0) (mCons (mName 1) mNil))))) (mCons (mCall [true, false] F__law_number (mCons (mName 0) (mCons (mName 1) mNil))) mNil)))))) (gSet 3))
  (mRet (mIx (mName 3) (mCB cMin2 (mCons (mC (.int ((4 : Nat) : Int))) (mCons (mCall [true, false] F__law_take (mCons (mName 0) (mCons (mC (.int ((8 : Nat) : Int))) mNil))) mNil)))))))
def F__law_any_number : Fn := fnOf [true, false] 2 m__law_any_number
def m__law_many : MS :=
  (mSeq (mIfS (mB (mOp dEq (mCall [true, false] F__law_take (mCons (mName 0) (mCons (mC (.int ((8 : Nat) : Int))) mNil))) (mC (.int ((0 : Nat) : Int)))))
    (mRet (mOp dAdd (mC (.int ((9 : Nat) : Int))) (mCall [true, false] F__law_take (mCons (mName 0) (mCons (mOp dSub (mName 2) (mC (.int ((8 : Nat) : Int)))) mNil)))))
    mNext)
  (mRet (mCall [true, false] F__law_take (mCons (mName 0) (mCons (mOp dAdd (mName 1) (mC (.int ((1 : Nat) : Int)))) mNil)))))
def F__law_many : Fn := fnOf [true, false, false] 0 m__law_many
def m__law_row : MS :=
  (mSeq (mAsg (mCall [true, false] F__law_take (mCons (mName 0) (mCons (mC (.int ((7 : Nat) : Int))) mNil))) (gSet 3))
  (mSeq (mAsg (mCall [true, false] F__law_any_number (mCons (mName 0) (mCons (mName 1) mNil))) (gSet 4))
  (mSeq (mAsg (mLc (mRange rangeD (mCons (mC (.int ((3 : Nat) : Int))) mNil)) (gSet 6) mYes (mCall [true, false] F__law_any_number (mCons (mName 0) (mCons (mName 1) mNil))) [6]) (gSet 5))
  (mSeq (mAsg (mOp dShl (mC (.int ((1 : Nat) : Int))) (mOp dAdd (mCall [true, false] F__law_take (mCons (mName 0) (mCons (mName 1) mNil))) (mC (.int ((1 : Nat) : Int))))) (gSet 7))
  (mSeq (mAsg (mLst mNil) (gSet 8))
  (mSeq (mPre [9, 10] (mFor (mRange rangeD (mCons (mName 2) mNil)) (gSet 9)
    (mKill [9, 10] (mSeq (mAsg (mCall [true, false] F__law_any_number (mCons (mName 0) (mCons (mName 1) mNil))) (gSet 10))
    (mSeq (mIfJ (mB (mOp dEq (mName 3) (mC (.int ((1 : Nat) : Int)))))
      (mAsg (mOp dXor (mName 4) (mOp dMod (mName 10) (mCB cMin2 (mCons (mC (.int ((8 : Nat) : Int))) (mCons (mOp dShl (mC (.int ((1 : Nat) : Int))) (mName 1)) mNil))))) (gSet 10))
      (mIfS (mB (mOp dEq (mName 3) (mC (.int ((2 : Nat) : Int)))))
        (mAsg (mIx (mName 5) (mCall [true, false] F__law_take (mCons (mName 0) (mCons (mC (.int ((3 : Nat) : Int))) mNil)))) (gSet 10))
        (mIfS (mB (mOp dEq (mName 3) (mC (.int ((3 : Nat) : Int)))))
          (mAsg (mOp dXor (mOp dXor (mIx (mLst (mCons (mC (.int ((0 : Nat) : Int))) (mCons (mIx (mName 5) (mC (.int ((0 : Nat) : Int)))) mNil))) (mOp dMod (mName 10) (mC (.int ((2 : Nat) : Int))))) (mIx (mLst (mCons (mC (.int ((0 : Nat) : Int))) (mCons (mIx (mName 5) (mC (.int ((1 : Nat) : Int)))) mNil))) (mOp dMod (mOp dFdiv (mName 10) (mC (.int ((2 : Nat) : Int)))) (mC (.int ((2 : Nat) : Int)))))) (mIx (mLst (mCons (mC (.int ((0 : Nat) : Int))) (mCons (mIx (mName 5) (mC (.int ((2 : Nat) : Int)))) mNil))) (mCall [true, false] F__law_take (mCons (mName 0) (mCons (mC (.int ((2 : Nat) : Int))) mNil))))) (gSet 10))
          (mIfS (mB (mOp dEq (mName 3) (mC (.int ((4 : Nat) : Int)))))
            (mAsg (mOp dMod (mOp dAdd (mName 4) (mName 9)) (mOp dShl (mC (.int ((1 : Nat) : Int))) (mName 1))) (gSet 10))
            (mIfS (mB (mOp dEq (mName 3) (mC (.int ((5 : Nat) : Int)))))
              (mAsg (mOp dAdd (mOp dSub (mName 4) (mOp dMod (mName 4) (mName 7))) (mOp dMod (mName 10) (mName 7))) (gSet 10))
              mNext)))))
    (mDrop (mMut 8 xAppend (mCons (mOp dMod (mName 10) (mOp dShl (mC (.int ((1 : Nat) : Int))) (mName 1))) mNil))))))))
  (mRet (mVal true (mName 8)))))))))
def F__law_row : Fn := fnOf [true, false, false] 8 m__law_row
def m__law_two_right : MS :=
  (mSeq (mAsg (mCall [false, false, false] F_alike_ahead (mCons (mName 1) (mCons (mName 2) (mCons (mName 0) mNil)))) (gSet 4))
  (mSeq (mAsg (mCall [false, false, false] F_branch_of (mCons (mName 1) (mCons (mName 0) (mCons (mName 4) mNil)))) (gSet 5))
  (mSeq (mIfS (mOr (mNot (mB (mCall [false, false, false] F_holds (mCons (mName 5) (mCons (mName 0) (mCons (mName 2) mNil)))))) (mAnd (mB (mOp dEq (mName 4) (mName 0))) (mB (mOp dNe (mName 1) (mName 2)))))
    (mRet (mC (.bl false)))
    mNext)
  (mSeq (mIfS (mB (mOp dEq (mName 1) (mName 2)))
    (mRet (mOp dEq (mName 4) (mName 0)))
    mNext)
  (mSeq (mIfS (mOr (mB (mOp dNotInB (mName 5) (mName 3))) (mB (mCall [false, false, false] F_holds (mCons (mCall [false, false, false] F_branch_of (mCons (mName 1) (mCons (mName 0) (mCons (mOp dAdd (mName 4) (mC (.int ((1 : Nat) : Int)))) mNil)))) (mCons (mName 0) (mCons (mName 2) mNil))))))
    (mRet (mC (.bl false)))
    mNext)
  (mRet (mChain dLe dLt (mOp dShl (mC (.int ((1 : Nat) : Int))) (mOp dSub (mOp dSub (mName 0) (mName 4)) (mC (.int ((1 : Nat) : Int))))) (mCall [false, false] F_unlike (mCons (mName 1) (mCons (mName 2) mNil))) (mOp dShl (mC (.int ((1 : Nat) : Int))) (mOp dSub (mName 0) (mName 4))))))))))
def F__law_two_right : Fn := fnOf [false, false, false, false] 2 m__law_two_right
def m__law_way_right : MS :=
  (mSeq (mPre [3, 4, 5, 6] (mFor (mRange rangeD (mCons (mName 1) mNil)) (gSet 3)
    (mKill [3, 4, 5, 6] (mSeq (mPar2 4 5 (mCons (mCall [false, false, false] F_branch_of (mCons (mName 2) (mCons (mName 1) (mCons (mName 3) mNil)))) (mCons (mCall [false, false, false] F_branch_of (mCons (mName 2) (mCons (mName 1) (mCons (mOp dAdd (mName 3) (mC (.int ((1 : Nat) : Int)))) mNil)))) mNil)))
    (mSeq (mAsg (mCall [false] F_halves_of (mCons (mName 4) mNil)) (gSet 6))
    (mSeq (mIfS (mOr (mNot (mB (mCall [false, false, false] F_holds (mCons (mName 4) (mCons (mName 1) (mCons (mName 2) mNil)))))) (mOr (mB (mOp dNotInX (mName 5) (mName 6))) (mB (mOp dNe (mIx (mName 5) (mC (.int ((0 : Nat) : Int)))) (mOp dAdd (mName 3) (mC (.int ((1 : Nat) : Int))))))))
      (mRet (mC (.bl false)))
      mNext)
    (mSeq (mIfS (mB (mOp dNe (mCB cSum (mCons (mLc (mSrc (mName 6)) (gSet 7) mYes (mCall [false, false, false] F_count_in (mCons (mName 0) (mCons (mName 1) (mCons (mName 7) mNil)))) [7]) mNil)) (mCall [false, false, false] F_count_in (mCons (mName 0) (mCons (mName 1) (mCons (mName 4) mNil))))))
      (mRet (mC (.bl false)))
      mNext)
    (mIfS (mNot (mB (mChain dLe dLe (mCB cLen (mCons (mCall [false, false, false] F_heads_of (mCons (mName 0) (mCons (mName 1) (mCons (mName 3) mNil)))) mNil)) (mCB cLen (mCons (mCall [false, false, false] F_heads_of (mCons (mName 0) (mCons (mName 1) (mCons (mOp dAdd (mName 3) (mC (.int ((1 : Nat) : Int)))) mNil)))) mNil)) (mOp dMul (mC (.int ((2 : Nat) : Int))) (mCB cLen (mCons (mCall [false, false, false] F_heads_of (mCons (mName 0) (mCons (mName 1) (mCons (mName 3) mNil)))) mNil))))))
      (mRet (mC (.bl false)))
      mNext))))))))
  (mRet (mC (.bl true))))
def F__law_way_right : Fn := fnOf [false, false, false] 5 m__law_way_right
def m_law : MS :=
  (mSeq (mAsg (mCall [false, false] F__law_folded (mCons (mName 0) (mCons (mC (.int ((8 : Nat) : Int))) mNil))) (gSet 1))
  (mSeq (mPre [2, 3, 4, 5, 6, 7, 8, 9, 10, 11] (mFor (mRange rangeD (mCons (mCB cMax2 (mCons (mC (.int ((3 : Nat) : Int))) (mCons (mCB cLen (mCons (mName 1) mNil)) mNil))) mNil)) (gSet 2)
    (mKill [2, 3, 4, 5, 6, 7, 8, 9, 10, 11] (mSeq (mAsg (mCall [false, false] F__law_box (mCons (mName 1) (mCons (mName 2) mNil))) (gSet 3))
    (mSeq (mAsg (mCall [true] F__law_wide (mCons (mName 3) mNil)) (gSet 4))
    (mSeq (mAsg (mCall [true, false, false] F__law_row (mCons (mName 3) (mCons (mName 4) (mCons (mCB cMax2 (mCons (mC (.int ((1 : Nat) : Int))) (mCons (mCall [true, false, false] F__law_many (mCons (mName 3) (mCons (mC (.int ((8 : Nat) : Int))) (mCons (mC (.int ((30 : Nat) : Int))) mNil)))) mNil))) mNil)))) (gSet 5))
    (mSeq (mAsg (mCall [false, false] F_splits_of (mCons (mName 5) (mCons (mName 4) mNil))) (gSet 6))
    (mSeq (mPre [7, 8, 9] (mFor (mRange rangeD (mCons (mC (.int ((6 : Nat) : Int))) mNil)) (gSet 7)
      (mKill [7, 8, 9] (mSeq (mPar2 8 9 (mCons (mIx (mName 5) (mCall [true, false] F__law_take (mCons (mName 3) (mCons (mCB cLen (mCons (mName 5) mNil)) mNil)))) (mCons (mIx (mName 5) (mCall [true, false] F__law_take (mCons (mName 3) (mCons (mCB cLen (mCons (mName 5) mNil)) mNil)))) mNil)))
      (mIfS (mOr (mNot (mB (mCall [false, false, false, false] F__law_two_right (mCons (mName 4) (mCons (mName 8) (mCons (mName 9) (mCons (mName 6) mNil))))))) (mNot (mB (mCall [false, false, false] F__law_way_right (mCons (mName 5) (mCons (mName 4) (mCons (mName 8) mNil)))))))
        (mRet (mC (.bl false)))
        mNext)))))
    (mSeq (mAsg (mCall [true, false] F__law_any_number (mCons (mName 3) (mCons (mName 4) mNil))) (gSet 10))
    (mSeq (mAsg (mLc (mSrc (mName 5)) (gSet 8) mYes (mCall [false, false] F_unlike (mCons (mName 8) (mCons (mName 10) mNil))) [8]) (gSet 11))
    (mSeq (mIfS (mB (mOp dNe (mCall [false, false] F_splits_of (mCons (mName 11) (mCons (mName 4) mNil))) (mCB (cSortD false) (mCons (mLc (mSrc (mName 6)) (gSet 12) mYes (mCall [false, false, false] F_turned (mCons (mName 12) (mCons (mName 4) (mCons (mName 10) mNil)))) [12]) mNil))))
      (mRet (mC (.bl false)))
      mNext)
    (mIfS (mB (mOp dNe (mLc (mSrc (mName 11)) (gSet 8) mYes (mCall [false, false] F_unlike (mCons (mName 8) (mCons (mName 10) mNil))) [8]) (mName 5)))
      (mRet (mC (.bl false)))
      mNext))))))))))))
  (mRet (mC (.bl true)))))
def F_law : Fn := fnOf [false] 12 m_law
end Mir
open Mir
def topS (i : Nat) : Stmt := PySem.Challenge.pw_unlikebits_k07_whole_branches_walked.main.body.getD i (.Pass ⟨0, 0, 0, 0⟩)
structure Facts (K : PySem.W.Frag) (mg : Str → Option Value) : Prop where
  z_abs : mg "abs" = none
  z_dict : mg "dict" = none
  z_divmod : mg "divmod" = none
  z_enumerate : mg "enumerate" = none
  z_int : mg "int" = none
  z_len : mg "len" = none
  z_list : mg "list" = none
  z_max : mg "max" = none
  z_min : mg "min" = none
  z_range : mg "range" = none
  z_sorted : mg "sorted" = none
  z_sum : mg "sum" = none
  z_tuple : mg "tuple" = none
  z_zip : mg "zip" = none
  f_holds : Has K mg "holds" (topS 1)
  f_halves_of : Has K mg "halves_of" (topS 2)
  f_branch_of : Has K mg "branch_of" (topS 3)
  f_turned : Has K mg "turned" (topS 4)
  f_heads_of : Has K mg "heads_of" (topS 5)
  f_count_in : Has K mg "count_in" (topS 6)
  f_splits_of : Has K mg "splits_of" (topS 7)
  f_unlike : Has K mg "unlike" (topS 9)
  f_alike_ahead : Has K mg "alike_ahead" (topS 10)
  f__law_box : Has K mg "_law_box" (topS 12)
  f__law_take : Has K mg "_law_take" (topS 13)
  f__law_folded : Has K mg "_law_folded" (topS 14)
  f__law_wide : Has K mg "_law_wide" (topS 15)
  f__law_number : Has K mg "_law_number" (topS 16)
  f__law_any_number : Has K mg "_law_any_number" (topS 17)
  f__law_many : Has K mg "_law_many" (topS 18)
  f__law_row : Has K mg "_law_row" (topS 19)
  f__law_two_right : Has K mg "_law_two_right" (topS 20)
  f__law_way_right : Has K mg "_law_way_right" (topS 21)
  f_law : Has K mg "law" (topS 22)
/-! ### holds -/
abbrev s_holds : Stmt := topS 1
def N_holds : List Str := ["branch", "wide", "number"]
theorem sc_holds : FnScope N_holds ["branch", "wide", "number"] (defScope s_holds) := ⟨rfl, rfl, rfl, by decide +kernel, rfl, by decide +kernel, by decide +kernel⟩
abbrev S_holds : Sc := scOf N_holds s_holds
theorem nd_holds : decide (S_holds).N.Nodup = true := by decide +kernel
theorem n_holds_0 : nameOk S_holds 0 "branch" = true := by decide +kernel
theorem n_holds_1 : nameOk S_holds 1 "wide" = true := by decide +kernel
theorem n_holds_2 : nameOk S_holds 2 "number" = true := by decide +kernel
theorem b_holds {P : Program} {w : World} {K : PySem.W.Frag} {mg : Str → Option Value} {base : Heap} (A : Facts K mg) : ∃ t, BSs ⟨P, w, K, mg, base, 0⟩ S_holds (defBody s_holds) t m_holds :=
  ⟨_, (bss_one (bs_ret (b_cmp k_eq (b_shr (b_name (i := 2) n_holds_2) (b_sub (b_name (i := 1) n_holds_1) (b_ix (b_name (i := 0) n_holds_0) b_int))) (b_ix (b_name (i := 0) n_holds_0) b_int))))⟩
theorem ok_holds {P : Program} {w : World} {K : PySem.W.Frag} {mg : Str → Option Value} {base : Heap} (A : Facts K mg) : FnK P w K mg base 1 "holds" [false, false, false] F_holds :=
  fn_k A.f_holds sc_holds rfl rfl (b_holds A) (fun _ _ _ _ _ _ us hl => match us, hl with | [_, _, _], _ => rfl)
/-! ### halves_of -/
abbrev s_halves_of : Stmt := topS 2
def N_halves_of : List Str := ["branch", "n", "head"]
theorem sc_halves_of : FnScope N_halves_of ["branch"] (defScope s_halves_of) := ⟨rfl, rfl, rfl, by decide +kernel, rfl, by decide +kernel, by decide +kernel⟩
abbrev S_halves_of : Sc := scOf N_halves_of s_halves_of
theorem nd_halves_of : decide (S_halves_of).N.Nodup = true := by decide +kernel
theorem n_halves_of_0 : nameOk S_halves_of 0 "branch" = true := by decide +kernel
theorem n_halves_of_1 : nameOk S_halves_of 1 "n" = true := by decide +kernel
theorem s_halves_of_1 : setOk S_halves_of 1 "n" = true := by decide +kernel
theorem n_halves_of_2 : nameOk S_halves_of 2 "head" = true := by decide +kernel
theorem s_halves_of_2 : setOk S_halves_of 2 "head" = true := by decide +kernel
theorem b_halves_of {P : Program} {w : World} {K : PySem.W.Frag} {mg : Str → Option Value} {base : Heap} (A : Facts K mg) : ∃ t, BSs ⟨P, w, K, mg, base, 0⟩ S_halves_of (defBody s_halves_of) t m_halves_of :=
  ⟨_, (bss_cons (bs_asg (b_val false (b_name (i := 0) n_halves_of_0)) (bg_tup (n := 2) (bgs_cons (bg_name (i := 1) s_halves_of_1) (bgs_cons (bg_name (i := 2) s_halves_of_2) bgs_nil))))
  (bss_one (bs_ret (b_tup (ba_cons (b_tup (ba_cons (b_add (b_name (i := 1) n_halves_of_1) b_int) (ba_cons (b_mul b_int (b_name (i := 2) n_halves_of_2)) ba_nil))) (ba_cons (b_tup (ba_cons (b_add (b_name (i := 1) n_halves_of_1) b_int) (ba_cons (b_add (b_mul b_int (b_name (i := 2) n_halves_of_2)) b_int) ba_nil))) ba_nil))))))⟩
theorem ok_halves_of {P : Program} {w : World} {K : PySem.W.Frag} {mg : Str → Option Value} {base : Heap} (A : Facts K mg) : FnK P w K mg base 1 "halves_of" [false] F_halves_of :=
  fn_k A.f_halves_of sc_halves_of rfl rfl (b_halves_of A) (fun _ _ _ _ _ _ us hl => match us, hl with | [_], _ => rfl)
/-! ### branch_of -/
abbrev s_branch_of : Stmt := topS 3
def N_branch_of : List Str := ["number", "wide", "n"]
theorem sc_branch_of : FnScope N_branch_of ["number", "wide", "n"] (defScope s_branch_of) := ⟨rfl, rfl, rfl, by decide +kernel, rfl, by decide +kernel, by decide +kernel⟩
abbrev S_branch_of : Sc := scOf N_branch_of s_branch_of
theorem nd_branch_of : decide (S_branch_of).N.Nodup = true := by decide +kernel
theorem n_branch_of_0 : nameOk S_branch_of 0 "number" = true := by decide +kernel
theorem n_branch_of_1 : nameOk S_branch_of 1 "wide" = true := by decide +kernel
theorem n_branch_of_2 : nameOk S_branch_of 2 "n" = true := by decide +kernel
theorem b_branch_of {P : Program} {w : World} {K : PySem.W.Frag} {mg : Str → Option Value} {base : Heap} (A : Facts K mg) : ∃ t, BSs ⟨P, w, K, mg, base, 0⟩ S_branch_of (defBody s_branch_of) t m_branch_of :=
  ⟨_, (bss_one (bs_ret (b_tup (ba_mv (ba_cons (b_name (i := 2) n_branch_of_2) (ba_cons (b_shr (b_name (i := 0) n_branch_of_0) (b_sub (b_name (i := 1) n_branch_of_1) (b_name (i := 2) n_branch_of_2))) ba_nil))))))⟩
theorem ok_branch_of {P : Program} {w : World} {K : PySem.W.Frag} {mg : Str → Option Value} {base : Heap} (A : Facts K mg) : FnK P w K mg base 1 "branch_of" [false, false, false] F_branch_of :=
  fn_k A.f_branch_of sc_branch_of rfl rfl (b_branch_of A) (fun _ _ _ _ _ _ us hl => match us, hl with | [_, _, _], _ => rfl)
/-! ### turned -/
abbrev s_turned : Stmt := topS 4
def N_turned : List Str := ["branch", "wide", "number", "n", "head"]
theorem sc_turned : FnScope N_turned ["branch", "wide", "number"] (defScope s_turned) := ⟨rfl, rfl, rfl, by decide +kernel, rfl, by decide +kernel, by decide +kernel⟩
abbrev S_turned : Sc := scOf N_turned s_turned
theorem nd_turned : decide (S_turned).N.Nodup = true := by decide +kernel
theorem n_turned_0 : nameOk S_turned 0 "branch" = true := by decide +kernel
theorem n_turned_1 : nameOk S_turned 1 "wide" = true := by decide +kernel
theorem n_turned_2 : nameOk S_turned 2 "number" = true := by decide +kernel
theorem n_turned_3 : nameOk S_turned 3 "n" = true := by decide +kernel
theorem s_turned_3 : setOk S_turned 3 "n" = true := by decide +kernel
theorem n_turned_4 : nameOk S_turned 4 "head" = true := by decide +kernel
theorem s_turned_4 : setOk S_turned 4 "head" = true := by decide +kernel
theorem b_turned {P : Program} {w : World} {K : PySem.W.Frag} {mg : Str → Option Value} {base : Heap} (A : Facts K mg) : ∃ t, BSs ⟨P, w, K, mg, base, 0⟩ S_turned (defBody s_turned) t m_turned :=
  ⟨_, (bss_cons (bs_asg (b_val false (b_name (i := 0) n_turned_0)) (bg_tup (n := 2) (bgs_cons (bg_name (i := 3) s_turned_3) (bgs_cons (bg_name (i := 4) s_turned_4) bgs_nil))))
  (bss_one (bs_ret (b_tup (ba_mv (ba_cons (b_name (i := 3) n_turned_3) (ba_cons (b_xor (b_name (i := 4) n_turned_4) (b_shr (b_name (i := 2) n_turned_2) (b_sub (b_name (i := 1) n_turned_1) (b_name (i := 3) n_turned_3)))) ba_nil)))))))⟩
theorem ok_turned {P : Program} {w : World} {K : PySem.W.Frag} {mg : Str → Option Value} {base : Heap} (A : Facts K mg) : FnK P w K mg base 1 "turned" [false, false, false] F_turned :=
  fn_k A.f_turned sc_turned rfl rfl (b_turned A) (fun _ _ _ _ _ _ us hl => match us, hl with | [_, _, _], _ => rfl)
/-! ### heads_of -/
abbrev s_heads_of : Stmt := topS 5
def N_heads_of : List Str := ["row", "wide", "n", "number"]
theorem sc_heads_of : FnScope N_heads_of ["row", "wide", "n"] (defScope s_heads_of) := ⟨rfl, rfl, rfl, by decide +kernel, rfl, by decide +kernel, by decide +kernel⟩
abbrev S_heads_of : Sc := scOf N_heads_of s_heads_of
theorem nd_heads_of : decide (S_heads_of).N.Nodup = true := by decide +kernel
theorem n_heads_of_0 : nameOk S_heads_of 0 "row" = true := by decide +kernel
theorem g_heads_of_dict : globOk S_heads_of "dict" = true := by decide +kernel
theorem g_heads_of_sorted : globOk S_heads_of "sorted" = true := by decide +kernel
theorem g_heads_of_tuple : globOk S_heads_of "tuple" = true := by decide +kernel
theorem b_heads_of {P : Program} {w : World} {K : PySem.W.Frag} {mg : Str → Option Value} {base : Heap} (A : Facts K mg) : ∃ t, BSs ⟨P, w, K, mg, base, 0⟩ S_heads_of (defBody s_heads_of) t m_heads_of :=
  ⟨_, (bss_one (bs_ret (b_tuple A.z_tuple g_heads_of_tuple (ba_cons (b_sortX A.z_sorted g_heads_of_sorted (ba_cons (b_dictT A.z_dict g_heads_of_dict (ba_cons (b_lc [("number", 3)] nd_heads_of (by decide +kernel) (bi_seq (b_name (i := 0) n_heads_of_0)) (bg_name (i := 3) (by decide +kernel)) bts_nil (b_tup (ba_cons (b_shr (b_name (i := 3) (by decide +kernel)) (b_sub (b_name (i := 1) (by decide +kernel)) (b_name (i := 2) (by decide +kernel)))) (ba_cons b_bl ba_nil)))) ba_nil)) ba_nil)) ba_nil))))⟩
theorem ok_heads_of {P : Program} {w : World} {K : PySem.W.Frag} {mg : Str → Option Value} {base : Heap} (A : Facts K mg) : FnK P w K mg base 1 "heads_of" [false, false, false] F_heads_of :=
  fn_k A.f_heads_of sc_heads_of rfl rfl (b_heads_of A) (fun _ _ _ _ _ _ us hl => match us, hl with | [_, _, _], _ => rfl)
/-! ### count_in -/
abbrev s_count_in : Stmt := topS 6
def N_count_in : List Str := ["row", "wide", "branch", "number"]
theorem sc_count_in : FnScope N_count_in ["row", "wide", "branch"] (defScope s_count_in) := ⟨rfl, rfl, rfl, by decide +kernel, rfl, by decide +kernel, by decide +kernel⟩
abbrev S_count_in : Sc := scOf N_count_in s_count_in
theorem nd_count_in : decide (S_count_in).N.Nodup = true := by decide +kernel
theorem n_count_in_0 : nameOk S_count_in 0 "row" = true := by decide +kernel
theorem g_count_in_len : globOk S_count_in "len" = true := by decide +kernel
theorem b_count_in {P : Program} {w : World} {K : PySem.W.Frag} {mg : Str → Option Value} {base : Heap} (A : Facts K mg) (h_holds : FnK P w K mg base 1 "holds" [false, false, false] F_holds) : ∃ t, BSs ⟨P, w, K, mg, base, 1⟩ S_count_in (defBody s_count_in) t m_count_in :=
  ⟨_, (bss_one (bs_ret (b_len A.z_len g_count_in_len (ba_cons (b_lc [("number", 3)] nd_count_in (by decide +kernel) (bi_seq (b_name (i := 0) n_count_in_0)) (bg_name (i := 3) (by decide +kernel)) (bts_one (t_val (b_call h_holds (Nat.le_of_ble_eq_true rfl) (by decide +kernel) (ba_cons (b_name (i := 2) (by decide +kernel)) (ba_cons (b_name (i := 1) (by decide +kernel)) (ba_cons (b_name (i := 3) (by decide +kernel)) ba_nil)))))) (b_val false (b_name (i := 3) (by decide +kernel)))) ba_nil))))⟩
theorem ok_count_in {P : Program} {w : World} {K : PySem.W.Frag} {mg : Str → Option Value} {base : Heap} (A : Facts K mg) : FnK P w K mg base 2 "count_in" [false, false, false] F_count_in :=
  fn_k A.f_count_in sc_count_in rfl rfl (b_count_in A (ok_holds A)) (fun _ _ _ _ _ _ us hl => match us, hl with | [_, _, _], _ => rfl)
/-! ### splits_of -/
abbrev s_splits_of : Stmt := topS 7
def N_splits_of : List Str := ["row", "wide", "numbers", "number", "found", "one", "other", "n"]
theorem sc_splits_of : FnScope N_splits_of ["row", "wide"] (defScope s_splits_of) := ⟨rfl, rfl, rfl, by decide +kernel, rfl, by decide +kernel, by decide +kernel⟩
abbrev S_splits_of : Sc := scOf N_splits_of s_splits_of
theorem nd_splits_of : decide (S_splits_of).N.Nodup = true := by decide +kernel
theorem n_splits_of_0 : nameOk S_splits_of 0 "row" = true := by decide +kernel
theorem n_splits_of_1 : nameOk S_splits_of 1 "wide" = true := by decide +kernel
theorem n_splits_of_2 : nameOk S_splits_of 2 "numbers" = true := by decide +kernel
theorem s_splits_of_2 : setOk S_splits_of 2 "numbers" = true := by decide +kernel
theorem n_splits_of_4 : nameOk S_splits_of 4 "found" = true := by decide +kernel
theorem s_splits_of_4 : setOk S_splits_of 4 "found" = true := by decide +kernel
theorem n_splits_of_5 : nameOk S_splits_of 5 "one" = true := by decide +kernel
theorem s_splits_of_5 : setOk S_splits_of 5 "one" = true := by decide +kernel
theorem n_splits_of_6 : nameOk S_splits_of 6 "other" = true := by decide +kernel
theorem s_splits_of_6 : setOk S_splits_of 6 "other" = true := by decide +kernel
theorem n_splits_of_7 : nameOk S_splits_of 7 "n" = true := by decide +kernel
theorem s_splits_of_7 : setOk S_splits_of 7 "n" = true := by decide +kernel
theorem g_splits_of_dict : globOk S_splits_of "dict" = true := by decide +kernel
theorem g_splits_of_sorted : globOk S_splits_of "sorted" = true := by decide +kernel
theorem g_splits_of_zip : globOk S_splits_of "zip" = true := by decide +kernel
theorem b_splits_of {P : Program} {w : World} {K : PySem.W.Frag} {mg : Str → Option Value} {base : Heap} (A : Facts K mg) : ∃ t, BSs ⟨P, w, K, mg, base, 0⟩ S_splits_of (defBody s_splits_of) t m_splits_of :=
  ⟨_, (bss_cons (bs_set (i := 2) s_splits_of_2 (b_sortX A.z_sorted g_splits_of_sorted (ba_cons (b_dictT A.z_dict g_splits_of_dict (ba_cons (b_lc [("number", 3)] nd_splits_of (by decide +kernel) (bi_seq (b_name (i := 0) n_splits_of_0)) (bg_name (i := 3) (by decide +kernel)) bts_nil (b_tup (ba_cons (b_val false (b_name (i := 3) (by decide +kernel))) (ba_cons b_bl ba_nil)))) ba_nil)) ba_nil)))
  (bss_cons (bs_set (i := 4) s_splits_of_4 (b_lst ba_nil))
  (bss_cons (bs_pre [5, 6, 7] (bs_for (bi_zip A.z_zip g_splits_of_zip (ba_cons (b_name (i := 2) n_splits_of_2) (ba_cons (b_sl (b_name (i := 2) n_splits_of_2) (bp_some b_int) bp_none) ba_nil))) (bg_tup (n := 2) (bgs_cons (bg_name (i := 5) s_splits_of_5) (bgs_cons (bg_name (i := 6) s_splits_of_6) bgs_nil)))
    (bss_kill [5, 6, 7] (bss_cons (bs_set (i := 7) s_splits_of_7 (b_sub (b_name (i := 1) n_splits_of_1) (b_bits (b_xor (b_name (i := 5) n_splits_of_5) (b_name (i := 6) n_splits_of_6)))))
    (bss_one (bs_expr (b_meth (i := 4) PySem.F.slot_list_append PySem.F.type_list_append (fun _ _ => m_append) rm_append n_splits_of_4 (ba_cons (b_tup (ba_cons (b_val false (b_name (i := 7) n_splits_of_7)) (ba_cons (b_shr (b_name (i := 5) n_splits_of_5) (b_sub (b_name (i := 1) n_splits_of_1) (b_name (i := 7) n_splits_of_7))) ba_nil))) ba_nil))))))))
  (bss_one (bs_ret (b_sortD A.z_sorted g_splits_of_sorted (ba_cons (b_name (i := 4) n_splits_of_4) ba_nil)))))))⟩
theorem ok_splits_of {P : Program} {w : World} {K : PySem.W.Frag} {mg : Str → Option Value} {base : Heap} (A : Facts K mg) : FnK P w K mg base 1 "splits_of" [false, false] F_splits_of :=
  fn_k A.f_splits_of sc_splits_of rfl rfl (b_splits_of A) (fun _ _ _ _ _ _ us hl => match us, hl with | [_, _], _ => rfl)
/-! ### unlike -/
abbrev s_unlike : Stmt := topS 9
def N_unlike : List Str := ["one", "other"]
theorem sc_unlike : FnScope N_unlike ["one", "other"] (defScope s_unlike) := ⟨rfl, rfl, rfl, by decide +kernel, rfl, by decide +kernel, by decide +kernel⟩
abbrev S_unlike : Sc := scOf N_unlike s_unlike
theorem nd_unlike : decide (S_unlike).N.Nodup = true := by decide +kernel
theorem n_unlike_0 : nameOk S_unlike 0 "one" = true := by decide +kernel
theorem n_unlike_1 : nameOk S_unlike 1 "other" = true := by decide +kernel
theorem b_unlike {P : Program} {w : World} {K : PySem.W.Frag} {mg : Str → Option Value} {base : Heap} (A : Facts K mg) : ∃ t, BSs ⟨P, w, K, mg, base, 0⟩ S_unlike (defBody s_unlike) t m_unlike :=
  ⟨_, (bss_one (bs_ret (b_xor (b_name (i := 0) n_unlike_0) (b_name (i := 1) n_unlike_1))))⟩
theorem ok_unlike {P : Program} {w : World} {K : PySem.W.Frag} {mg : Str → Option Value} {base : Heap} (A : Facts K mg) : FnK P w K mg base 1 "unlike" [false, false] F_unlike :=
  fn_k A.f_unlike sc_unlike rfl rfl (b_unlike A) (fun _ _ _ _ _ _ us hl => match us, hl with | [_, _], _ => rfl)
/-! ### alike_ahead -/
abbrev s_alike_ahead : Stmt := topS 10
def N_alike_ahead : List Str := ["one", "other", "wide"]
theorem sc_alike_ahead : FnScope N_alike_ahead ["one", "other", "wide"] (defScope s_alike_ahead) := ⟨rfl, rfl, rfl, by decide +kernel, rfl, by decide +kernel, by decide +kernel⟩
abbrev S_alike_ahead : Sc := scOf N_alike_ahead s_alike_ahead
theorem nd_alike_ahead : decide (S_alike_ahead).N.Nodup = true := by decide +kernel
theorem n_alike_ahead_0 : nameOk S_alike_ahead 0 "one" = true := by decide +kernel
theorem n_alike_ahead_1 : nameOk S_alike_ahead 1 "other" = true := by decide +kernel
theorem n_alike_ahead_2 : nameOk S_alike_ahead 2 "wide" = true := by decide +kernel
theorem b_alike_ahead {P : Program} {w : World} {K : PySem.W.Frag} {mg : Str → Option Value} {base : Heap} (A : Facts K mg) : ∃ t, BSs ⟨P, w, K, mg, base, 0⟩ S_alike_ahead (defBody s_alike_ahead) t m_alike_ahead :=
  ⟨_, (bss_one (bs_ret (b_sub (b_name (i := 2) n_alike_ahead_2) (b_bits (b_xor (b_name (i := 0) n_alike_ahead_0) (b_name (i := 1) n_alike_ahead_1))))))⟩
theorem ok_alike_ahead {P : Program} {w : World} {K : PySem.W.Frag} {mg : Str → Option Value} {base : Heap} (A : Facts K mg) : FnK P w K mg base 1 "alike_ahead" [false, false, false] F_alike_ahead :=
  fn_k A.f_alike_ahead sc_alike_ahead rfl rfl (b_alike_ahead A) (fun _ _ _ _ _ _ us hl => match us, hl with | [_, _, _], _ => rfl)
/-! ### _law_box -/
abbrev s__law_box : Stmt := topS 12
def N__law_box : List Str := ["_law_script", "_law_k", "_law_cell"]
theorem sc__law_box : FnScope N__law_box ["_law_script", "_law_k"] (defScope s__law_box) := ⟨rfl, rfl, rfl, by decide +kernel, rfl, by decide +kernel, by decide +kernel⟩
abbrev S__law_box : Sc := scOf N__law_box s__law_box
theorem nd__law_box : decide (S__law_box).N.Nodup = true := by decide +kernel
theorem n__law_box_0 : nameOk S__law_box 0 "_law_script" = true := by decide +kernel
theorem n__law_box_1 : nameOk S__law_box 1 "_law_k" = true := by decide +kernel
theorem n__law_box_2 : nameOk S__law_box 2 "_law_cell" = true := by decide +kernel
theorem s__law_box_2 : setOk S__law_box 2 "_law_cell" = true := by decide +kernel
theorem g__law_box_abs : globOk S__law_box "abs" = true := by decide +kernel
theorem g__law_box_int : globOk S__law_box "int" = true := by decide +kernel
theorem b__law_box {P : Program} {w : World} {K : PySem.W.Frag} {mg : Str → Option Value} {base : Heap} (A : Facts K mg) : ∃ t, BSs ⟨P, w, K, mg, base, 0⟩ S__law_box (defBody s__law_box) t m__law_box :=
  ⟨_, (bss_cons (bs_set (i := 2) s__law_box_2 (b_ix (b_add (b_name (i := 0) n__law_box_0) (b_mul (b_lst (ba_cons b_int ba_nil)) (b_add (b_name (i := 1) n__law_box_1) b_int))) (b_name (i := 1) n__law_box_1)))
  (bss_one (bs_ret (b_lst (ba_cons (b_mul (b_abs A.z_abs g__law_box_abs (ba_cons (b_name (i := 2) n__law_box_2) ba_nil)) (b_int1 A.z_int g__law_box_int (ba_cons (b_cmp k_ge (b_abs A.z_abs g__law_box_abs (ba_cons (b_name (i := 2) n__law_box_2) ba_nil)) (b_pow b_int b_int)) ba_nil))) (ba_cons (b_mod (b_mul (b_add (b_add (b_mod (b_name (i := 2) n__law_box_2) b_int) (b_mul b_int (b_name (i := 1) n__law_box_1))) b_int) b_int) b_int) (ba_cons b_int ba_nil)))))))⟩
theorem ok__law_box {P : Program} {w : World} {K : PySem.W.Frag} {mg : Str → Option Value} {base : Heap} (A : Facts K mg) : FnK P w K mg base 1 "_law_box" [false, false] F__law_box :=
  fn_k A.f__law_box sc__law_box rfl rfl (b__law_box A) (fun _ _ _ _ _ _ us hl => match us, hl with | [_, _], _ => rfl)
/-! ### _law_take -/
abbrev s__law_take : Stmt := topS 13
def N__law_take : List Str := ["_law_box_here", "_law_many_here", "_law_found", "_law_once", "_law_twice"]
theorem sc__law_take : FnScope N__law_take ["_law_box_here", "_law_many_here"] (defScope s__law_take) := ⟨rfl, rfl, rfl, by decide +kernel, rfl, by decide +kernel, by decide +kernel⟩
abbrev S__law_take : Sc := scOf N__law_take s__law_take
theorem nd__law_take : decide (S__law_take).N.Nodup = true := by decide +kernel
theorem n__law_take_0 : nameOk S__law_take 0 "_law_box_here" = true := by decide +kernel
theorem n__law_take_1 : nameOk S__law_take 1 "_law_many_here" = true := by decide +kernel
theorem n__law_take_2 : nameOk S__law_take 2 "_law_found" = true := by decide +kernel
theorem s__law_take_2 : setOk S__law_take 2 "_law_found" = true := by decide +kernel
theorem n__law_take_3 : nameOk S__law_take 3 "_law_once" = true := by decide +kernel
theorem s__law_take_3 : setOk S__law_take 3 "_law_once" = true := by decide +kernel
theorem n__law_take_4 : nameOk S__law_take 4 "_law_twice" = true := by decide +kernel
theorem s__law_take_4 : setOk S__law_take 4 "_law_twice" = true := by decide +kernel
theorem g__law_take_divmod : globOk S__law_take "divmod" = true := by decide +kernel
theorem b__law_take {P : Program} {w : World} {K : PySem.W.Frag} {mg : Str → Option Value} {base : Heap} (A : Facts K mg) : ∃ t, BSs ⟨P, w, K, mg, base, 0⟩ S__law_take (defBody s__law_take) t m__law_take :=
  ⟨_, (bss_cons (bs_if (t_cmp k_gt (b_ix (b_name (i := 0) n__law_take_0) b_int) b_int)
    (bss_cons (bs_asg (b_divmod A.z_divmod g__law_take_divmod (ba_cons (b_ix (b_name (i := 0) n__law_take_0) b_int) (ba_cons (b_name (i := 1) n__law_take_1) ba_nil))) (bg_tup (n := 2) (bgs_cons (bg_sub (j := 0) n__law_take_0 b_int) (bgs_cons (bg_name (i := 2) s__law_take_2) bgs_nil))))
    (bss_one (bs_ret (b_val true (b_name (i := 2) n__law_take_2)))))
    bss_nil)
  (bss_cons (bs_asg (b_add (b_ix (b_name (i := 0) n__law_take_0) b_int) b_int) (bg_sub (j := 0) n__law_take_0 b_int))
  (bss_cons (bs_set (i := 3) s__law_take_3 (b_mod (b_mul (b_add (b_ix (b_name (i := 0) n__law_take_0) b_int) (b_mul b_int (b_ix (b_name (i := 0) n__law_take_0) b_int))) (b_add b_int (b_ix (b_name (i := 0) n__law_take_0) b_int))) b_int))
  (bss_cons (bs_set (i := 4) s__law_take_4 (b_mod (b_add (b_mul (b_name (i := 3) n__law_take_3) (b_add (b_mod (b_name (i := 3) n__law_take_3) b_int) b_int)) (b_ix (b_name (i := 0) n__law_take_0) b_int)) b_int))
  (bss_one (bs_ret (b_mod (b_fdiv (b_mod (b_mul (b_name (i := 4) n__law_take_4) (b_add (b_mod (b_name (i := 4) n__law_take_4) b_int) b_int)) b_int) b_int) (b_name (i := 1) n__law_take_1))))))))⟩
theorem ok__law_take {P : Program} {w : World} {K : PySem.W.Frag} {mg : Str → Option Value} {base : Heap} (A : Facts K mg) : FnK P w K mg base 1 "_law_take" [true, false] F__law_take :=
  fn_k A.f__law_take sc__law_take rfl rfl (b__law_take A) (fun _ _ _ _ _ _ us hl => match us, hl with | [_, _], _ => rfl)
/-! ### _law_folded -/
abbrev s__law_folded : Stmt := topS 14
def N__law_folded : List Str := ["_law_script", "_law_many_here", "_law_cells", "_law_k", "_law_cell"]
theorem sc__law_folded : FnScope N__law_folded ["_law_script", "_law_many_here"] (defScope s__law_folded) := ⟨rfl, rfl, rfl, by decide +kernel, rfl, by decide +kernel, by decide +kernel⟩
abbrev S__law_folded : Sc := scOf N__law_folded s__law_folded
theorem nd__law_folded : decide (S__law_folded).N.Nodup = true := by decide +kernel
theorem n__law_folded_0 : nameOk S__law_folded 0 "_law_script" = true := by decide +kernel
theorem n__law_folded_1 : nameOk S__law_folded 1 "_law_many_here" = true := by decide +kernel
theorem n__law_folded_2 : nameOk S__law_folded 2 "_law_cells" = true := by decide +kernel
theorem s__law_folded_2 : setOk S__law_folded 2 "_law_cells" = true := by decide +kernel
theorem n__law_folded_3 : nameOk S__law_folded 3 "_law_k" = true := by decide +kernel
theorem s__law_folded_3 : setOk S__law_folded 3 "_law_k" = true := by decide +kernel
theorem n__law_folded_4 : nameOk S__law_folded 4 "_law_cell" = true := by decide +kernel
theorem s__law_folded_4 : setOk S__law_folded 4 "_law_cell" = true := by decide +kernel
theorem g__law_folded_enumerate : globOk S__law_folded "enumerate" = true := by decide +kernel
theorem g__law_folded_list : globOk S__law_folded "list" = true := by decide +kernel
theorem b__law_folded {P : Program} {w : World} {K : PySem.W.Frag} {mg : Str → Option Value} {base : Heap} (A : Facts K mg) : ∃ t, BSs ⟨P, w, K, mg, base, 0⟩ S__law_folded (defBody s__law_folded) t m__law_folded :=
  ⟨_, (bss_cons (bs_set (i := 2) s__law_folded_2 (b_list A.z_list g__law_folded_list (ba_cons (b_sl (b_name (i := 0) n__law_folded_0) bp_none (bp_some (b_name (i := 1) n__law_folded_1))) ba_nil)))
  (bss_cons (bs_pre [3, 4] (bs_for (bi_enum A.z_enumerate g__law_folded_enumerate (ba_cons (b_sl (b_name (i := 0) n__law_folded_0) (bp_some (b_name (i := 1) n__law_folded_1)) (bp_some b_int)) ba_nil)) (bg_tup (n := 2) (bgs_cons (bg_name (i := 3) s__law_folded_3) (bgs_cons (bg_name (i := 4) s__law_folded_4) bgs_nil)))
    (bss_kill [3, 4] (bss_one (bs_asg (b_add (b_ix (b_name (i := 2) n__law_folded_2) (b_mod (b_name (i := 3) n__law_folded_3) (b_name (i := 1) n__law_folded_1))) (b_mul (b_name (i := 4) n__law_folded_4) (b_add (b_name (i := 3) n__law_folded_3) b_int))) (bg_sub (j := 2) n__law_folded_2 (b_mod (b_name (i := 3) n__law_folded_3) (b_name (i := 1) n__law_folded_1))))))))
  (bss_one (bs_ret (b_val true (b_name (i := 2) n__law_folded_2))))))⟩
theorem ok__law_folded {P : Program} {w : World} {K : PySem.W.Frag} {mg : Str → Option Value} {base : Heap} (A : Facts K mg) : FnK P w K mg base 1 "_law_folded" [false, false] F__law_folded :=
  fn_k A.f__law_folded sc__law_folded rfl rfl (b__law_folded A) (fun _ _ _ _ _ _ us hl => match us, hl with | [_, _], _ => rfl)
/-! ### _law_wide -/
abbrev s__law_wide : Stmt := topS 15
def N__law_wide : List Str := ["_law_box_here", "_law_way"]
theorem sc__law_wide : FnScope N__law_wide ["_law_box_here"] (defScope s__law_wide) := ⟨rfl, rfl, rfl, by decide +kernel, rfl, by decide +kernel, by decide +kernel⟩
abbrev S__law_wide : Sc := scOf N__law_wide s__law_wide
theorem nd__law_wide : decide (S__law_wide).N.Nodup = true := by decide +kernel
theorem n__law_wide_0 : nameOk S__law_wide 0 "_law_box_here" = true := by decide +kernel
theorem n__law_wide_1 : nameOk S__law_wide 1 "_law_way" = true := by decide +kernel
theorem s__law_wide_1 : setOk S__law_wide 1 "_law_way" = true := by decide +kernel
theorem g__law_wide__law_take : globOk S__law_wide "_law_take" = true := by decide +kernel
theorem b__law_wide {P : Program} {w : World} {K : PySem.W.Frag} {mg : Str → Option Value} {base : Heap} (A : Facts K mg) (h__law_take : FnK P w K mg base 1 "_law_take" [true, false] F__law_take) : ∃ t, BSs ⟨P, w, K, mg, base, 1⟩ S__law_wide (defBody s__law_wide) t m__law_wide :=
  ⟨_, (bss_cons (bs_set (i := 1) s__law_wide_1 (b_call h__law_take (Nat.le_of_ble_eq_true rfl) g__law_wide__law_take (ba_cons (b_name (i := 0) n__law_wide_0) (ba_cons b_int ba_nil))))
  (bss_cons (bs_if (t_cmp k_lt (b_name (i := 1) n__law_wide_1) b_int)
    (bss_one (bs_ret (b_add b_int (b_call h__law_take (Nat.le_of_ble_eq_true rfl) g__law_wide__law_take (ba_cons (b_name (i := 0) n__law_wide_0) (ba_cons b_int ba_nil))))))
    bss_nil)
  (bss_one (bs_ret (b_ix (b_lst (ba_cons b_int (ba_cons b_int (ba_cons b_int (ba_cons b_int (ba_cons (b_add b_int (b_call h__law_take (Nat.le_of_ble_eq_true rfl) g__law_wide__law_take (ba_cons (b_name (i := 0) n__law_wide_0) (ba_cons b_int ba_nil)))) (ba_cons (b_add b_int (b_call h__law_take (Nat.le_of_ble_eq_true rfl) g__law_wide__law_take (ba_cons (b_name (i := 0) n__law_wide_0) (ba_cons b_int ba_nil)))) ba_nil))))))) (b_call h__law_take (Nat.le_of_ble_eq_true rfl) g__law_wide__law_take (ba_cons (b_name (i := 0) n__law_wide_0) (ba_cons b_int ba_nil))))))))⟩
theorem ok__law_wide {P : Program} {w : World} {K : PySem.W.Frag} {mg : Str → Option Value} {base : Heap} (A : Facts K mg) : FnK P w K mg base 2 "_law_wide" [true] F__law_wide :=
  fn_k A.f__law_wide sc__law_wide rfl rfl (b__law_wide A (ok__law_take A)) (fun _ _ _ _ _ _ us hl => match us, hl with | [_], _ => rfl)
/-! ### _law_number -/
abbrev s__law_number : Stmt := topS 16
def N__law_number : List Str := ["_law_box_here", "_law_wide_here", "_law_found", "_law_turn"]
theorem sc__law_number : FnScope N__law_number ["_law_box_here", "_law_wide_here"] (defScope s__law_number) := ⟨rfl, rfl, rfl, by decide +kernel, rfl, by decide +kernel, by decide +kernel⟩
abbrev S__law_number : Sc := scOf N__law_number s__law_number
theorem nd__law_number : decide (S__law_number).N.Nodup = true := by decide +kernel
theorem n__law_number_0 : nameOk S__law_number 0 "_law_box_here" = true := by decide +kernel
theorem n__law_number_1 : nameOk S__law_number 1 "_law_wide_here" = true := by decide +kernel
theorem n__law_number_2 : nameOk S__law_number 2 "_law_found" = true := by decide +kernel
theorem s__law_number_2 : setOk S__law_number 2 "_law_found" = true := by decide +kernel
theorem s__law_number_3 : setOk S__law_number 3 "_law_turn" = true := by decide +kernel
theorem g__law_number__law_take : globOk S__law_number "_law_take" = true := by decide +kernel
theorem g__law_number_range : globOk S__law_number "range" = true := by decide +kernel
theorem b__law_number {P : Program} {w : World} {K : PySem.W.Frag} {mg : Str → Option Value} {base : Heap} (A : Facts K mg) (h__law_take : FnK P w K mg base 1 "_law_take" [true, false] F__law_take) : ∃ t, BSs ⟨P, w, K, mg, base, 1⟩ S__law_number (defBody s__law_number) t m__law_number :=
  ⟨_, (bss_cons (bs_set (i := 2) s__law_number_2 b_int)
  (bss_cons (bs_pre [3] (bs_for (bi_range1 A.z_range g__law_number_range (ba_cons b_int ba_nil)) (bg_name (i := 3) s__law_number_3)
    (bss_kill [3] (bss_one (bs_set (i := 2) s__law_number_2 (b_add (b_mul (b_name (i := 2) n__law_number_2) b_int) (b_call h__law_take (Nat.le_of_ble_eq_true rfl) g__law_number__law_take (ba_cons (b_name (i := 0) n__law_number_0) (ba_cons b_int ba_nil)))))))))
  (bss_one (bs_ret (b_mod (b_name (i := 2) n__law_number_2) (b_shl b_int (b_name (i := 1) n__law_number_1)))))))⟩
theorem ok__law_number {P : Program} {w : World} {K : PySem.W.Frag} {mg : Str → Option Value} {base : Heap} (A : Facts K mg) : FnK P w K mg base 2 "_law_number" [true, false] F__law_number :=
  fn_k A.f__law_number sc__law_number rfl rfl (b__law_number A (ok__law_take A)) (fun _ _ _ _ _ _ us hl => match us, hl with | [_, _], _ => rfl)
/-! ### _law_any_number -/
abbrev s__law_any_number : Stmt := topS 17
def N__law_any_number : List Str := ["_law_box_here", "_law_wide_here", "_law_whole", "_law_some"]
theorem sc__law_any_number : FnScope N__law_any_number ["_law_box_here", "_law_wide_here"] (defScope s__law_any_number) := ⟨rfl, rfl, rfl, by decide +kernel, rfl, by decide +kernel, by decide +kernel⟩
abbrev S__law_any_number : Sc := scOf N__law_any_number s__law_any_number
theorem nd__law_any_number : decide (S__law_any_number).N.Nodup = true := by decide +kernel
theorem n__law_any_number_0 : nameOk S__law_any_number 0 "_law_box_here" = true := by decide +kernel
theorem n__law_any_number_1 : nameOk S__law_any_number 1 "_law_wide_here" = true := by decide +kernel
theorem n__law_any_number_2 : nameOk S__law_any_number 2 "_law_whole" = true := by decide +kernel
theorem s__law_any_number_2 : setOk S__law_any_number 2 "_law_whole" = true := by decide +kernel
theorem n__law_any_number_3 : nameOk S__law_any_number 3 "_law_some" = true := by decide +kernel
theorem s__law_any_number_3 : setOk S__law_any_number 3 "_law_some" = true := by decide +kernel
theorem g__law_any_number__law_number : globOk S__law_any_number "_law_number" = true := by decide +kernel
theorem g__law_any_number__law_take : globOk S__law_any_number "_law_take" = true := by decide +kernel
theorem g__law_any_number_min : globOk S__law_any_number "min" = true := by decide +kernel
theorem b__law_any_number {P : Program} {w : World} {K : PySem.W.Frag} {mg : Str → Option Value} {base : Heap} (A : Facts K mg) (h__law_number : FnK P w K mg base 2 "_law_number" [true, false] F__law_number) (h__law_take : FnK P w K mg base 1 "_law_take" [true, false] F__law_take) : ∃ t, BSs ⟨P, w, K, mg, base, 2⟩ S__law_any_number (defBody s__law_any_number) t m__law_any_number :=
  ⟨_, (bss_cons (bs_set (i := 2) s__law_any_number_2 (b_sub (b_shl b_int (b_name (i := 1) n__law_any_number_1)) b_int))
  (bss_cons (bs_set (i := 3) s__law_any_number_3 (b_lst (ba_cons b_int (ba_cons (b_val false (b_name (i := 2) n__law_any_number_2)) (ba_cons (b_shl b_int (b_call h__law_take (Nat.le_of_ble_eq_true rfl) g__law_any_number__law_take (ba_cons (b_name (i := 0) n__law_any_number_0) (ba_cons (b_name (i := 1) n__law_any_number_1) ba_nil)))) (ba_cons (b_sub (b_name (i := 2) n__law_any_number_2) (b_shl b_int (b_call h__law_take (Nat.le_of_ble_eq_true rfl) g__law_any_number__law_take (ba_cons (b_name (i := 0) n__law_any_number_0) (ba_cons (b_name (i := 1) n__law_any_number_1) ba_nil))))) (ba_cons (b_call h__law_number (Nat.le_of_ble_eq_true rfl) g__law_any_number__law_number (ba_cons (b_name (i := 0) n__law_any_number_0) (ba_cons (b_name (i := 1) n__law_any_number_1) ba_nil))) ba_nil)))))))
  (bss_one (bs_ret (b_ix (b_name (i := 3) n__law_any_number_3) (b_min2 A.z_min g__law_any_number_min (ba_cons b_int (ba_cons (b_call h__law_take (Nat.le_of_ble_eq_true rfl) g__law_any_number__law_take (ba_cons (b_name (i := 0) n__law_any_number_0) (ba_cons b_int ba_nil))) ba_nil))))))))⟩
theorem ok__law_any_number {P : Program} {w : World} {K : PySem.W.Frag} {mg : Str → Option Value} {base : Heap} (A : Facts K mg) : FnK P w K mg base 3 "_law_any_number" [true, false] F__law_any_number :=
  fn_k A.f__law_any_number sc__law_any_number rfl rfl (b__law_any_number A (ok__law_number A) (ok__law_take A)) (fun _ _ _ _ _ _ us hl => match us, hl with | [_, _], _ => rfl)
/-! ### _law_many -/
abbrev s__law_many : Stmt := topS 18
def N__law_many : List Str := ["_law_box_here", "_law_few", "_law_most"]
theorem sc__law_many : FnScope N__law_many ["_law_box_here", "_law_few", "_law_most"] (defScope s__law_many) := ⟨rfl, rfl, rfl, by decide +kernel, rfl, by decide +kernel, by decide +kernel⟩
abbrev S__law_many : Sc := scOf N__law_many s__law_many
theorem nd__law_many : decide (S__law_many).N.Nodup = true := by decide +kernel
theorem n__law_many_0 : nameOk S__law_many 0 "_law_box_here" = true := by decide +kernel
theorem n__law_many_1 : nameOk S__law_many 1 "_law_few" = true := by decide +kernel
theorem n__law_many_2 : nameOk S__law_many 2 "_law_most" = true := by decide +kernel
theorem g__law_many__law_take : globOk S__law_many "_law_take" = true := by decide +kernel
theorem b__law_many {P : Program} {w : World} {K : PySem.W.Frag} {mg : Str → Option Value} {base : Heap} (A : Facts K mg) (h__law_take : FnK P w K mg base 1 "_law_take" [true, false] F__law_take) : ∃ t, BSs ⟨P, w, K, mg, base, 1⟩ S__law_many (defBody s__law_many) t m__law_many :=
  ⟨_, (bss_cons (bs_if (t_cmp k_eq (b_call h__law_take (Nat.le_of_ble_eq_true rfl) g__law_many__law_take (ba_cons (b_name (i := 0) n__law_many_0) (ba_cons b_int ba_nil))) b_int)
    (bss_one (bs_ret (b_add b_int (b_call h__law_take (Nat.le_of_ble_eq_true rfl) g__law_many__law_take (ba_cons (b_name (i := 0) n__law_many_0) (ba_cons (b_sub (b_name (i := 2) n__law_many_2) b_int) ba_nil))))))
    bss_nil)
  (bss_one (bs_ret (b_call h__law_take (Nat.le_of_ble_eq_true rfl) g__law_many__law_take (ba_cons (b_name (i := 0) n__law_many_0) (ba_cons (b_add (b_name (i := 1) n__law_many_1) b_int) ba_nil))))))⟩
theorem ok__law_many {P : Program} {w : World} {K : PySem.W.Frag} {mg : Str → Option Value} {base : Heap} (A : Facts K mg) : FnK P w K mg base 2 "_law_many" [true, false, false] F__law_many :=
  fn_k A.f__law_many sc__law_many rfl rfl (b__law_many A (ok__law_take A)) (fun _ _ _ _ _ _ us hl => match us, hl with | [_, _, _], _ => rfl)
/-! ### _law_row -/
abbrev s__law_row : Stmt := topS 19
def N__law_row : List Str := ["_law_box_here", "_law_wide_here", "_law_many_here", "_law_way", "_law_base", "_law_some", "_law_turn", "_law_low", "_law_row_here", "_law_place", "_law_number_here"]
theorem sc__law_row : FnScope N__law_row ["_law_box_here", "_law_wide_here", "_law_many_here"] (defScope s__law_row) := ⟨rfl, rfl, rfl, by decide +kernel, rfl, by decide +kernel, by decide +kernel⟩
abbrev S__law_row : Sc := scOf N__law_row s__law_row
theorem nd__law_row : decide (S__law_row).N.Nodup = true := by decide +kernel
theorem n__law_row_0 : nameOk S__law_row 0 "_law_box_here" = true := by decide +kernel
theorem n__law_row_1 : nameOk S__law_row 1 "_law_wide_here" = true := by decide +kernel
theorem n__law_row_2 : nameOk S__law_row 2 "_law_many_here" = true := by decide +kernel
theorem n__law_row_3 : nameOk S__law_row 3 "_law_way" = true := by decide +kernel
theorem s__law_row_3 : setOk S__law_row 3 "_law_way" = true := by decide +kernel
theorem n__law_row_4 : nameOk S__law_row 4 "_law_base" = true := by decide +kernel
theorem s__law_row_4 : setOk S__law_row 4 "_law_base" = true := by decide +kernel
theorem n__law_row_5 : nameOk S__law_row 5 "_law_some" = true := by decide +kernel
theorem n__law_row_7 : nameOk S__law_row 7 "_law_low" = true := by decide +kernel
theorem s__law_row_7 : setOk S__law_row 7 "_law_low" = true := by decide +kernel
theorem n__law_row_8 : nameOk S__law_row 8 "_law_row_here" = true := by decide +kernel
theorem s__law_row_8 : setOk S__law_row 8 "_law_row_here" = true := by decide +kernel
theorem n__law_row_9 : nameOk S__law_row 9 "_law_place" = true := by decide +kernel
theorem s__law_row_9 : setOk S__law_row 9 "_law_place" = true := by decide +kernel
theorem n__law_row_10 : nameOk S__law_row 10 "_law_number_here" = true := by decide +kernel
theorem s__law_row_10 : setOk S__law_row 10 "_law_number_here" = true := by decide +kernel
theorem g__law_row__law_any_number : globOk S__law_row "_law_any_number" = true := by decide +kernel
theorem g__law_row__law_take : globOk S__law_row "_law_take" = true := by decide +kernel
theorem g__law_row_min : globOk S__law_row "min" = true := by decide +kernel
theorem g__law_row_range : globOk S__law_row "range" = true := by decide +kernel
theorem b__law_row {P : Program} {w : World} {K : PySem.W.Frag} {mg : Str → Option Value} {base : Heap} (A : Facts K mg) (h__law_take : FnK P w K mg base 1 "_law_take" [true, false] F__law_take) (h__law_any_number : FnK P w K mg base 3 "_law_any_number" [true, false] F__law_any_number) : ∃ t, BSs ⟨P, w, K, mg, base, 3⟩ S__law_row (defBody s__law_row) t m__law_row :=
  ⟨_, (bss_cons (bs_set (i := 3) s__law_row_3 (b_call h__law_take (Nat.le_of_ble_eq_true rfl) g__law_row__law_take (ba_cons (b_name (i := 0) n__law_row_0) (ba_cons b_int ba_nil))))
  (bss_cons (bs_set (i := 4) s__law_row_4 (b_call h__law_any_number (Nat.le_of_ble_eq_true rfl) g__law_row__law_any_number (ba_cons (b_name (i := 0) n__law_row_0) (ba_cons (b_name (i := 1) n__law_row_1) ba_nil))))
  (bss_cons (bs_setLc (i := 5) [("_law_turn", 6)] nd__law_row (by decide +kernel) (by decide +kernel) (bi_range1 A.z_range g__law_row_range (ba_cons b_int ba_nil)) (bg_name (i := 6) (by decide +kernel)) bts_nil (b_call h__law_any_number (Nat.le_of_ble_eq_true rfl) (by decide +kernel) (ba_cons (b_name (i := 0) (by decide +kernel)) (ba_cons (b_name (i := 1) (by decide +kernel)) ba_nil))))
  (bss_cons (bs_set (i := 7) s__law_row_7 (b_shl b_int (b_add (b_call h__law_take (Nat.le_of_ble_eq_true rfl) g__law_row__law_take (ba_cons (b_name (i := 0) n__law_row_0) (ba_cons (b_name (i := 1) n__law_row_1) ba_nil))) b_int)))
  (bss_cons (bs_set (i := 8) s__law_row_8 (b_lst ba_nil))
  (bss_cons (bs_pre [9, 10] (bs_for (bi_range1 A.z_range g__law_row_range (ba_cons (b_name (i := 2) n__law_row_2) ba_nil)) (bg_name (i := 9) s__law_row_9)
    (bss_kill [9, 10] (bss_cons (bs_set (i := 10) s__law_row_10 (b_call h__law_any_number (Nat.le_of_ble_eq_true rfl) g__law_row__law_any_number (ba_cons (b_name (i := 0) n__law_row_0) (ba_cons (b_name (i := 1) n__law_row_1) ba_nil))))
    (bss_cons (bs_ifJ (t_cmp k_eq (b_name (i := 3) n__law_row_3) b_int)
      (bss_one (bs_set (i := 10) s__law_row_10 (b_xor (b_name (i := 4) n__law_row_4) (b_mod (b_name (i := 10) n__law_row_10) (b_min2 A.z_min g__law_row_min (ba_cons b_int (ba_cons (b_shl b_int (b_name (i := 1) n__law_row_1)) ba_nil)))))))
      (bss_one (bs_if (t_cmp k_eq (b_name (i := 3) n__law_row_3) b_int)
        (bss_one (bs_set (i := 10) s__law_row_10 (b_ix (b_name (i := 5) n__law_row_5) (b_call h__law_take (Nat.le_of_ble_eq_true rfl) g__law_row__law_take (ba_cons (b_name (i := 0) n__law_row_0) (ba_cons b_int ba_nil))))))
        (bss_one (bs_if (t_cmp k_eq (b_name (i := 3) n__law_row_3) b_int)
          (bss_one (bs_set (i := 10) s__law_row_10 (b_xor (b_xor (b_ix (b_lst (ba_cons b_int (ba_cons (b_ix (b_name (i := 5) n__law_row_5) b_int) ba_nil))) (b_mod (b_name (i := 10) n__law_row_10) b_int)) (b_ix (b_lst (ba_cons b_int (ba_cons (b_ix (b_name (i := 5) n__law_row_5) b_int) ba_nil))) (b_mod (b_fdiv (b_name (i := 10) n__law_row_10) b_int) b_int))) (b_ix (b_lst (ba_cons b_int (ba_cons (b_ix (b_name (i := 5) n__law_row_5) b_int) ba_nil))) (b_call h__law_take (Nat.le_of_ble_eq_true rfl) g__law_row__law_take (ba_cons (b_name (i := 0) n__law_row_0) (ba_cons b_int ba_nil)))))))
          (bss_one (bs_if (t_cmp k_eq (b_name (i := 3) n__law_row_3) b_int)
            (bss_one (bs_set (i := 10) s__law_row_10 (b_mod (b_add (b_name (i := 4) n__law_row_4) (b_name (i := 9) n__law_row_9)) (b_shl b_int (b_name (i := 1) n__law_row_1)))))
            (bss_one (bs_if (t_cmp k_eq (b_name (i := 3) n__law_row_3) b_int)
              (bss_one (bs_set (i := 10) s__law_row_10 (b_add (b_sub (b_name (i := 4) n__law_row_4) (b_mod (b_name (i := 4) n__law_row_4) (b_name (i := 7) n__law_row_7))) (b_mod (b_name (i := 10) n__law_row_10) (b_name (i := 7) n__law_row_7)))))
              bss_nil)))))))))
    (bss_one (bs_expr (b_meth (i := 8) PySem.F.slot_list_append PySem.F.type_list_append (fun _ _ => m_append) rm_append n__law_row_8 (ba_cons (b_mod (b_name (i := 10) n__law_row_10) (b_shl b_int (b_name (i := 1) n__law_row_1))) ba_nil)))))))))
  (bss_one (bs_ret (b_val true (b_name (i := 8) n__law_row_8))))))))))⟩
theorem ok__law_row {P : Program} {w : World} {K : PySem.W.Frag} {mg : Str → Option Value} {base : Heap} (A : Facts K mg) : FnK P w K mg base 4 "_law_row" [true, false, false] F__law_row :=
  fn_k A.f__law_row sc__law_row rfl rfl (b__law_row A (ok__law_take A) (ok__law_any_number A)) (fun _ _ _ _ _ _ us hl => match us, hl with | [_, _, _], _ => rfl)
/-! ### _law_two_right -/
abbrev s__law_two_right : Stmt := topS 20
def N__law_two_right : List Str := ["_law_wide_here", "_law_one", "_law_other", "_law_splits", "_law_n", "_law_branch"]
theorem sc__law_two_right : FnScope N__law_two_right ["_law_wide_here", "_law_one", "_law_other", "_law_splits"] (defScope s__law_two_right) := ⟨rfl, rfl, rfl, by decide +kernel, rfl, by decide +kernel, by decide +kernel⟩
abbrev S__law_two_right : Sc := scOf N__law_two_right s__law_two_right
theorem nd__law_two_right : decide (S__law_two_right).N.Nodup = true := by decide +kernel
theorem n__law_two_right_0 : nameOk S__law_two_right 0 "_law_wide_here" = true := by decide +kernel
theorem n__law_two_right_1 : nameOk S__law_two_right 1 "_law_one" = true := by decide +kernel
theorem n__law_two_right_2 : nameOk S__law_two_right 2 "_law_other" = true := by decide +kernel
theorem n__law_two_right_3 : nameOk S__law_two_right 3 "_law_splits" = true := by decide +kernel
theorem n__law_two_right_4 : nameOk S__law_two_right 4 "_law_n" = true := by decide +kernel
theorem s__law_two_right_4 : setOk S__law_two_right 4 "_law_n" = true := by decide +kernel
theorem n__law_two_right_5 : nameOk S__law_two_right 5 "_law_branch" = true := by decide +kernel
theorem s__law_two_right_5 : setOk S__law_two_right 5 "_law_branch" = true := by decide +kernel
theorem g__law_two_right_alike_ahead : globOk S__law_two_right "alike_ahead" = true := by decide +kernel
theorem g__law_two_right_branch_of : globOk S__law_two_right "branch_of" = true := by decide +kernel
theorem g__law_two_right_holds : globOk S__law_two_right "holds" = true := by decide +kernel
theorem g__law_two_right_unlike : globOk S__law_two_right "unlike" = true := by decide +kernel
theorem b__law_two_right {P : Program} {w : World} {K : PySem.W.Frag} {mg : Str → Option Value} {base : Heap} (A : Facts K mg) (h_alike_ahead : FnK P w K mg base 1 "alike_ahead" [false, false, false] F_alike_ahead) (h_branch_of : FnK P w K mg base 1 "branch_of" [false, false, false] F_branch_of) (h_holds : FnK P w K mg base 1 "holds" [false, false, false] F_holds) (h_unlike : FnK P w K mg base 1 "unlike" [false, false] F_unlike) : ∃ t, BSs ⟨P, w, K, mg, base, 1⟩ S__law_two_right (defBody s__law_two_right) t m__law_two_right :=
  ⟨_, (bss_cons (bs_set (i := 4) s__law_two_right_4 (b_call h_alike_ahead (Nat.le_of_ble_eq_true rfl) g__law_two_right_alike_ahead (ba_cons (b_name (i := 1) n__law_two_right_1) (ba_cons (b_name (i := 2) n__law_two_right_2) (ba_cons (b_name (i := 0) n__law_two_right_0) ba_nil)))))
  (bss_cons (bs_set (i := 5) s__law_two_right_5 (b_call h_branch_of (Nat.le_of_ble_eq_true rfl) g__law_two_right_branch_of (ba_cons (b_name (i := 1) n__law_two_right_1) (ba_cons (b_name (i := 0) n__law_two_right_0) (ba_cons (b_name (i := 4) n__law_two_right_4) ba_nil)))))
  (bss_cons (bs_if (t_w (w_or (t_not (t_val (b_call h_holds (Nat.le_of_ble_eq_true rfl) g__law_two_right_holds (ba_cons (b_name (i := 5) n__law_two_right_5) (ba_cons (b_name (i := 0) n__law_two_right_0) (ba_cons (b_name (i := 2) n__law_two_right_2) ba_nil)))))) (w_or1 (t_w (w_and (t_cmp k_eq (b_name (i := 4) n__law_two_right_4) (b_name (i := 0) n__law_two_right_0)) (w_and1 (t_cmp k_ne (b_name (i := 1) n__law_two_right_1) (b_name (i := 2) n__law_two_right_2))))))))
    (bss_one (bs_ret b_bl))
    bss_nil)
  (bss_cons (bs_if (t_cmp k_eq (b_name (i := 1) n__law_two_right_1) (b_name (i := 2) n__law_two_right_2))
    (bss_one (bs_ret (b_cmp k_eq (b_name (i := 4) n__law_two_right_4) (b_name (i := 0) n__law_two_right_0))))
    bss_nil)
  (bss_cons (bs_if (t_w (w_or (t_cmpI k_notInB (b_name (i := 5) n__law_two_right_5) (b_name (i := 3) n__law_two_right_3)) (w_or1 (t_val (b_call h_holds (Nat.le_of_ble_eq_true rfl) g__law_two_right_holds (ba_cons (b_call h_branch_of (Nat.le_of_ble_eq_true rfl) g__law_two_right_branch_of (ba_cons (b_name (i := 1) n__law_two_right_1) (ba_cons (b_name (i := 0) n__law_two_right_0) (ba_cons (b_add (b_name (i := 4) n__law_two_right_4) b_int) ba_nil)))) (ba_cons (b_name (i := 0) n__law_two_right_0) (ba_cons (b_name (i := 2) n__law_two_right_2) ba_nil))))))))
    (bss_one (bs_ret b_bl))
    bss_nil)
  (bss_one (bs_ret (b_chain k_le k_lt (b_shl b_int (b_sub (b_sub (b_name (i := 0) n__law_two_right_0) (b_name (i := 4) n__law_two_right_4)) b_int)) (b_call h_unlike (Nat.le_of_ble_eq_true rfl) g__law_two_right_unlike (ba_cons (b_name (i := 1) n__law_two_right_1) (ba_cons (b_name (i := 2) n__law_two_right_2) ba_nil))) (b_shl b_int (b_sub (b_name (i := 0) n__law_two_right_0) (b_name (i := 4) n__law_two_right_4)))))))))))⟩
theorem ok__law_two_right {P : Program} {w : World} {K : PySem.W.Frag} {mg : Str → Option Value} {base : Heap} (A : Facts K mg) : FnK P w K mg base 2 "_law_two_right" [false, false, false, false] F__law_two_right :=
  fn_k A.f__law_two_right sc__law_two_right rfl rfl (b__law_two_right A (ok_alike_ahead A) (ok_branch_of A) (ok_holds A) (ok_unlike A)) (fun _ _ _ _ _ _ us hl => match us, hl with | [_, _, _, _], _ => rfl)
/-! ### _law_way_right -/
abbrev s__law_way_right : Stmt := topS 21
def N__law_way_right : List Str := ["_law_row_here", "_law_wide_here", "_law_number_here", "_law_n", "_law_branch", "_law_further", "_law_halves", "_law_half"]
theorem sc__law_way_right : FnScope N__law_way_right ["_law_row_here", "_law_wide_here", "_law_number_here"] (defScope s__law_way_right) := ⟨rfl, rfl, rfl, by decide +kernel, rfl, by decide +kernel, by decide +kernel⟩
abbrev S__law_way_right : Sc := scOf N__law_way_right s__law_way_right
theorem nd__law_way_right : decide (S__law_way_right).N.Nodup = true := by decide +kernel
theorem n__law_way_right_0 : nameOk S__law_way_right 0 "_law_row_here" = true := by decide +kernel
theorem n__law_way_right_1 : nameOk S__law_way_right 1 "_law_wide_here" = true := by decide +kernel
theorem n__law_way_right_2 : nameOk S__law_way_right 2 "_law_number_here" = true := by decide +kernel
theorem n__law_way_right_3 : nameOk S__law_way_right 3 "_law_n" = true := by decide +kernel
theorem s__law_way_right_3 : setOk S__law_way_right 3 "_law_n" = true := by decide +kernel
theorem n__law_way_right_4 : nameOk S__law_way_right 4 "_law_branch" = true := by decide +kernel
theorem n__law_way_right_5 : nameOk S__law_way_right 5 "_law_further" = true := by decide +kernel
theorem n__law_way_right_6 : nameOk S__law_way_right 6 "_law_halves" = true := by decide +kernel
theorem s__law_way_right_6 : setOk S__law_way_right 6 "_law_halves" = true := by decide +kernel
theorem g__law_way_right_branch_of : globOk S__law_way_right "branch_of" = true := by decide +kernel
theorem g__law_way_right_count_in : globOk S__law_way_right "count_in" = true := by decide +kernel
theorem g__law_way_right_halves_of : globOk S__law_way_right "halves_of" = true := by decide +kernel
theorem g__law_way_right_heads_of : globOk S__law_way_right "heads_of" = true := by decide +kernel
theorem g__law_way_right_holds : globOk S__law_way_right "holds" = true := by decide +kernel
theorem g__law_way_right_len : globOk S__law_way_right "len" = true := by decide +kernel
theorem g__law_way_right_range : globOk S__law_way_right "range" = true := by decide +kernel
theorem g__law_way_right_sum : globOk S__law_way_right "sum" = true := by decide +kernel
theorem b__law_way_right {P : Program} {w : World} {K : PySem.W.Frag} {mg : Str → Option Value} {base : Heap} (A : Facts K mg) (h_halves_of : FnK P w K mg base 1 "halves_of" [false] F_halves_of) (h_branch_of : FnK P w K mg base 1 "branch_of" [false, false, false] F_branch_of) (h_count_in : FnK P w K mg base 2 "count_in" [false, false, false] F_count_in) (h_holds : FnK P w K mg base 1 "holds" [false, false, false] F_holds) (h_heads_of : FnK P w K mg base 1 "heads_of" [false, false, false] F_heads_of) : ∃ t, BSs ⟨P, w, K, mg, base, 2⟩ S__law_way_right (defBody s__law_way_right) t m__law_way_right :=
  ⟨_, (bss_cons (bs_pre [3, 4, 5, 6] (bs_for (bi_range1 A.z_range g__law_way_right_range (ba_cons (b_name (i := 1) n__law_way_right_1) ba_nil)) (bg_name (i := 3) s__law_way_right_3)
    (bss_kill [3, 4, 5, 6] (bss_cons (bs_par2 (i := 4) (j := 5) (by decide +kernel) (ba_cons (b_call h_branch_of (Nat.le_of_ble_eq_true rfl) g__law_way_right_branch_of (ba_cons (b_name (i := 2) n__law_way_right_2) (ba_cons (b_name (i := 1) n__law_way_right_1) (ba_cons (b_name (i := 3) n__law_way_right_3) ba_nil)))) (ba_cons (b_call h_branch_of (Nat.le_of_ble_eq_true rfl) g__law_way_right_branch_of (ba_cons (b_name (i := 2) n__law_way_right_2) (ba_cons (b_name (i := 1) n__law_way_right_1) (ba_cons (b_add (b_name (i := 3) n__law_way_right_3) b_int) ba_nil)))) ba_nil)))
    (bss_cons (bs_set (i := 6) s__law_way_right_6 (b_call h_halves_of (Nat.le_of_ble_eq_true rfl) g__law_way_right_halves_of (ba_cons (b_name (i := 4) n__law_way_right_4) ba_nil)))
    (bss_cons (bs_if (t_w (w_or (t_not (t_val (b_call h_holds (Nat.le_of_ble_eq_true rfl) g__law_way_right_holds (ba_cons (b_name (i := 4) n__law_way_right_4) (ba_cons (b_name (i := 1) n__law_way_right_1) (ba_cons (b_name (i := 2) n__law_way_right_2) ba_nil)))))) (w_or (t_cmpI k_notInX (b_name (i := 5) n__law_way_right_5) (b_name (i := 6) n__law_way_right_6)) (w_or1 (t_cmp k_ne (b_ix (b_name (i := 5) n__law_way_right_5) b_int) (b_add (b_name (i := 3) n__law_way_right_3) b_int))))))
      (bss_one (bs_ret b_bl))
      bss_nil)
    (bss_cons (bs_if (t_cmp k_ne (b_sum A.z_sum g__law_way_right_sum (ba_cons (b_lc [("_law_half", 7)] nd__law_way_right (by decide +kernel) (bi_seq (b_name (i := 6) n__law_way_right_6)) (bg_name (i := 7) (by decide +kernel)) bts_nil (b_call h_count_in (Nat.le_of_ble_eq_true rfl) (by decide +kernel) (ba_cons (b_name (i := 0) (by decide +kernel)) (ba_cons (b_name (i := 1) (by decide +kernel)) (ba_cons (b_name (i := 7) (by decide +kernel)) ba_nil))))) ba_nil)) (b_call h_count_in (Nat.le_of_ble_eq_true rfl) g__law_way_right_count_in (ba_cons (b_name (i := 0) n__law_way_right_0) (ba_cons (b_name (i := 1) n__law_way_right_1) (ba_cons (b_name (i := 4) n__law_way_right_4) ba_nil)))))
      (bss_one (bs_ret b_bl))
      bss_nil)
    (bss_one (bs_if (t_not (t_chain k_le k_le (b_len A.z_len g__law_way_right_len (ba_cons (b_call h_heads_of (Nat.le_of_ble_eq_true rfl) g__law_way_right_heads_of (ba_cons (b_name (i := 0) n__law_way_right_0) (ba_cons (b_name (i := 1) n__law_way_right_1) (ba_cons (b_name (i := 3) n__law_way_right_3) ba_nil)))) ba_nil)) (b_len A.z_len g__law_way_right_len (ba_cons (b_call h_heads_of (Nat.le_of_ble_eq_true rfl) g__law_way_right_heads_of (ba_cons (b_name (i := 0) n__law_way_right_0) (ba_cons (b_name (i := 1) n__law_way_right_1) (ba_cons (b_add (b_name (i := 3) n__law_way_right_3) b_int) ba_nil)))) ba_nil)) (b_mul b_int (b_len A.z_len g__law_way_right_len (ba_cons (b_call h_heads_of (Nat.le_of_ble_eq_true rfl) g__law_way_right_heads_of (ba_cons (b_name (i := 0) n__law_way_right_0) (ba_cons (b_name (i := 1) n__law_way_right_1) (ba_cons (b_name (i := 3) n__law_way_right_3) ba_nil)))) ba_nil)))))
      (bss_one (bs_ret b_bl))
      bss_nil)))))))))
  (bss_one (bs_ret b_bl)))⟩
theorem ok__law_way_right {P : Program} {w : World} {K : PySem.W.Frag} {mg : Str → Option Value} {base : Heap} (A : Facts K mg) : FnK P w K mg base 3 "_law_way_right" [false, false, false] F__law_way_right :=
  fn_k A.f__law_way_right sc__law_way_right rfl rfl (b__law_way_right A (ok_halves_of A) (ok_branch_of A) (ok_count_in A) (ok_holds A) (ok_heads_of A)) (fun _ _ _ _ _ _ us hl => match us, hl with | [_, _, _], _ => rfl)
/-! ### law -/
abbrev s_law : Stmt := topS 22
def N_law : List Str := ["_law_script", "_law_cells", "_law_k", "_law_box_here", "_law_wide_here", "_law_row_here", "_law_splits", "_law_turn", "_law_one", "_law_other", "_law_number_here", "_law_moved", "_law_split"]
theorem sc_law : FnScope N_law ["_law_script"] (defScope s_law) := ⟨rfl, rfl, rfl, by decide +kernel, rfl, by decide +kernel, by decide +kernel⟩
abbrev S_law : Sc := scOf N_law s_law
theorem nd_law : decide (S_law).N.Nodup = true := by decide +kernel
theorem n_law_0 : nameOk S_law 0 "_law_script" = true := by decide +kernel
theorem n_law_1 : nameOk S_law 1 "_law_cells" = true := by decide +kernel
theorem s_law_1 : setOk S_law 1 "_law_cells" = true := by decide +kernel
theorem n_law_2 : nameOk S_law 2 "_law_k" = true := by decide +kernel
theorem s_law_2 : setOk S_law 2 "_law_k" = true := by decide +kernel
theorem n_law_3 : nameOk S_law 3 "_law_box_here" = true := by decide +kernel
theorem s_law_3 : setOk S_law 3 "_law_box_here" = true := by decide +kernel
theorem n_law_4 : nameOk S_law 4 "_law_wide_here" = true := by decide +kernel
theorem s_law_4 : setOk S_law 4 "_law_wide_here" = true := by decide +kernel
theorem n_law_5 : nameOk S_law 5 "_law_row_here" = true := by decide +kernel
theorem s_law_5 : setOk S_law 5 "_law_row_here" = true := by decide +kernel
theorem n_law_6 : nameOk S_law 6 "_law_splits" = true := by decide +kernel
theorem s_law_6 : setOk S_law 6 "_law_splits" = true := by decide +kernel
theorem s_law_7 : setOk S_law 7 "_law_turn" = true := by decide +kernel
theorem n_law_8 : nameOk S_law 8 "_law_one" = true := by decide +kernel
theorem n_law_9 : nameOk S_law 9 "_law_other" = true := by decide +kernel
theorem s_law_10 : setOk S_law 10 "_law_number_here" = true := by decide +kernel
theorem n_law_11 : nameOk S_law 11 "_law_moved" = true := by decide +kernel
theorem g_law__law_any_number : globOk S_law "_law_any_number" = true := by decide +kernel
theorem g_law__law_box : globOk S_law "_law_box" = true := by decide +kernel
theorem g_law__law_folded : globOk S_law "_law_folded" = true := by decide +kernel
theorem g_law__law_many : globOk S_law "_law_many" = true := by decide +kernel
theorem g_law__law_row : globOk S_law "_law_row" = true := by decide +kernel
theorem g_law__law_take : globOk S_law "_law_take" = true := by decide +kernel
theorem g_law__law_two_right : globOk S_law "_law_two_right" = true := by decide +kernel
theorem g_law__law_way_right : globOk S_law "_law_way_right" = true := by decide +kernel
theorem g_law__law_wide : globOk S_law "_law_wide" = true := by decide +kernel
theorem g_law_len : globOk S_law "len" = true := by decide +kernel
theorem g_law_max : globOk S_law "max" = true := by decide +kernel
theorem g_law_range : globOk S_law "range" = true := by decide +kernel
theorem g_law_sorted : globOk S_law "sorted" = true := by decide +kernel
theorem g_law_splits_of : globOk S_law "splits_of" = true := by decide +kernel
theorem b_law {P : Program} {w : World} {K : PySem.W.Frag} {mg : Str → Option Value} {base : Heap} (A : Facts K mg) (h__law_folded : FnK P w K mg base 1 "_law_folded" [false, false] F__law_folded) (h__law_box : FnK P w K mg base 1 "_law_box" [false, false] F__law_box) (h__law_wide : FnK P w K mg base 2 "_law_wide" [true] F__law_wide) (h__law_row : FnK P w K mg base 4 "_law_row" [true, false, false] F__law_row) (h_splits_of : FnK P w K mg base 1 "splits_of" [false, false] F_splits_of) (h__law_any_number : FnK P w K mg base 3 "_law_any_number" [true, false] F__law_any_number) (h_unlike : FnK P w K mg base 1 "unlike" [false, false] F_unlike) (h__law_many : FnK P w K mg base 2 "_law_many" [true, false, false] F__law_many) (h__law_take : FnK P w K mg base 1 "_law_take" [true, false] F__law_take) (h__law_two_right : FnK P w K mg base 2 "_law_two_right" [false, false, false, false] F__law_two_right) (h__law_way_right : FnK P w K mg base 3 "_law_way_right" [false, false, false] F__law_way_right) (h_turned : FnK P w K mg base 1 "turned" [false, false, false] F_turned) : ∃ t, BSs ⟨P, w, K, mg, base, 4⟩ S_law (defBody s_law) t m_law :=
  ⟨_, (bss_cons (bs_set (i := 1) s_law_1 (b_call h__law_folded (Nat.le_of_ble_eq_true rfl) g_law__law_folded (ba_cons (b_name (i := 0) n_law_0) (ba_cons b_int ba_nil))))
  (bss_cons (bs_pre [2, 3, 4, 5, 6, 7, 8, 9, 10, 11] (bs_for (bi_range1 A.z_range g_law_range (ba_cons (b_max2 A.z_max g_law_max (ba_cons b_int (ba_cons (b_len A.z_len g_law_len (ba_cons (b_name (i := 1) n_law_1) ba_nil)) ba_nil))) ba_nil)) (bg_name (i := 2) s_law_2)
    (bss_kill [2, 3, 4, 5, 6, 7, 8, 9, 10, 11] (bss_cons (bs_set (i := 3) s_law_3 (b_call h__law_box (Nat.le_of_ble_eq_true rfl) g_law__law_box (ba_cons (b_name (i := 1) n_law_1) (ba_cons (b_name (i := 2) n_law_2) ba_nil))))
    (bss_cons (bs_set (i := 4) s_law_4 (b_call h__law_wide (Nat.le_of_ble_eq_true rfl) g_law__law_wide (ba_cons (b_name (i := 3) n_law_3) ba_nil)))
    (bss_cons (bs_set (i := 5) s_law_5 (b_call h__law_row (Nat.le_of_ble_eq_true rfl) g_law__law_row (ba_cons (b_name (i := 3) n_law_3) (ba_cons (b_name (i := 4) n_law_4) (ba_cons (b_max2 A.z_max g_law_max (ba_cons b_int (ba_cons (b_call h__law_many (Nat.le_of_ble_eq_true rfl) g_law__law_many (ba_cons (b_name (i := 3) n_law_3) (ba_cons b_int (ba_cons b_int ba_nil)))) ba_nil))) ba_nil)))))
    (bss_cons (bs_set (i := 6) s_law_6 (b_call h_splits_of (Nat.le_of_ble_eq_true rfl) g_law_splits_of (ba_cons (b_name (i := 5) n_law_5) (ba_cons (b_name (i := 4) n_law_4) ba_nil))))
    (bss_cons (bs_pre [7, 8, 9] (bs_for (bi_range1 A.z_range g_law_range (ba_cons b_int ba_nil)) (bg_name (i := 7) s_law_7)
      (bss_kill [7, 8, 9] (bss_cons (bs_par2 (i := 8) (j := 9) (by decide +kernel) (ba_cons (b_ix (b_name (i := 5) n_law_5) (b_call h__law_take (Nat.le_of_ble_eq_true rfl) g_law__law_take (ba_cons (b_name (i := 3) n_law_3) (ba_cons (b_len A.z_len g_law_len (ba_cons (b_name (i := 5) n_law_5) ba_nil)) ba_nil)))) (ba_cons (b_ix (b_name (i := 5) n_law_5) (b_call h__law_take (Nat.le_of_ble_eq_true rfl) g_law__law_take (ba_cons (b_name (i := 3) n_law_3) (ba_cons (b_len A.z_len g_law_len (ba_cons (b_name (i := 5) n_law_5) ba_nil)) ba_nil)))) ba_nil)))
      (bss_one (bs_if (t_w (w_or (t_not (t_val (b_call h__law_two_right (Nat.le_of_ble_eq_true rfl) g_law__law_two_right (ba_cons (b_name (i := 4) n_law_4) (ba_cons (b_name (i := 8) n_law_8) (ba_cons (b_name (i := 9) n_law_9) (ba_cons (b_name (i := 6) n_law_6) ba_nil))))))) (w_or1 (t_not (t_val (b_call h__law_way_right (Nat.le_of_ble_eq_true rfl) g_law__law_way_right (ba_cons (b_name (i := 5) n_law_5) (ba_cons (b_name (i := 4) n_law_4) (ba_cons (b_name (i := 8) n_law_8) ba_nil)))))))))
        (bss_one (bs_ret b_bl))
        bss_nil))))))
    (bss_cons (bs_set (i := 10) s_law_10 (b_call h__law_any_number (Nat.le_of_ble_eq_true rfl) g_law__law_any_number (ba_cons (b_name (i := 3) n_law_3) (ba_cons (b_name (i := 4) n_law_4) ba_nil))))
    (bss_cons (bs_setLc (i := 11) [("_law_one", 8)] nd_law (by decide +kernel) (by decide +kernel) (bi_seq (b_name (i := 5) n_law_5)) (bg_name (i := 8) (by decide +kernel)) bts_nil (b_call h_unlike (Nat.le_of_ble_eq_true rfl) (by decide +kernel) (ba_cons (b_name (i := 8) (by decide +kernel)) (ba_cons (b_name (i := 10) (by decide +kernel)) ba_nil))))
    (bss_cons (bs_if (t_cmp k_ne (b_call h_splits_of (Nat.le_of_ble_eq_true rfl) g_law_splits_of (ba_cons (b_name (i := 11) n_law_11) (ba_cons (b_name (i := 4) n_law_4) ba_nil))) (b_sortD A.z_sorted g_law_sorted (ba_cons (b_lc [("_law_split", 12)] nd_law (by decide +kernel) (bi_seq (b_name (i := 6) n_law_6)) (bg_name (i := 12) (by decide +kernel)) bts_nil (b_call h_turned (Nat.le_of_ble_eq_true rfl) (by decide +kernel) (ba_cons (b_name (i := 12) (by decide +kernel)) (ba_cons (b_name (i := 4) (by decide +kernel)) (ba_cons (b_name (i := 10) (by decide +kernel)) ba_nil))))) ba_nil)))
      (bss_one (bs_ret b_bl))
      bss_nil)
    (bss_one (bs_if (t_cmp k_ne (b_lc [("_law_one", 8)] nd_law (by decide +kernel) (bi_seq (b_name (i := 11) n_law_11)) (bg_name (i := 8) (by decide +kernel)) bts_nil (b_call h_unlike (Nat.le_of_ble_eq_true rfl) (by decide +kernel) (ba_cons (b_name (i := 8) (by decide +kernel)) (ba_cons (b_name (i := 10) (by decide +kernel)) ba_nil)))) (b_name (i := 5) n_law_5))
      (bss_one (bs_ret b_bl))
      bss_nil)))))))))))))
  (bss_one (bs_ret b_bl))))⟩
theorem ok_law {P : Program} {w : World} {K : PySem.W.Frag} {mg : Str → Option Value} {base : Heap} (A : Facts K mg) : FnK P w K mg base 5 "law" [false] F_law :=
  fn_k A.f_law sc_law rfl rfl (b_law A (ok__law_folded A) (ok__law_box A) (ok__law_wide A) (ok__law_row A) (ok_splits_of A) (ok__law_any_number A) (ok_unlike A) (ok__law_many A) (ok__law_take A) (ok__law_two_right A) (ok__law_way_right A) (ok_turned A)) (fun _ _ _ _ _ _ us hl => match us, hl with | [_], _ => rfl)
/-! ### the top -/
def d_holds : He.DefD := ⟨("holds", none), "holds", "holds", defArgs s_holds, defBody s_holds, defScope s_holds, [], []⟩
def d_halves_of : He.DefD := ⟨("halves_of", none), "halves_of", "halves_of", defArgs s_halves_of, defBody s_halves_of, defScope s_halves_of, [], []⟩
def d_branch_of : He.DefD := ⟨("branch_of", none), "branch_of", "branch_of", defArgs s_branch_of, defBody s_branch_of, defScope s_branch_of, [], []⟩
def d_turned : He.DefD := ⟨("turned", none), "turned", "turned", defArgs s_turned, defBody s_turned, defScope s_turned, [], []⟩
def d_heads_of : He.DefD := ⟨("heads_of", none), "heads_of", "heads_of", defArgs s_heads_of, defBody s_heads_of, defScope s_heads_of, [], []⟩
def d_count_in : He.DefD := ⟨("count_in", none), "count_in", "count_in", defArgs s_count_in, defBody s_count_in, defScope s_count_in, [], []⟩
def d_splits_of : He.DefD := ⟨("splits_of", none), "splits_of", "splits_of", defArgs s_splits_of, defBody s_splits_of, defScope s_splits_of, [], []⟩
def d_unlike : He.DefD := ⟨("unlike", none), "unlike", "unlike", defArgs s_unlike, defBody s_unlike, defScope s_unlike, [], []⟩
def d_alike_ahead : He.DefD := ⟨("alike_ahead", none), "alike_ahead", "alike_ahead", defArgs s_alike_ahead, defBody s_alike_ahead, defScope s_alike_ahead, [], []⟩
def d__law_box : He.DefD := ⟨("_law_box", none), "_law_box", "_law_box", defArgs s__law_box, defBody s__law_box, defScope s__law_box, [], []⟩
def d__law_take : He.DefD := ⟨("_law_take", none), "_law_take", "_law_take", defArgs s__law_take, defBody s__law_take, defScope s__law_take, [], []⟩
def d__law_folded : He.DefD := ⟨("_law_folded", none), "_law_folded", "_law_folded", defArgs s__law_folded, defBody s__law_folded, defScope s__law_folded, [], []⟩
def d__law_wide : He.DefD := ⟨("_law_wide", none), "_law_wide", "_law_wide", defArgs s__law_wide, defBody s__law_wide, defScope s__law_wide, [], []⟩
def d__law_number : He.DefD := ⟨("_law_number", none), "_law_number", "_law_number", defArgs s__law_number, defBody s__law_number, defScope s__law_number, [], []⟩
def d__law_any_number : He.DefD := ⟨("_law_any_number", none), "_law_any_number", "_law_any_number", defArgs s__law_any_number, defBody s__law_any_number, defScope s__law_any_number, [], []⟩
def d__law_many : He.DefD := ⟨("_law_many", none), "_law_many", "_law_many", defArgs s__law_many, defBody s__law_many, defScope s__law_many, [], []⟩
def d__law_row : He.DefD := ⟨("_law_row", none), "_law_row", "_law_row", defArgs s__law_row, defBody s__law_row, defScope s__law_row, [], []⟩
def d__law_two_right : He.DefD := ⟨("_law_two_right", none), "_law_two_right", "_law_two_right", defArgs s__law_two_right, defBody s__law_two_right, defScope s__law_two_right, [], []⟩
def d__law_way_right : He.DefD := ⟨("_law_way_right", none), "_law_way_right", "_law_way_right", defArgs s__law_way_right, defBody s__law_way_right, defScope s__law_way_right, [], []⟩
def d_law : He.DefD := ⟨("law", none), "law", "law", defArgs s_law, defBody s_law, defScope s_law, [], []⟩
def fnL : List He.DefD := [d_holds, d_halves_of, d_branch_of, d_turned, d_heads_of, d_count_in, d_splits_of, d_unlike, d_alike_ahead, d__law_box, d__law_take, d__law_folded, d__law_wide, d__law_number, d__law_any_number, d__law_many, d__law_row, d__law_two_right, d__law_way_right, d_law]
def faL : List He.Fa := [.glo "holds", .glo "halves_of", .glo "branch_of", .glo "turned", .glo "heads_of", .glo "count_in", .glo "splits_of", .glo "unlike", .glo "alike_ahead", .glo "_law_box", .glo "_law_take", .glo "_law_folded", .glo "_law_wide", .glo "_law_number", .glo "_law_any_number", .glo "_law_many", .glo "_law_row", .glo "_law_two_right", .glo "_law_way_right", .glo "law", .free "abs", .free "dict", .free "divmod", .free "enumerate", .free "int", .free "len", .free "list", .free "max", .free "min", .free "range", .free "sorted", .free "sum", .free "tuple", .free "zip"]
abbrev RowL : PySem.W.OpenRow := PySem.W.OpenLaw.row PySem.Challenge.rw_unlikebits_k07_whole_branches_walked
abbrev hkL : PySem.W.Hook := He.hookD 4 faL fnL
def obL (s : PySem.W.SharedT) : He.AlD := He.obsDG 4 faL fnL (HandSHeadRun.getT s)
theorem obL_eq (s : PySem.W.SharedT) : obL s = hkL.obs s.abs := He.obsDG_eq (HandSHeadRun.getT_eq s)
def looseL : List Str := ("holds" : Str) :: ("halves_of" : Str) :: ("branch_of" : Str) :: ("turned" : Str) :: ("heads_of" : Str) :: ("count_in" : Str) :: ("splits_of" : Str) :: ("unlike" : Str) :: ("alike_ahead" : Str) :: ("_law_box" : Str) :: ("_law_take" : Str) :: ("_law_folded" : Str) :: ("_law_wide" : Str) :: ("_law_number" : Str) :: ("_law_any_number" : Str) :: ("_law_many" : Str) :: ("_law_row" : Str) :: ("_law_two_right" : Str) :: ("_law_way_right" : Str) :: []
theorem runL (w : World) : HandSHeadRun.RunEq RowL (PySem.W.view RowL.prog [22]) hkL obL 4000 looseL w := by
  intro os
  kernel_rfl
theorem factsL {K : PySem.W.Frag} {h : Heap} {mg : Str → Option Value} (X : K.In h) (G : h.Ns mainGlobals mg) (c : He.SaysD faL fnL K) : Facts K mg where
  z_abs := He.free_ok X G (c.fact 20 (f := .free "abs") rfl)
  z_dict := He.free_ok X G (c.fact 21 (f := .free "dict") rfl)
  z_divmod := He.free_ok X G (c.fact 22 (f := .free "divmod") rfl)
  z_enumerate := He.free_ok X G (c.fact 23 (f := .free "enumerate") rfl)
  z_int := He.free_ok X G (c.fact 24 (f := .free "int") rfl)
  z_len := He.free_ok X G (c.fact 25 (f := .free "len") rfl)
  z_list := He.free_ok X G (c.fact 26 (f := .free "list") rfl)
  z_max := He.free_ok X G (c.fact 27 (f := .free "max") rfl)
  z_min := He.free_ok X G (c.fact 28 (f := .free "min") rfl)
  z_range := He.free_ok X G (c.fact 29 (f := .free "range") rfl)
  z_sorted := He.free_ok X G (c.fact 30 (f := .free "sorted") rfl)
  z_sum := He.free_ok X G (c.fact 31 (f := .free "sum") rfl)
  z_tuple := He.free_ok X G (c.fact 32 (f := .free "tuple") rfl)
  z_zip := He.free_ok X G (c.fact 33 (f := .free "zip") rfl)
  f_holds := let ⟨fd, F⟩ := c.def_ 0 (d := d_holds) rfl; ⟨_, fd, F, He.glo_ok X G (c.fact 0 (f := .glo "holds") rfl)⟩
  f_halves_of := let ⟨fd, F⟩ := c.def_ 1 (d := d_halves_of) rfl; ⟨_, fd, F, He.glo_ok X G (c.fact 1 (f := .glo "halves_of") rfl)⟩
  f_branch_of := let ⟨fd, F⟩ := c.def_ 2 (d := d_branch_of) rfl; ⟨_, fd, F, He.glo_ok X G (c.fact 2 (f := .glo "branch_of") rfl)⟩
  f_turned := let ⟨fd, F⟩ := c.def_ 3 (d := d_turned) rfl; ⟨_, fd, F, He.glo_ok X G (c.fact 3 (f := .glo "turned") rfl)⟩
  f_heads_of := let ⟨fd, F⟩ := c.def_ 4 (d := d_heads_of) rfl; ⟨_, fd, F, He.glo_ok X G (c.fact 4 (f := .glo "heads_of") rfl)⟩
  f_count_in := let ⟨fd, F⟩ := c.def_ 5 (d := d_count_in) rfl; ⟨_, fd, F, He.glo_ok X G (c.fact 5 (f := .glo "count_in") rfl)⟩
  f_splits_of := let ⟨fd, F⟩ := c.def_ 6 (d := d_splits_of) rfl; ⟨_, fd, F, He.glo_ok X G (c.fact 6 (f := .glo "splits_of") rfl)⟩
  f_unlike := let ⟨fd, F⟩ := c.def_ 7 (d := d_unlike) rfl; ⟨_, fd, F, He.glo_ok X G (c.fact 7 (f := .glo "unlike") rfl)⟩
  f_alike_ahead := let ⟨fd, F⟩ := c.def_ 8 (d := d_alike_ahead) rfl; ⟨_, fd, F, He.glo_ok X G (c.fact 8 (f := .glo "alike_ahead") rfl)⟩
  f__law_box := let ⟨fd, F⟩ := c.def_ 9 (d := d__law_box) rfl; ⟨_, fd, F, He.glo_ok X G (c.fact 9 (f := .glo "_law_box") rfl)⟩
  f__law_take := let ⟨fd, F⟩ := c.def_ 10 (d := d__law_take) rfl; ⟨_, fd, F, He.glo_ok X G (c.fact 10 (f := .glo "_law_take") rfl)⟩
  f__law_folded := let ⟨fd, F⟩ := c.def_ 11 (d := d__law_folded) rfl; ⟨_, fd, F, He.glo_ok X G (c.fact 11 (f := .glo "_law_folded") rfl)⟩
  f__law_wide := let ⟨fd, F⟩ := c.def_ 12 (d := d__law_wide) rfl; ⟨_, fd, F, He.glo_ok X G (c.fact 12 (f := .glo "_law_wide") rfl)⟩
  f__law_number := let ⟨fd, F⟩ := c.def_ 13 (d := d__law_number) rfl; ⟨_, fd, F, He.glo_ok X G (c.fact 13 (f := .glo "_law_number") rfl)⟩
  f__law_any_number := let ⟨fd, F⟩ := c.def_ 14 (d := d__law_any_number) rfl; ⟨_, fd, F, He.glo_ok X G (c.fact 14 (f := .glo "_law_any_number") rfl)⟩
  f__law_many := let ⟨fd, F⟩ := c.def_ 15 (d := d__law_many) rfl; ⟨_, fd, F, He.glo_ok X G (c.fact 15 (f := .glo "_law_many") rfl)⟩
  f__law_row := let ⟨fd, F⟩ := c.def_ 16 (d := d__law_row) rfl; ⟨_, fd, F, He.glo_ok X G (c.fact 16 (f := .glo "_law_row") rfl)⟩
  f__law_two_right := let ⟨fd, F⟩ := c.def_ 17 (d := d__law_two_right) rfl; ⟨_, fd, F, He.glo_ok X G (c.fact 17 (f := .glo "_law_two_right") rfl)⟩
  f__law_way_right := let ⟨fd, F⟩ := c.def_ 18 (d := d__law_way_right) rfl; ⟨_, fd, F, He.glo_ok X G (c.fact 18 (f := .glo "_law_way_right") rfl)⟩
  f_law := let ⟨fd, F⟩ := c.def_ 19 (d := d_law) rfl; ⟨_, fd, F, He.glo_ok X G (c.fact 19 (f := .glo "law") rfl)⟩
/-- the law, from what its mirror makes of a script -/
theorem law_holds (main : ∀ ns : List Int, ns.length ≤ 63 → ∃ ds', F_law [.fz (ns.map D.int)] = some (.bl true, ds')) : PySem.Challenge.rw_unlikebits_k07_whole_branches_walked.Holds := by
  w_on; o_law
  refine HandSHeadRun.head_any (r := PySem.W.OpenLaw.row PySem.Challenge.rw_unlikebits_k07_whole_branches_walked) (q := PySem.W.view (PySem.W.OpenLaw.row PySem.Challenge.rw_unlikebits_k07_whole_branches_walked).prog [22]) (H := hkL) (ob := obL) (M := 4000) (loose := looseL) (d := HandSHeadRun.topDef (PySem.W.OpenLaw.row PySem.Challenge.rw_unlikebits_k07_whole_branches_walked).prog 22) (kwd := []) obL_eq
    (by kernel_rfl) (fun s => by kernel_rfl) runL (by kernel_rfl) (by kernel_rfl) (by kernel_rfl) (by rfl) (by first | assumption | decide +kernel) (by decide +kernel) ⟨rfl, rfl, rfl, rfl, rfl, by decide +kernel⟩ ?hw ?hc
  case hw => w_witness2
  case hc =>
    refine walk_ofG (l := PySem.Challenge.rw_unlikebits_k07_whole_branches_walked) (n := 63) (k := 5) (x := "_law_script") (CX := L2.CX0) rfl (by decide) (by kernel_rfl) ⟨rfl, by decide, by decide⟩ ?F (fun _ _ _ _ z => z)
    intro w mg fa h Y G hmg0
    obtain ⟨K, KX, c⟩ := Y
    have hmg : mg ("law" : PySem.Str) = some (.ref fa) := by
      have e : (HandSHeadRun.topDef (PySem.W.OpenLaw.row PySem.Challenge.rw_unlikebits_k07_whole_branches_walked).prog 22).name = ("law" : PySem.Str) := by kernel_rfl
      rw [← e]
      exact hmg0
    have A : Facts K mg := factsL KX G c
    obtain ⟨f, fd, F, hm⟩ := A.f_law
    have ef : f = fa := by
      rw [hm] at hmg
      cases hmg
      rfl
    subst ef
    have bb := FunD.bindsA (ps := ["_law_script"]) F fun _ _ _ _ _ _ us hl => match us, hl with | [_], _ => rfl
    refine ⟨K, fd, SpF K [false] F_law, KX, fun s v => bb s [v] rfl, fun H a ns hl hO hS => law_sp hO hS (main ns hl), fun base _ _ => ?_⟩
    obtain ⟨t, hb⟩ := b_law (P := (PySem.Challenge.rw_unlikebits_k07_whole_branches_walked).prog) (w := w) (base := base) A (ok__law_folded A) (ok__law_box A) (ok__law_wide A) (ok__law_row A) (ok_splits_of A) (ok__law_any_number A) (ok_unlike A) (ok__law_many A) (ok__law_take A) (ok__law_two_right A) (ok__law_way_right A) (ok_turned A)
    exact fn_okD F sc_law rfl rfl hb
end U

namespace U.P
open PySem L2 U U.Mir
local macro_rules | `(tactic| walk_at "side") => `(tactic| first | exact rfl | exact Nat.le_of_ble_eq_true rfl | omega | assumption | (simp only [List.length_map, List.length_append, List.length_cons, List.length_nil, List.length_range, List.length_set, List.length_zipIdx, List.length_reverse, List.length_take, List.length_drop, List.length_replicate] at *; omega))
local macro_rules | `(tactic| walk_at "w1") => `(tactic| first | (refine St.pf ?_) | ((refine wp ?_ ?_); (walk_at "side")) | (refine wif_dt (by omega) ?_) | (refine wif_df (by omega) ?_) | (refine wif_ndt (by omega) ?_) | (refine wif_ndf (by omega) ?_) | (refine fun _ => ?_))
local macro_rules | `(tactic| walk_at "w") => `(tactic| repeat (walk_at "w1"))
local macro_rules | `(tactic| walk_at "fn") => `(tactic| (refine w_fn' rfl ?_; walk_at "w"))
local macro_rules | `(tactic| walk_at "if") => `(tactic| first | (refine wif_d (fun _ => ?_) (fun _ => ?_)) | (refine wif_nd (fun _ => ?_) (fun _ => ?_)))
local macro_rules | `(tactic| walk_at "u") => `(tactic| first | (simp only [List.range, List.range.loop, List.map_cons, List.map_nil]; (first | (refine w_fl_cons ?_) | (refine w_cl_cons ?_))) | (refine w_fl_cons ?_) | (refine w_cl_cons ?_))
local macro_rules | `(tactic| walk_at "f") => `(tactic| fail "no spec")
local macro_rules | `(tactic| walk_at "wf") => `(tactic| (walk_at "w"; repeat (walk_at "f"; walk_at "w")))
local macro_rules | `(tactic| walk_at "j") => `(tactic| (refine w_ifJ ?_; walk_at "w"))
-- holds
theorem sub_nat {w n : Nat} (h : n ≤ w) : ((w : Int) - (n : Int)).toNat = w - n := by omega
theorem s_holds {i j : Int} {n h w x : Nat} [e : NatI i w] [e2 : NatI j x] {Q : D → List D → Prop} (hn : n ≤ w) (hw : w ≤ 1000) (q : Q (.bl (decide (x / 2 ^ (w - n) = h))) [.tup [nD n, nD h], .int i, .int j]) : WF F_holds [.tup [nD n, nD h], .int i, .int j] Q := by
  obtain rfl := e.eq
  obtain rfl := e2.eq
  unfold F_holds m_holds
  walk_at "fn"
  rw [← sub_nat hn] at q
  exact q
local macro_rules | `(tactic| walk_at "f") => `(tactic| ((with_reducible refine s_holds ?_ ?_ ?_); omega; omega))

-- halves_of
theorem s_halves {n h : Nat} {Q : D → List D → Prop} (q : Q (.tup [.tup [nD (n + 1), nD (2 * h)], .tup [nD (n + 1), nD (2 * h + 1)]]) [.tup [nD n, nD h]]) : WF F_halves_of [.tup [nD n, nD h]] Q := by
  unfold F_halves_of m_halves_of
  walk_at "fn"
  exact q
local macro_rules | `(tactic| walk_at "f") => `(tactic| (with_reducible refine s_halves ?_))

-- branch_of
theorem s_branch_of {i j k : Int} {x w n : Nat} [e1 : NatI i x] [e2 : NatI j w] [e3 : NatI k n] {Q : D → List D → Prop} (hn : n ≤ w) (q : Q (.tup [nD n, nD (x / 2 ^ (w - n))]) [.int i, .int j, .int k]) : WF F_branch_of [.int i, .int j, .int k] Q := by
  obtain rfl := e1.eq
  obtain rfl := e2.eq
  obtain rfl := e3.eq
  unfold F_branch_of m_branch_of
  walk_at "fn"
  rw [show w - n = ((w : Int) - (n : Int)).toNat by omega] at q
  exact q
local macro_rules | `(tactic| walk_at "f") => `(tactic| ((with_reducible refine s_branch_of ?_ ?_); omega))

-- turned
theorem s_turned {i j : Int} {n h w x : Nat} [e : NatI i w] [e2 : NatI j x] {Q : D → List D → Prop} (hn : n ≤ w) (q : Q (.tup [nD n, nD (h ^^^ (x / 2 ^ (w - n)))]) [.tup [nD n, nD h], .int i, .int j]) : WF F_turned [.tup [nD n, nD h], .int i, .int j] Q := by
  obtain rfl := e.eq
  obtain rfl := e2.eq
  unfold F_turned m_turned
  walk_at "fn"
  rw [show w - n = ((w : Int) - (n : Int)).toNat by omega] at q
  exact q
local macro_rules | `(tactic| walk_at "f") => `(tactic| ((with_reducible refine s_turned ?_ ?_); omega))

-- heads_of
abbrev headsN (xs : List Nat) (w n : Nat) : List Nat := setN (xs.map fun x => x / 2 ^ (w - n))
theorem s_heads_of {xs : List Nat} {i j : Int} {w n : Nat} [a : NatI i w] [b : NatI j n] {Q : D → List D → Prop} (hn : n ≤ w) (hw : w ≤ 1000) (hl : xs.length ≤ 100000) (q : Q (tD nD (headsN xs w n)) [lD nD xs, .int i, .int j]) : WF F_heads_of [lD nD xs, .int i, .int j] Q := by
  obtain rfl := a.eq
  obtain rfl := b.eq
  unfold F_heads_of m_heads_of
  walk_at "fn"
  have e : (w : Int) - (n : Int) = ((w - n : Nat) : Int) := by omega
  refine cmap (f := fun x => .tup [nD (x / 2 ^ (w - n)), .bl true]) xs (by omega) (fun x _ => ?_) ?_
  · walk_at "w"
    rw [e]
    walk_at "w"
    rfl
  walk_at "w"
  rename_i l h1 h2
  rw [sort_nodup h1 h2]
  exact q
theorem s_heads_ofT {xs : List Nat} {i j : Int} {w n : Nat} [a : NatI i w] [b : NatI j n] {Q : D → List D → Prop} (hn : n ≤ w) (hw : w ≤ 1000) (hl : xs.length ≤ 100000) (q : Q (tD nD (headsN xs w n)) [tD nD xs, .int i, .int j]) : WF F_heads_of [tD nD xs, .int i, .int j] Q := by
  obtain rfl := a.eq
  obtain rfl := b.eq
  unfold F_heads_of m_heads_of
  walk_at "fn"
  have e : (w : Int) - (n : Int) = ((w - n : Nat) : Int) := by omega
  refine cmap (f := fun x => .tup [nD (x / 2 ^ (w - n)), .bl true]) xs (by omega) (fun x _ => ?_) ?_
  · walk_at "w"
    rw [e]
    walk_at "w"
    rfl
  walk_at "w"
  rename_i l h1 h2
  rw [sort_nodup h1 h2]
  exact q
local macro_rules | `(tactic| walk_at "f") => `(tactic| ((with_reducible refine s_heads_of ?_ ?_ ?_ ?_); omega; omega; (walk_at "side")))
local macro_rules | `(tactic| walk_at "f") => `(tactic| ((with_reducible refine s_heads_ofT ?_ ?_ ?_ ?_); omega; omega; (walk_at "side")))

-- count_in
/-- how many a branch holds -/
abbrev heldN (xs : List Nat) (w n h : Nat) : List Nat := xs.filter fun x => decide (x / 2 ^ (w - n) = h)
theorem s_count_in {xs : List Nat} {i : Int} {w n h : Nat} [a : NatI i w] {Q : D → List D → Prop} (hn : n ≤ w) (hw : w ≤ 1000) (hl : xs.length ≤ 100000) (q : Q (nD (heldN xs w n h).length) [lD nD xs, .int i, .tup [nD n, nD h]]) : WF F_count_in [lD nD xs, .int i, .tup [nD n, nD h]] Q := by
  obtain rfl := a.eq
  unfold F_count_in m_count_in
  walk_at "fn"
  refine cfm (f := nD) (fun x => decide (x / 2 ^ (w - n) = h)) xs (by omega) (fun x _ => ?_) ?_
  · walk_at "wf"
    walk_at "if"
    · walk_at "w"; rfl
    · walk_at "w"; rfl
  walk_at "w"
  exact q
theorem s_count_inT {xs : List Nat} {i : Int} {w n h : Nat} [a : NatI i w] {Q : D → List D → Prop} (hn : n ≤ w) (hw : w ≤ 1000) (hl : xs.length ≤ 100000) (q : Q (nD (heldN xs w n h).length) [tD nD xs, .int i, .tup [nD n, nD h]]) : WF F_count_in [tD nD xs, .int i, .tup [nD n, nD h]] Q := by
  obtain rfl := a.eq
  unfold F_count_in m_count_in
  walk_at "fn"
  refine cfm (f := nD) (fun x => decide (x / 2 ^ (w - n) = h)) xs (by omega) (fun x _ => ?_) ?_
  · walk_at "wf"
    walk_at "if"
    · walk_at "w"; rfl
    · walk_at "w"; rfl
  walk_at "w"
  exact q
local macro_rules | `(tactic| walk_at "f") => `(tactic| ((with_reducible refine s_count_in ?_ ?_ ?_ ?_); omega; omega; (walk_at "side")))
local macro_rules | `(tactic| walk_at "f") => `(tactic| ((with_reducible refine s_count_inT ?_ ?_ ?_ ?_); omega; omega; (walk_at "side")))

-- splits_of
theorem s_splits_ofG {d : D} {xs : List Nat} {w : Nat} {Q : D → List D → Prop} (hd : d = lD nD xs ∨ d = tD nD xs) (hb : Bd w xs) (hw : w ≤ 1000) (hl : xs.length ≤ 100000) (q : Q (lD (pD nD nD) (splN xs w)) [d, .int (w : Int)]) : WF F_splits_of [d, .int (w : Int)] Q := by
  unfold F_splits_of m_splits_of
  have hup := setN_up xs
  have hlt := adj_lt hup
  have hsl := setN_len xs
  have hbs : ∀ x ∈ setN xs, x < 2 ^ w := fun x hx => hb x (setN_mem.mp hx)
  rcases hd with rfl | rfl
  all_goals
    walk_at "fn"
    refine cmap (f := fun x => .tup [nD x, .bl true]) xs (by omega) (fun x _ => ?_) ?_
    · walk_at "w"
      rfl
    walk_at "w"
    rename_i l h1 h2
    rw [sort_nodup (xs := xs) (by simpa using h1) h2]
    walk_at "w"
    refine flp (pD nD nD) (fun ρ (a : List (Nat × Nat)) => ρ.set 4 (some (.o, lD (pD nD nD) a))) (fun l a => a = l.map (spOf w)) _ [] rfl rfl ?_ ?_
    · rintro ⟨a, b⟩ l r _ hs rfl
      have hm : (a, b) ∈ adjN (setN xs) := by rw [adjN, hs]; simp
      have hab : a < b := hlt _ hm
      obtain ⟨ma, mb⟩ := adj_mem hm
      have hx : a ^^^ b ≠ 0 := fun z => by have := xor_z z; omega
      have hg := lg_lt (hbs a ma) (hbs b mb) hx
      have e1 : (w : Int) - (((a ^^^ b).log2 + 1 : Nat) : Int) = ((w - ((a ^^^ b).log2 + 1) : Nat) : Int) := by omega
      have e2 : (w : Int) - ((w - ((a ^^^ b).log2 + 1) : Nat) : Int) = (((a ^^^ b).log2 + 1 : Nat) : Int) := by omega
      have hll : l.length ≤ xs.length := by
        have := congrArg List.length hs
        simp only [List.length_zip, List.length_append, List.length_cons] at this
        omega
      walk_at "w"
      rw [e1]
      walk_at "w"
      rw [e2]
      walk_at "w"
      exact ⟨l.map (spOf w) ++ [spOf w (a, b)], by simp only [lD, List.map_append, List.map_cons, List.map_nil]; rfl, by rw [List.map_append]; rfl⟩
    · rintro _ rfl
      walk_at "w"
      exact q
theorem s_splits_of {xs : List Nat} {i : Int} {w : Nat} [a : NatI i w] {Q : D → List D → Prop} (hb : Bd w xs) (hw : w ≤ 1000) (hl : xs.length ≤ 100000) (q : Q (lD (pD nD nD) (splN xs w)) [lD nD xs, .int i]) : WF F_splits_of [lD nD xs, .int i] Q := by
  obtain rfl := a.eq
  exact s_splits_ofG (.inl rfl) hb hw hl q
theorem s_splits_ofT {xs : List Nat} {i : Int} {w : Nat} [a : NatI i w] {Q : D → List D → Prop} (hb : Bd w xs) (hw : w ≤ 1000) (hl : xs.length ≤ 100000) (q : Q (lD (pD nD nD) (splN xs w)) [tD nD xs, .int i]) : WF F_splits_of [tD nD xs, .int i] Q := by
  obtain rfl := a.eq
  exact s_splits_ofG (.inr rfl) hb hw hl q
local macro_rules | `(tactic| walk_at "f") => `(tactic| ((with_reducible refine s_splits_of (by assumption) ?_ ?_ ?_); omega; (walk_at "side")))
local macro_rules | `(tactic| walk_at "f") => `(tactic| ((with_reducible refine s_splits_ofT (by assumption) ?_ ?_ ?_); omega; (walk_at "side")))

-- unlike
theorem s_unlike {i j : Int} {x y : Nat} [a : NatI i x] [b : NatI j y] {Q : D → List D → Prop} (q : Q (.int ((x ^^^ y : Nat) : Int)) [.int i, .int j]) : WF F_unlike [.int i, .int j] Q := by
  unfold F_unlike m_unlike
  walk_at "fn"
  exact q
local macro_rules | `(tactic| walk_at "f") => `(tactic| (with_reducible refine s_unlike ?_))

-- alike_ahead
def blN (x : Nat) : Nat := if x = 0 then 0 else x.log2 + 1
theorem q_bits0 {Q : D → Prop} (q : Q (.int ((0 : Nat) : Int))) : W1 (dBits (.int ((0 : Nat) : Int))) Q := ⟨_, rfl, q⟩
theorem blN_le {x w : Nat} (h : x < 2 ^ w) : blN x ≤ w := by
  unfold blN
  split
  · omega
  · rename_i h0
    have := (Nat.log2_lt h0).mpr h
    omega
theorem q_bitsZ {i : Int} {n : Nat} {Q : D → Prop} [a : NatI i n] (q : Q (.int ((blN n : Nat) : Int))) : W1 (dBits (.int i)) Q := by
  unfold blN at q
  split at q
  · rename_i h
    subst h
    obtain rfl := a.eq
    exact q_bits0 q
  · rename_i h
    exact (q_bitsN (i := i) (n := n)).pf ⟨h, q⟩
theorem s_alike_ahead {i j k : Int} {x y w : Nat} [a : NatI i x] [b : NatI j y] [c : NatI k w] {Q : D → List D → Prop} (hx : x < 2 ^ w) (hy : y < 2 ^ w) (q : Q (nD (w - blN (x ^^^ y))) [.int i, .int j, .int k]) : WF F_alike_ahead [.int i, .int j, .int k] Q := by
  obtain rfl := a.eq
  obtain rfl := b.eq
  obtain rfl := c.eq
  unfold F_alike_ahead m_alike_ahead
  have hl := blN_le (Nat.xor_lt_two_pow hx hy)
  haveI hbits : ∀ Q : D → Prop, St (W1 (dBits (.int ((x ^^^ y : Nat) : Int))) Q) (Q (.int ((blN (x ^^^ y) : Nat) : Int))) := fun Q => ⟨fun q => q_bitsZ q⟩
  walk_at "fn"
  rw [show (w : Int) - ((blN (x ^^^ y) : Nat) : Int) = ((w - blN (x ^^^ y) : Nat) : Int) by omega]
  exact q
local macro_rules | `(tactic| walk_at "f") => `(tactic| ((with_reducible refine s_alike_ahead (by assumption) (by assumption) ?_)))

-- _law_box
theorem s_box {cs : List Int} {j : Int} {k : Nat} [a : NatI j k] {Q : D → List D → Prop} (hk : k ≤ 1000) (hl : cs.length ≤ 1000) (q : ∀ d, Box 0 d → Q d [lD iD cs, .int j]) : WF F__law_box [lD iD cs, .int j] Q := by
  unfold F__law_box m__law_box
  walk_at "fn"
  exact q _ ⟨_, _, 0, rfl, Nat.mod_lt _ (by decide), Nat.le_refl _⟩
local macro_rules | `(tactic| walk_at "f") => `(tactic| ((with_reducible refine s_box ?_ ?_ (fun _ _ => ?_)); omega; omega))

-- _law_take
theorem t_take {d : D} {N : Nat} {j : Int} {m : Nat} [a : NatI j m] {Q : D → List D → Prop} (hB : Box N d) (hN : N < 600000000) (hm : 0 < m) (hm2 : m < 1073741824) (q : ∀ d' r, Box (N + 1) d' → r < m → Q (.int ((r : Nat) : Int)) [d', .int j]) : WF F__law_take [d, .int j] Q := by
  obtain ⟨x, y, z, rfl, hy, hz⟩ := hB
  unfold F__law_take m__law_take
  walk_at "fn"
  walk_at "if"
  · walk_at "w"
    exact q _ _ ⟨_, _, _, rfl, hy, by omega⟩ (Nat.mod_lt _ hm)
  · walk_at "w"
    have h1 := Nat.mod_lt ((y + 39373 * (z + 1)) * (69621 + (z + 1))) (show 2147483587 > 0 by decide)
    have h2 := Nat.mod_lt ((y + 39373 * (z + 1)) * (69621 + (z + 1)) % 2147483587) (show 30011 > 0 by decide)
    walk_at "w"
    exact q _ _ ⟨_, _, _, rfl, hy, by omega⟩ (Nat.mod_lt _ hm)
local macro_rules | `(tactic| walk_at "f") => `(tactic| ((with_reducible refine t_take (by assumption) ?_ ?_ ?_ (fun _ _ _ _ => ?_)); omega; omega; omega))

-- _law_folded
theorem s_folded {ns : List Int} {j : Int} {m : Nat} [a : NatI j m] {Q : D → List D → Prop} (hm : 0 < m) (hm2 : m ≤ 63) (q : ∀ cs : List Int, cs.length ≤ m → Q (lD iD cs) [.fz (ns.map iD), .int j]) : WF F__law_folded [.fz (ns.map iD), .int j] Q := by
  obtain rfl := a.eq
  unfold F__law_folded m__law_folded
  walk_at "fn"
  refine fl (eD iD) (fun ρ (c : List Int) => ρ.set 2 (some (.o, lD iD c))) (fun r c => c.length = (ns.take m).length ∧ (r ≠ [] → (ns.take m).length = m) ∧ ∀ p ∈ r, p.2 < 100) _ (ns.take m) rfl ?_ ?_ ?_
  · refine ⟨rfl, fun h => ?_, fun p hp => ?_⟩
    · rw [List.length_take]
      by_cases hl : m ≤ ns.length
      · omega
      · exfalso
        apply h
        have : ((ns.take 63).drop m) = [] := List.drop_eq_nil_of_le (by rw [List.length_take]; omega)
        rw [this]; rfl
    · have h1 := (List.mem_zipIdx hp).2.1
      simp only [List.length_drop, List.length_take] at h1
      omega
  · rintro ⟨x, k⟩ r c ⟨h1, h2, h3⟩
    have h2' := h2 (by simp)
    have hk : k < 100 := h3 (x, k) List.mem_cons_self
    have hmod := Nat.mod_lt k hm
    walk_at "w"
    exact ⟨_, rfl, by rw [List.length_set]; exact h1, fun _ => h2', fun p hp => h3 p (List.mem_cons_of_mem _ hp)⟩
  · rintro c ⟨h1, h2, h3⟩
    walk_at "w"
    exact q c (by rw [h1, List.length_take]; omega)
local macro_rules | `(tactic| walk_at "f") => `(tactic| ((with_reducible refine s_folded ?_ ?_ (fun _ _ => ?_)); omega; omega))

-- _law_wide
theorem s_wide {d : D} {N : Nat} {Q : D → List D → Prop} (hB : Box N d) (hN : N < 590000000) (q : ∀ d' (w : Nat), Box (N + 5) d' → 1 ≤ w → w ≤ 60 → Q (.int (w : Int)) [d']) : WF F__law_wide [d] Q := by
  unfold F__law_wide m__law_wide
  walk_at "fn"
  walk_at "wf"
  walk_at "if"
  · walk_at "wf"
    exact q _ _ (Box.up (by assumption) (by omega)) (by omega) (by omega)
  · walk_at "wf"
    rename_i k hk
    have : 1 ≤ k ∧ k ≤ 60 := by
      simp only [List.mem_cons, List.not_mem_nil, or_false] at hk
      omega
    exact q _ _ (Box.up (by assumption) (by omega)) (by omega) (by omega)
local macro_rules | `(tactic| walk_at "f") => `(tactic| ((with_reducible refine s_wide (by assumption) ?_ (fun _ _ _ _ _ => ?_)); omega))

-- _law_number
theorem s_number {d : D} {N w : Nat} {j : Int} [a : NatI j w] {Q : D → List D → Prop} (hB : Box N d) (hN : N < 590000000) (hw : w ≤ 1000) (q : ∀ d' (x : Nat), Box (N + 3) d' → x < 2 ^ w → Q (.int (x : Int)) [d', .int j]) : WF F__law_number [d, .int j] Q := by
  unfold F__law_number m__law_number
  walk_at "fn"
  walk_at "u"
  walk_at "wf"
  walk_at "u"
  walk_at "wf"
  walk_at "u"
  walk_at "wf"
  have := Nat.two_pow_pos w
  walk_at "w"
  exact q _ _ (Box.up (by assumption) (by omega)) (Nat.mod_lt _ this)
local macro_rules | `(tactic| walk_at "f") => `(tactic| ((with_reducible refine s_number (by assumption) ?_ ?_ (fun _ _ _ _ => ?_)); omega; omega))

-- _law_any_number
theorem s_any {d : D} {N w : Nat} {j : Int} [a : NatI j w] {Q : D → List D → Prop} (hB : Box N d) (hN : N < 580000000) (hw : 1 ≤ w) (hw2 : w ≤ 1000) (q : ∀ d' (x : Nat), Box (N + 7) d' → x < 2 ^ w → Q (.int (x : Int)) [d', .int j]) : WF F__law_any_number [d, .int j] Q := by
  unfold F__law_any_number m__law_any_number
  have hp := Nat.two_pow_pos w
  walk_at "fn"
  walk_at "wf"
  rename_i _ r1 _ h1 _ r2 _ h2 _ x3 _ h3 _ r4 _ h4 k hk
  have e1 : 2 ^ r1 < 2 ^ w := Nat.pow_lt_pow_right (by decide) h1
  have e2 : 2 ^ r2 < 2 ^ w := Nat.pow_lt_pow_right (by decide) h2
  have e3 := Nat.two_pow_pos r1
  have e4 := Nat.two_pow_pos r2
  have : 0 ≤ k ∧ k < ((2 ^ w : Nat) : Int) := by
    simp only [List.mem_cons, List.not_mem_nil, or_false] at hk
    omega
  obtain ⟨x, rfl⟩ := Int.eq_ofNat_of_zero_le this.1
  exact q _ _ (Box.up (by assumption) (by omega)) (by omega)
local macro_rules | `(tactic| walk_at "f") => `(tactic| ((with_reducible refine s_any (by assumption) ?_ ?_ ?_ (fun _ _ _ _ => ?_)); omega; omega; omega))

-- _law_many
theorem s_many {d : D} {N : Nat} {i j : Int} {f m : Nat} [a : NatI i f] [b : NatI j m] {Q : D → List D → Prop} (hB : Box N d) (hN : N < 590000000) (hf : f < 100000) (hm : 8 < m) (hm2 : m < 100000) (q : ∀ d' (x : Nat), Box (N + 2) d' → x ≤ max f m → Q (.int (x : Int)) [d', .int i, .int j]) : WF F__law_many [d, .int i, .int j] Q := by
  obtain rfl := a.eq
  obtain rfl := b.eq
  unfold F__law_many m__law_many
  walk_at "fn"
  walk_at "wf"
  walk_at "if"
  · walk_at "w"
    haveI : NatI ((m : Int) - ((8 : Nat) : Int)) (m - 8) := ⟨by omega⟩
    walk_at "wf"
    exact q _ _ (by assumption) (by omega)
  · walk_at "wf"
    exact q _ _ (by assumption) (by omega)
local macro_rules | `(tactic| walk_at "f") => `(tactic| ((with_reducible refine s_many (by assumption) ?_ ?_ ?_ ?_ (fun _ _ _ _ => ?_)); omega; omega; omega; omega))

-- _law_row
theorem s_row {d : D} {N w m : Nat} {i j : Int} [a : NatI i w] [b : NatI j m] {Q : D → List D → Prop} (hB : Box N d) (hN : N < 570000000) (hw : 1 ≤ w) (hw2 : w ≤ 63) (hm : m ≤ 100000) (q : ∀ d' xs, Box (N + 100 + 10 * m) d' → Bd w xs → xs.length = m → Q (lD nD xs) [d', .int i, .int j]) : WF F__law_row [d, .int i, .int j] Q := by
  obtain rfl := a.eq
  obtain rfl := b.eq
  unfold F__law_row m__law_row
  have hp := Nat.two_pow_pos w
  walk_at "fn"
  walk_at "wf"
  walk_at "u"
  walk_at "wf"
  walk_at "u"
  walk_at "wf"
  walk_at "u"
  walk_at "wf"
  rename_i d0 way b0 l0 d1 base b1 l1 d2 s0 b2 l2 d3 s1 b3 l3 d4 s2 b4 l4 d5 lo b5 l5
  have hlo := Nat.two_pow_pos (lo + 1)
  refine flr m (fun ρ (s : D × List Nat) => (ρ.set 0 (some (.l, s.1))).set 8 (some (.o, lD nD s.2))) (fun k s => Box (N + 50 + 10 * k) s.1 ∧ Bd w s.2 ∧ s.2.length = k) (d5, []) rfl ?_ ?_ ?_
  · exact ⟨Box.up b5 (by omega), Bd.nil, rfl⟩
  · rintro k ⟨d, xs⟩ hk ⟨hB, hb, hl⟩
    walk_at "wf"
    walk_at "j"
    walk_at "if"
    · walk_at "wf"
      exact ⟨(_, _), rfl, Box.up (by assumption) (by omega), hb.snoc mod_bd, by simp [hl]⟩
    walk_at "w"
    walk_at "if"
    · walk_at "wf"
      exact ⟨(_, _), rfl, Box.up (by assumption) (by omega), hb.snoc mod_bd, by simp [hl]⟩
    walk_at "w"
    walk_at "if"
    · walk_at "wf"
      exact ⟨(_, _), rfl, Box.up (by assumption) (by omega), hb.snoc mod_bd, by simp [hl]⟩
    walk_at "w"
    walk_at "if"
    · walk_at "wf"
      exact ⟨(_, _), rfl, Box.up (by assumption) (by omega), hb.snoc mod_bd, by simp [hl]⟩
    walk_at "w"
    walk_at "if"
    · walk_at "w"
      exact ⟨(_, _), rfl, Box.up (by assumption) (by omega), hb.snoc (by assumption), by simp [hl]⟩
    · walk_at "w"
      exact ⟨(_, _), rfl, Box.up (by assumption) (by omega), hb.snoc mod_bd, by simp [hl]⟩
  · rintro ⟨d, xs⟩ ⟨hB, hb, hl⟩
    walk_at "w"
    exact q _ xs (Box.up hB (by omega)) hb hl
local macro_rules | `(tactic| walk_at "f") => `(tactic| ((with_reducible refine s_row (by assumption) ?_ ?_ ?_ ?_ (fun _ _ _ _ _ => ?_)); omega; omega; omega; omega))

end U.P

namespace U.P
open PySem L2 U U.Mir
local macro_rules | `(tactic| walk_at "side") => `(tactic| first | exact rfl | exact Nat.le_of_ble_eq_true rfl | omega | assumption | (simp only [List.length_map, List.length_append, List.length_cons, List.length_nil, List.length_range, List.length_set, List.length_zipIdx, List.length_reverse, List.length_take, List.length_drop, List.length_replicate] at *; omega))
local macro_rules | `(tactic| walk_at "w1") => `(tactic| first | (refine St.pf ?_) | ((refine wp ?_ ?_); (walk_at "side")) | (refine wif_dt (by omega) ?_) | (refine wif_df (by omega) ?_) | (refine wif_ndt (by omega) ?_) | (refine wif_ndf (by omega) ?_) | (refine fun _ => ?_))
local macro_rules | `(tactic| walk_at "w") => `(tactic| repeat (walk_at "w1"))
local macro_rules | `(tactic| walk_at "fn") => `(tactic| (refine w_fn' rfl ?_; walk_at "w"))
local macro_rules | `(tactic| walk_at "if") => `(tactic| first | (refine wif_d (fun _ => ?_) (fun _ => ?_)) | (refine wif_nd (fun _ => ?_) (fun _ => ?_)))
local macro_rules | `(tactic| walk_at "u") => `(tactic| first | (simp only [List.range, List.range.loop, List.map_cons, List.map_nil]; (first | (refine w_fl_cons ?_) | (refine w_cl_cons ?_))) | (refine w_fl_cons ?_) | (refine w_cl_cons ?_))
local macro_rules | `(tactic| walk_at "f") => `(tactic| fail "no spec")
local macro_rules | `(tactic| walk_at "wf") => `(tactic| (walk_at "w"; repeat (walk_at "f"; walk_at "w")))
local macro_rules | `(tactic| walk_at "j") => `(tactic| (refine w_ifJ ?_; walk_at "w"))
local macro_rules | `(tactic| walk_at "f") => `(tactic| ((with_reducible refine s_holds ?_ ?_ ?_); omega; omega))
local macro_rules | `(tactic| walk_at "f") => `(tactic| (with_reducible refine s_halves ?_))
local macro_rules | `(tactic| walk_at "f") => `(tactic| ((with_reducible refine s_branch_of ?_ ?_); omega))
local macro_rules | `(tactic| walk_at "f") => `(tactic| ((with_reducible refine s_turned ?_ ?_); omega))
local macro_rules | `(tactic| walk_at "f") => `(tactic| ((with_reducible refine s_heads_of ?_ ?_ ?_ ?_); omega; omega; (walk_at "side")))
local macro_rules | `(tactic| walk_at "f") => `(tactic| ((with_reducible refine s_heads_ofT ?_ ?_ ?_ ?_); omega; omega; (walk_at "side")))
local macro_rules | `(tactic| walk_at "f") => `(tactic| ((with_reducible refine s_count_in ?_ ?_ ?_ ?_); omega; omega; (walk_at "side")))
local macro_rules | `(tactic| walk_at "f") => `(tactic| ((with_reducible refine s_count_inT ?_ ?_ ?_ ?_); omega; omega; (walk_at "side")))
local macro_rules | `(tactic| walk_at "f") => `(tactic| ((with_reducible refine s_splits_of (by assumption) ?_ ?_ ?_); omega; (walk_at "side")))
local macro_rules | `(tactic| walk_at "f") => `(tactic| ((with_reducible refine s_splits_ofT (by assumption) ?_ ?_ ?_); omega; (walk_at "side")))
local macro_rules | `(tactic| walk_at "f") => `(tactic| (with_reducible refine s_unlike ?_))
local macro_rules | `(tactic| walk_at "f") => `(tactic| ((with_reducible refine s_alike_ahead (by assumption) (by assumption) ?_)))
local macro_rules | `(tactic| walk_at "f") => `(tactic| ((with_reducible refine s_box ?_ ?_ (fun _ _ => ?_)); omega; omega))
local macro_rules | `(tactic| walk_at "f") => `(tactic| ((with_reducible refine t_take (by assumption) ?_ ?_ ?_ (fun _ _ _ _ => ?_)); omega; omega; omega))
local macro_rules | `(tactic| walk_at "f") => `(tactic| ((with_reducible refine s_folded ?_ ?_ (fun _ _ => ?_)); omega; omega))
local macro_rules | `(tactic| walk_at "f") => `(tactic| ((with_reducible refine s_wide (by assumption) ?_ (fun _ _ _ _ _ => ?_)); omega))
local macro_rules | `(tactic| walk_at "f") => `(tactic| ((with_reducible refine s_number (by assumption) ?_ ?_ (fun _ _ _ _ => ?_)); omega; omega))
local macro_rules | `(tactic| walk_at "f") => `(tactic| ((with_reducible refine s_any (by assumption) ?_ ?_ ?_ (fun _ _ _ _ => ?_)); omega; omega; omega))
local macro_rules | `(tactic| walk_at "f") => `(tactic| ((with_reducible refine s_many (by assumption) ?_ ?_ ?_ ?_ (fun _ _ _ _ => ?_)); omega; omega; omega; omega))
local macro_rules | `(tactic| walk_at "f") => `(tactic| ((with_reducible refine s_row (by assumption) ?_ ?_ ?_ ?_ (fun _ _ _ _ _ => ?_)); omega; omega; omega; omega))
theorem blN_same {x y w : Nat} (hx : x < 2 ^ w) (hy : y < 2 ^ w) : y / 2 ^ (w - (w - blN (x ^^^ y))) = x / 2 ^ (w - (w - blN (x ^^^ y))) := by
  have hl := blN_le (Nat.xor_lt_two_pow hx hy)
  have e9 : w - (w - blN (x ^^^ y)) = blN (x ^^^ y) := by omega
  rw [e9]
  have e : (x ^^^ y) / 2 ^ blN (x ^^^ y) = 0 := by
    unfold blN
    split
    · rename_i h; rw [h]
    · exact Nat.div_eq_of_lt (Nat.lt_log2_self)
  rw [shr_xor'] at e
  exact (xor_z e).symm
theorem blN_pos {x y : Nat} (h : x ≠ y) : blN (x ^^^ y) = (x ^^^ y).log2 + 1 := by
  unfold blN
  rw [if_neg fun z => h (xor_z z)]
theorem sp_two {xs : List Nat} {w x y : Nat} (hb : Bd w xs) (hx : x ∈ xs) (hy : y ∈ xs) (h : x ≠ y) : SpB xs w (w - blN (x ^^^ y), x / 2 ^ (w - (w - blN (x ^^^ y)))) ∧ y / 2 ^ (blN (x ^^^ y) - 1) ≠ x / 2 ^ (blN (x ^^^ y) - 1) ∧ blN (x ^^^ y) ≤ w ∧ 0 < blN (x ^^^ y) ∧ 2 ^ (blN (x ^^^ y) - 1) ≤ x ^^^ y ∧ x ^^^ y < 2 ^ blN (x ^^^ y) := by
  have hl := blN_le (Nat.xor_lt_two_pow (hb x hx) (hb y hy))
  have e := blN_pos h
  have h0 : x ^^^ y ≠ 0 := fun z => h (xor_z z)
  rw [e] at hl ⊢
  rw [show w - (w - ((x ^^^ y).log2 + 1)) = (x ^^^ y).log2 + 1 by omega, show (x ^^^ y).log2 + 1 - 1 = (x ^^^ y).log2 by omega]
  refine ⟨?_, ?_, hl, by omega, Nat.log2_self_le h0, Nat.lt_log2_self⟩
  · rcases Nat.lt_or_gt_of_ne h with g | g
    · obtain ⟨m, k, e1, e2, e3, e4⟩ := part_atB g
      rw [e1] at hl ⊢
      rw [e4]
      refine ⟨by show w - (m + 1) < w; omega, ⟨x, hx, ?_⟩, ⟨y, hy, ?_⟩⟩
      · show x / 2 ^ (w - (w - (m + 1)) - 1) = 2 * k
        rw [show w - (w - (m + 1)) - 1 = m by omega]; exact e2
      · show y / 2 ^ (w - (w - (m + 1)) - 1) = 2 * k + 1
        rw [show w - (w - (m + 1)) - 1 = m by omega]; exact e3
    · obtain ⟨m, k, e1, e2, e3, e4⟩ := part_atB g
      rw [Nat.xor_comm] at e1
      rw [e1] at hl ⊢
      have e5 : x / 2 ^ (m + 1) = k := by rw [pow_half, e3]; omega
      rw [e5]
      refine ⟨by show w - (m + 1) < w; omega, ⟨y, hy, ?_⟩, ⟨x, hx, ?_⟩⟩
      · show y / 2 ^ (w - (w - (m + 1)) - 1) = 2 * k
        rw [show w - (w - (m + 1)) - 1 = m by omega]; exact e2
      · show x / 2 ^ (w - (w - (m + 1)) - 1) = 2 * k + 1
        rw [show w - (w - (m + 1)) - 1 = m by omega]; exact e3
  · intro z
    rcases Nat.lt_or_gt_of_ne h with g | g
    · obtain ⟨m, k, e1, e2, e3, e4⟩ := part_atB g
      rw [e1] at z; omega
    · obtain ⟨m, k, e1, e2, e3, e4⟩ := part_atB g
      rw [Nat.xor_comm, e1] at z; omega
theorem s_two {xs : List Nat} {i j k : Int} {w x y : Nat} [a : NatI i w] [b : NatI j x] [c : NatI k y] {Q : D → List D → Prop} (hb : Bd w xs) (hw : w ≤ 60) (hx : x ∈ xs) (hy : y ∈ xs) (q : Q (.bl true) [.int i, .int j, .int k, lD (pD nD nD) (splN xs w)]) : WF F__law_two_right [.int i, .int j, .int k, lD (pD nD nD) (splN xs w)] Q := by
  obtain rfl := a.eq
  obtain rfl := b.eq
  obtain rfl := c.eq
  have hx' := hb x hx
  have hy' := hb y hy
  have hl := blN_le (Nat.xor_lt_two_pow hx' hy')
  unfold F__law_two_right m__law_two_right
  walk_at "fn"
  walk_at "wf"
  rw [decide_eq_true (blN_same hx' hy')]
  walk_at "w"
  by_cases h : x = y
  · subst h
    have e0 : blN (x ^^^ x) = 0 := by rw [Nat.xor_self]; rfl
    rw [e0] at *
    walk_at "wf"
    rw [decide_eq_true (show w = w from rfl)]
    exact q
  · obtain ⟨s1, s2, s3, s4, s5, s6⟩ := sp_two hb hx hy h
    have s7 := (splN_mem hb).mpr s1
    have e1 : (w : Int) - ((w - blN (x ^^^ y) : Nat) : Int) = ((blN (x ^^^ y) : Nat) : Int) := by omega
    have e2 : ((blN (x ^^^ y) : Nat) : Int) - ((1 : Nat) : Int) = ((blN (x ^^^ y) - 1 : Nat) : Int) := by omega
    walk_at "wf"
    refine wif_df (fun z => s2 ?_) ?_
    · rwa [show w - (w - blN (x ^^^ y) + 1) = blN (x ^^^ y) - 1 by omega] at z
    walk_at "wf"
    rw [e1, e2]
    walk_at "wf"
    refine wif_dt s5 ?_
    walk_at "wf"
    rw [e1]
    walk_at "wf"
    rw [decide_eq_true (show x ^^^ y < 2 ^ ((blN (x ^^^ y) : Nat) : Int).toNat from s6)]
    exact q
abbrev hdsN (xs : List Nat) (w n : Nat) : List Nat := headsN xs w n
theorem heads_le {xs : List Nat} {w n : Nat} (hn : n < w) : (headsN xs w n).length ≤ (headsN xs w (n + 1)).length ∧ (headsN xs w (n + 1)).length ≤ 2 * (headsN xs w n).length := by
  have em : w - n = (w - (n + 1)) + 1 := by omega
  constructor
  · have := (setN_nodup (xs.map fun x => x / 2 ^ (w - n))).length_le_of_subset (l₂ := (headsN xs w (n + 1)).map fun h => h / 2) fun h hh => by
      obtain ⟨x, hx, rfl⟩ := List.mem_map.mp (setN_mem.mp hh)
      exact List.mem_map.mpr ⟨x / 2 ^ (w - (n + 1)), setN_mem.mpr (List.mem_map.mpr ⟨x, hx, rfl⟩), by rw [em, pow_half]⟩
    rwa [List.length_map] at this
  · have := (setN_nodup (xs.map fun x => x / 2 ^ (w - (n + 1)))).length_le_of_subset (l₂ := (headsN xs w n).map (fun h => 2 * h) ++ (headsN xs w n).map fun h => 2 * h + 1) fun h hh => by
      obtain ⟨x, hx, rfl⟩ := List.mem_map.mp (setN_mem.mp hh)
      have m : x / 2 ^ (w - n) ∈ headsN xs w n := setN_mem.mpr (List.mem_map.mpr ⟨x, hx, rfl⟩)
      have e : x / 2 ^ (w - n) = x / 2 ^ (w - (n + 1)) / 2 := by rw [em, pow_half]
      rw [e] at m
      rcases Nat.mod_two_eq_zero_or_one (x / 2 ^ (w - (n + 1))) with z | z
      · exact List.mem_append_left _ (List.mem_map.mpr ⟨_, m, by omega⟩)
      · exact List.mem_append_right _ (List.mem_map.mpr ⟨_, m, by omega⟩)
    rw [List.length_append, List.length_map, List.length_map] at this
    show (setN (xs.map fun x => x / 2 ^ (w - (n + 1)))).length ≤ _
    omega
theorem halves_sum (xs : List Nat) {w n h : Nat} (hn : n < w) : (heldN xs w (n + 1) (2 * h)).length + (heldN xs w (n + 1) (2 * h + 1)).length = (heldN xs w n h).length := by
  have em : w - n = (w - (n + 1)) + 1 := by omega
  induction xs with
  | nil => rfl
  | cons x xs ih =>
    simp only [heldN, List.filter_cons] at ih ⊢
    rw [em, pow_half]
    rw [em] at ih
    generalize x / 2 ^ (w - (n + 1)) = y
    by_cases h1 : y = 2 * h
    · rw [if_pos (by simpa using h1), if_neg (by simp; omega), if_pos (by simp; omega)]
      simp only [List.length_cons]; omega
    · by_cases h2 : y = 2 * h + 1
      · rw [if_neg (by simpa using h1), if_pos (by simpa using h2), if_pos (by simp; omega)]
        simp only [List.length_cons]; omega
      · rw [if_neg (by simpa using h1), if_neg (by simpa using h2), if_neg (by simp; omega)]
        exact ih
theorem s_way {xs : List Nat} {i j : Int} {w x : Nat} [a : NatI i w] [b : NatI j x] {Q : D → List D → Prop} (hb : Bd w xs) (hw : w ≤ 60) (hl : xs.length ≤ 1000) (q : Q (.bl true) [lD nD xs, .int i, .int j]) : WF F__law_way_right [lD nD xs, .int i, .int j] Q := by
  obtain rfl := a.eq
  obtain rfl := b.eq
  unfold F__law_way_right m__law_way_right
  walk_at "fn"
  refine flr w (fun ρ (_ : Unit) => ρ) (fun _ _ => True) () rfl trivial ?_ ?_
  · rintro n _ hn -
    walk_at "wf"
    have e0 : x / 2 ^ (w - n) = x / 2 ^ (w - (n + 1)) / 2 := by rw [show w - n = (w - (n + 1)) + 1 by omega, pow_half]
    have hs := halves_sum xs (h := x / 2 ^ (w - n)) hn
    obtain ⟨h1, h2⟩ := heads_le (xs := xs) hn
    have l0 : (heldN xs w n (x / 2 ^ (w - n))).length ≤ xs.length := List.length_filter_le _ _
    have l1 : ∀ m, (headsN xs w m).length ≤ xs.length := fun m => by
      have := setN_len (xs.map fun x => x / 2 ^ (w - m))
      rwa [List.length_map] at this
    refine wif_f (by simp; omega) ?_
    walk_at "wf"
    walk_at "u"
    walk_at "wf"
    walk_at "u"
    walk_at "wf"
    refine wif_ndf (by simp only [List.sum_cons, List.sum_nil]; omega) ?_
    have l2 := l1 n
    have l3 := l1 (n + 1)
    walk_at "wf"
    exact ⟨(), rfl, trivial⟩
  · rintro _ -
    walk_at "w"
    exact q
abbrev trnB (w a : Nat) (p : Nat × Nat) : Nat × Nat := (p.1, p.2 ^^^ (a / 2 ^ (w - p.1)))
theorem sp_turn {xs : List Nat} {w a : Nat} {p : Nat × Nat} (h : SpB xs w p) : SpB (xs.map fun x => x ^^^ a) w (trnB w a p) := by
  obtain ⟨hn, ⟨x, hx, ex⟩, ⟨y, hy, ey⟩⟩ := h
  obtain ⟨n, g⟩ := p
  dsimp only at hn ex ey ⊢
  have em : w - n = (w - n - 1) + 1 := by omega
  have key : ∀ r, r < 2 → ((2 * g + r) ^^^ (a / 2 ^ (w - n - 1))) / 2 = g ^^^ (a / 2 ^ (w - n)) := fun r hr => by
    have := shr_xor' (2 * g + r) (a / 2 ^ (w - n - 1)) 1
    simp only [Nat.pow_one] at this
    rw [this, em, pow_half]
    congr 1
    omega
  have k0 := key 0 (by omega)
  have k1 := key 1 (by omega)
  have m0 := xor_m2 (2 * g + 0) (a / 2 ^ (w - n - 1))
  have m1 := xor_m2 (2 * g + 1) (a / 2 ^ (w - n - 1))
  have ex' : (x ^^^ a) / 2 ^ (w - n - 1) = (2 * g + 0) ^^^ (a / 2 ^ (w - n - 1)) := by rw [shr_xor', ex]; rfl
  have ey' : (y ^^^ a) / 2 ^ (w - n - 1) = (2 * g + 1) ^^^ (a / 2 ^ (w - n - 1)) := by rw [shr_xor', ey]
  have mx : x ^^^ a ∈ xs.map fun x => x ^^^ a := List.mem_map.mpr ⟨x, hx, rfl⟩
  have my : y ^^^ a ∈ xs.map fun x => x ^^^ a := List.mem_map.mpr ⟨y, hy, rfl⟩
  rcases Nat.mod_two_eq_zero_or_one (a / 2 ^ (w - n - 1)) with z | z
  · exact ⟨hn, ⟨_, mx, by show _ = 2 * (g ^^^ (a / 2 ^ (w - n))); rw [ex']; omega⟩, ⟨_, my, by show _ = 2 * (g ^^^ (a / 2 ^ (w - n))) + 1; rw [ey']; omega⟩⟩
  · exact ⟨hn, ⟨_, my, by show _ = 2 * (g ^^^ (a / 2 ^ (w - n))); rw [ey']; omega⟩, ⟨_, mx, by show _ = 2 * (g ^^^ (a / 2 ^ (w - n))) + 1; rw [ex']; omega⟩⟩
theorem trn_trn (w a : Nat) (p : Nat × Nat) : trnB w a (trnB w a p) = p := by
  show (p.1, (p.2 ^^^ (a / 2 ^ (w - p.1))) ^^^ (a / 2 ^ (w - p.1))) = p
  rw [Nat.xor_assoc, Nat.xor_self, Nat.xor_zero]
theorem map_xx (xs : List Nat) (a : Nat) : (xs.map fun x => x ^^^ a).map (fun x => x ^^^ a) = xs := by
  rw [List.map_map]
  refine (List.map_congr_left fun x _ => ?_).trans (List.map_id xs)
  show (x ^^^ a) ^^^ a = x
  rw [Nat.xor_assoc, Nat.xor_self, Nat.xor_zero]
theorem bd_xor {xs : List Nat} {w a : Nat} (hb : Bd w xs) (ha : a < 2 ^ w) : Bd w (xs.map fun x => x ^^^ a) := fun y hy => by
  obtain ⟨x, hx, rfl⟩ := List.mem_map.mp hy
  exact Nat.xor_lt_two_pow (hb x hx) ha
theorem splN_turn {xs : List Nat} {w a : Nat} (hb : Bd w xs) (ha : a < 2 ^ w) : sortK false kB ((splN xs w).map (trnB w a)) = splN (xs.map fun x => x ^^^ a) w := by
  refine splN_of (bd_xor hb ha) ?_ fun p => ?_
  · exact List.pairwise_map.mpr ((splN_nodup hb).imp fun {p q} hne e => hne (by rw [← trn_trn w a p, e, trn_trn]))
  · rw [List.mem_map]
    constructor
    · rintro ⟨q, hq, rfl⟩
      exact sp_turn ((splN_mem hb).mp hq)
    · intro h
      have := sp_turn (a := a) h
      rw [map_xx] at this
      exact ⟨_, (splN_mem hb).mpr this, trn_trn w a p⟩
theorem s_law {ns : List Int} : WF F_law [.fz (ns.map D.int)] fun r _ => r = .bl true := by
  unfold F_law m_law
  walk_at "fn"
  walk_at "wf"
  rename_i cs hcs
  refine flr _ (fun ρ (_ : Unit) => ρ) (fun _ _ => True) () rfl trivial ?_ ?_
  · rintro k _ hk -
    have hk' : k < 8 := by omega
    walk_at "wf"
    rename_i d0 hB0 d1 w hB1 hw hw2 d2 m hB2 hm d3 xs hB3 hb hl
    have hsl := setN_len xs
    have hsn : (splN xs w).length ≤ 100 := by rw [splN_len]; omega
    refine flr 6 (fun ρ (d : D) => ρ.set 3 (some (.o, d))) (fun t d => Box (1000 + 2 * t) d) d3 rfl (hB3.up (by omega)) ?_ ?_
    · rintro t d ht hB
      walk_at "wf"
      rename_i d4 y hB4 hy u hu d5 z hB5 hz v hv
      refine s_two hb (by omega) (List.mem_of_getElem? hu) (List.mem_of_getElem? hv) ?_
      walk_at "wf"
      refine s_way hb (by omega) (by omega) ?_
      walk_at "wf"
      exact ⟨d5, rfl, hB5.up (by omega)⟩
    · rintro d hB
      walk_at "wf"
      rename_i d6 a hB6 ha
      have hbx := bd_xor hb ha
      have hlx : (xs.map fun x => x ^^^ a).length ≤ 100 := by rw [List.length_map]; omega
      refine cmapN nD (fun x => x ^^^ a) xs (by omega) (fun x _ => ?_) ?_
      · walk_at "wf"
        rfl
      walk_at "wf"
      refine cmapN (pD nD nD) (trnB w a) _ (by omega) (fun p hp => ?_) ?_
      · have hn := ((splN_mem hb).mp hp).1
        walk_at "wf"
        rfl
      walk_at "wf"
      rw [splN_turn hb ha]
      walk_at "wf"
      refine cmapN nD (fun x => x ^^^ a) _ (by omega) (fun x _ => ?_) ?_
      · walk_at "wf"
        rfl
      rw [map_xx]
      walk_at "wf"
      exact ⟨(), rfl, trivial⟩
  · rintro _ -
    walk_at "wf"
    rfl
theorem main_law : ∀ ns : List Int, ns.length ≤ 63 → ∃ ds', F_law [.fz (ns.map D.int)] = some (.bl true, ds') := by
  intro ns _
  obtain ⟨r, ds', e, rfl⟩ := @s_law ns
  exact ⟨ds', e⟩
end U.P

theorem PySem.Challenge.cw_unlikebits_k07_whole_branches_walked_holds : PySem.Challenge.rw_unlikebits_k07_whole_branches_walked.Holds := by
  exact U.law_holds U.P.main_law
