import PyProof.Rows.All
import Wide.All
import OpenK.AllK
import Wide.FinOn
import HandS.ForMost
import HandS.SortRule
import HandS.SortInts
import HandS.Style
import HandS.Wide
import HandS.WideMore
import HandS.Deep
import HandS.Flow
import HandS.TupAny
import HandS.TupMul
import HandS.IsInst
import HandS.Conv
import HandS.HeadEnd
import HandS.HeadHook2
import HandS.TupSets
import HandS.Strs
import HandS.Head0
import HandS.Head1
import HandS.Head2
import HandS.HeadHook1
import PySem.Challenge.RW_leadstrue_k62_cards_and_needles
set_option Elab.async false
set_option linter.all false
set_option maxRecDepth 100000
/-! the layer of plain data over HandS -/
namespace VL
open PySem PySem.Spec L2

abbrev LN : Nat := 16777216
theorem LN_eq : sizeLine = LN := sizeLine_eq
/-- a text by its code points -/
abbrev Tx := List Nat
abbrev mkS (l : Tx) : Str := ⟨l.toArray⟩

/-- a text that Python can hold here -/
def okT (l : Tx) : Prop := l.length ≤ LN ∧ ∀ c ∈ l, c < 1114112
instance (l : Tx) : Decidable (okT l) := by unfold okT; exact inferInstance
/-- data -/
inductive D where
  | non
  | bl (b : Bool)
  | int (i : Int)
  | str (l : Tx)
  | tup (xs : List D)
  | lst (xs : List D)
  | scr (xs : List D)
  | dk (ks : List Key) (xs : List D)
  | dt (ks : List (List Key)) (xs : List D)

section
variable (K : PySem.W.Frag) (F : Hp)
mutual
/-- v is the data d, all of it standing still in F -/
def Rep : D → V → Prop
  | .non, v => v = .non
  | .bl b, v => v = .bl b
  | .int i, v => v = .int i
  | .str l, v => v = .str (mkS l) ∧ okT l
  | .tup ds, v => ∃ a xs, v = .ref a ∧ SqT K F a xs ∧ RepL ds xs
  | .lst ds, v => ∃ a xs, v = .ref a ∧ F a = some (.lst xs) ∧ RepL ds xs
  | .scr ds, v => ∃ a xs, v = .ref a ∧ SqL K F a xs ∧ RepL ds xs
  | .dk ks ds, v => ∃ a kxs o, v = .ref a ∧ F a = some (.frz o (.dK kxs)) ∧ kxs.map (·.1) = ks ∧ RepL ds (kxs.map (·.2))
  | .dt ks ds, v => ∃ a kxs o, v = .ref a ∧ F a = some (.frz o (.dT kxs)) ∧ kxs.map (·.1) = ks ∧ RepL ds (kxs.map (·.2))
def RepL : List D → List V → Prop
  | [], xs => xs = []
  | d :: ds, xs => ∃ x r, xs = x :: r ∧ Rep d x ∧ RepL ds r
end
end

/-- F grows to F' -/
def Le (F F' : Hp) : Prop := ∀ a o, F a = some o → F' a = some o
theorem Le.refl (F : Hp) : Le F F := fun _ _ h => h
theorem Le.trans {A B C : Hp} (h : Le A B) (k : Le B C) : Le A C := fun a o e => k a o (h a o e)
theorem Le.nn {F F' : Hp} (h : Le F F') {a : Addr} (e : F' a = none) : F a = none := by
  cases q : F a with
  | none => rfl
  | some o => rw [h a o q] at e; cases e

section
variable {K : PySem.W.Frag} {F F' H : Hp}
theorem Le.sqT (h : Le F F') {a : Addr} {xs : List V} (q : SqT K F a xs) : SqT K F' a xs := by
  rcases q with (q | ⟨o, q⟩) | q
  · exact .inl (.inl (h _ _ q))
  · exact .inl (.inr ⟨o, h _ _ q⟩)
  · exact .inr q
theorem Le.sqL (h : Le F F') {a : Addr} {xs : List V} (q : SqL K F a xs) : SqL K F' a xs := by
  rcases q with (q | ⟨o, q⟩) | q
  · exact .inl (.inl (h _ _ q))
  · exact .inl (.inr ⟨o, h _ _ q⟩)
  · exact .inr q
mutual
theorem Rep.mono (h : Le F F') : ∀ (d : D) {v : V}, Rep K F d v → Rep K F' d v
  | .non, _, r => r
  | .bl _, _, r => r
  | .int _, _, r => r
  | .str _, _, r => r
  | .tup ds, _, r => by
    obtain ⟨a, xs, e, s, r⟩ := r
    exact ⟨a, xs, e, h.sqT s, RepL.mono h ds r⟩
  | .lst ds, _, r => by
    obtain ⟨a, xs, e, s, r⟩ := r
    exact ⟨a, xs, e, h _ _ s, RepL.mono h ds r⟩
  | .scr ds, _, r => by
    obtain ⟨a, xs, e, s, r⟩ := r
    exact ⟨a, xs, e, h.sqL s, RepL.mono h ds r⟩
  | .dk ks ds, _, r => by
    obtain ⟨a, xs, o, e, s, k, r⟩ := r
    exact ⟨a, xs, o, e, h _ _ s, k, RepL.mono h ds r⟩
  | .dt ks ds, _, r => by
    obtain ⟨a, xs, o, e, s, k, r⟩ := r
    exact ⟨a, xs, o, e, h _ _ s, k, RepL.mono h ds r⟩
theorem RepL.mono (h : Le F F') : ∀ (ds : List D) {xs : List V}, RepL K F ds xs → RepL K F' ds xs
  | [], _, r => r
  | d :: ds, _, r => by
    obtain ⟨x, rr, e, r1, r2⟩ := r
    exact ⟨x, rr, e, Rep.mono h d r1, RepL.mono h ds r2⟩
end
theorem RepL.length : ∀ {ds : List D} {xs : List V}, RepL K F ds xs → xs.length = ds.length
  | [], _, r => by cases r; rfl
  | d :: ds, _, r => by
    obtain ⟨x, rr, e, r1, r2⟩ := r
    rw [e, List.length_cons, List.length_cons, r2.length]
theorem RepL.append : ∀ {ds es : List D} {xs ys : List V}, RepL K F ds xs → RepL K F es ys → RepL K F (ds ++ es) (xs ++ ys)
  | [], _, _, _, r, q => by cases r; exact q
  | d :: ds, _, _, _, r, q => by
    obtain ⟨x, rr, e, r1, r2⟩ := r
    rw [e]
    exact ⟨x, _, rfl, r1, r2.append q⟩
theorem RepL.get : ∀ {ds : List D} {xs : List V} {i : Nat} {d : D}, RepL K F ds xs → ds[i]? = some d → ∃ x, xs[i]? = some x ∧ Rep K F d x
  | [], _, _, _, _, e => by simp at e
  | d :: ds, _, 0, _, r, e => by
    obtain ⟨x, rr, e1, r1, r2⟩ := r
    simp at e
    subst e
    exact ⟨x, by rw [e1]; rfl, r1⟩
  | d :: ds, _, i + 1, _, r, e => by
    obtain ⟨x, rr, e1, r1, r2⟩ := r
    obtain ⟨y, h1, h2⟩ := r2.get (i := i) (by simpa using e)
    exact ⟨y, by rw [e1]; simpa using h1, h2⟩
theorem RepL.geti : ∀ {ds : List D} {xs : List V} {i : Nat} {x : V}, RepL K F ds xs → xs[i]? = some x → ∃ d, ds[i]? = some d ∧ Rep K F d x
  | [], _, _, _, r, e => by cases r; simp at e
  | d :: ds, _, 0, _, r, e => by
    obtain ⟨x, rr, e1, r1, r2⟩ := r
    subst e1
    simp at e
    subst e
    exact ⟨d, rfl, r1⟩
  | d :: ds, _, i + 1, _, r, e => by
    obtain ⟨x, rr, e1, r1, r2⟩ := r
    subst e1
    obtain ⟨y, h1, h2⟩ := r2.geti (i := i) (by simpa using e)
    exact ⟨y, by simpa using h1, h2⟩
theorem RepL.set {d : D} {x : V} (h : Rep K F d x) : ∀ {ds : List D} {xs : List V} (i : Nat), RepL K F ds xs → RepL K F (ds.set i d) (xs.set i x)
  | [], _, _, r => by cases r; rfl
  | e :: ds, _, 0, r => by
    obtain ⟨y, rr, e1, r1, r2⟩ := r
    rw [e1]
    exact ⟨x, rr, rfl, h, r2⟩
  | e :: ds, _, i + 1, r => by
    obtain ⟨y, rr, e1, r1, r2⟩ := r
    rw [e1]
    exact ⟨y, _, rfl, r1, RepL.set h i r2⟩
theorem RepL.take : ∀ {ds : List D} {xs : List V} (i : Nat), RepL K F ds xs → RepL K F (ds.take i) (xs.take i)
  | [], _, i, r => by cases r; simp; rfl
  | e :: ds, _, 0, r => by simp; rfl
  | e :: ds, _, i + 1, r => by
    obtain ⟨y, rr, e1, r1, r2⟩ := r
    rw [e1]
    exact ⟨y, _, rfl, r1, RepL.take i r2⟩
theorem RepL.drop : ∀ {ds : List D} {xs : List V} (i : Nat), RepL K F ds xs → RepL K F (ds.drop i) (xs.drop i)
  | [], _, i, r => by cases r; simp; rfl
  | e :: ds, _, 0, r => r
  | e :: ds, _, i + 1, r => by
    obtain ⟨y, rr, e1, r1, r2⟩ := r
    rw [e1]
    exact RepL.drop i r2
theorem RepL.reverse : ∀ {ds : List D} {xs : List V}, RepL K F ds xs → RepL K F ds.reverse xs.reverse
  | [], _, r => by cases r; rfl
  | e :: ds, _, r => by
    obtain ⟨y, rr, e1, r1, r2⟩ := r
    rw [e1, List.reverse_cons, List.reverse_cons]
    exact r2.reverse.append ⟨y, [], rfl, r1, rfl⟩
theorem RepL.nil : RepL K F [] [] := rfl
theorem RepL.cons {d : D} {ds : List D} {x : V} {xs : List V} (h : Rep K F d x) (t : RepL K F ds xs) : RepL K F (d :: ds) (x :: xs) := ⟨x, xs, rfl, h, t⟩
theorem RepL.nil_iff {ds : List D} {xs : List V} (r : RepL K F ds xs) : xs = [] ↔ ds = [] := by
  have := r.length
  constructor
  · intro e; subst e; cases ds with
    | nil => rfl
    | cons _ _ => simp at this
  · intro e; subst e; exact r
end

/-! ### slots, states -/
inductive Sl where
  | un
  | val (d : D)
  | own (d : D)
  | io (d : D)
  | lk (d : D)
abbrev Ev := List Sl
@[simp] def Sl.mt : Sl → Bool
  | .own _ => true | .io _ => true | _ => false
@[simp] def Sl.held : Sl → Bool
  | .own _ => true | .io _ => true | .lk _ => true | _ => false
theorem Sl.mt_held {s : Sl} (h : s.mt = true) : s.held = true := by cases s <;> first | rfl | cases h

/-- the object at a is the list or dict d, its items standing still in F -/
def ObjD (K : PySem.W.Frag) (F H : Hp) : D → Addr → Prop
  | .lst ds, a => ∃ xs, H a = some (.lst xs) ∧ RepL K F ds xs
  | .dk ks ds, a => ∃ kxs, H a = some (.dK kxs) ∧ kxs.map (·.1) = ks ∧ RepL K F ds (kxs.map (·.2))
  | .dt ks ds, a => ∃ kxs, H a = some (.dT kxs) ∧ kxs.map (·.1) = ks ∧ RepL K F ds (kxs.map (·.2))
  | _, _ => False
def Live (K : PySem.W.Frag) (F H : Hp) (d : D) (a : Addr) : Prop := F a = none ∧ ObjD K F H d a
theorem ObjD.at {K : PySem.W.Frag} {F H : Hp} {d : D} {a : Addr} (h : ObjD K F H d a) : ∃ o, H a = some o := by
  cases d with
  | lst ds => obtain ⟨xs, e, _⟩ := h; exact ⟨_, e⟩
  | dk ks ds => obtain ⟨xs, e, _⟩ := h; exact ⟨_, e⟩
  | dt ks ds => obtain ⟨xs, e, _⟩ := h; exact ⟨_, e⟩
  | _ => exact h.elim
theorem ObjD.mono {K : PySem.W.Frag} {F F' H H' : Hp} {d : D} {a : Addr} (h : ObjD K F H d a) (l : Le F F') (e : H' a = H a) : ObjD K F' H' d a := by
  cases d with
  | lst ds => obtain ⟨xs, q, r⟩ := h; exact ⟨xs, e.trans q, RepL.mono l _ r⟩
  | dk ks ds => obtain ⟨xs, q, k, r⟩ := h; exact ⟨xs, e.trans q, k, RepL.mono l _ r⟩
  | dt ks ds => obtain ⟨xs, q, k, r⟩ := h; exact ⟨xs, e.trans q, k, RepL.mono l _ r⟩
  | _ => exact h.elim
@[simp] def D.nd : D → Bool
  | .dk _ _ => false
  | .dt _ _ => false
  | _ => true
theorem ObjD.rep {K : PySem.W.Frag} {F H : Hp} {d : D} {a : Addr} {o : HO} (h : ObjD K F H d a) (e : H a = some o) (n : F a = none) (nd : d.nd = true) : Rep K (upd F a o) d (.ref a) := by
  have l : Le F (upd F a o) := fun b u q => by
    rw [upd_ne (fun z => by rw [z, n] at q; cases q)]; exact q
  cases d with
  | lst ds =>
    obtain ⟨xs, q, r⟩ := h
    rw [e] at q; cases q
    exact ⟨a, xs, rfl, upd_same, RepL.mono l _ r⟩
  | dk ks ds => cases nd
  | dt ks ds => cases nd
  | _ => exact h.elim

def SlRep (K : PySem.W.Frag) (B F H : Hp) : Sl → Option (Option V) → Prop
  | .un, _ => True
  | .val d, o => ∃ v, o = some (some v) ∧ Rep K F d v
  | .own d, o => ∃ a, o = some (some (.ref a)) ∧ Live K F H d a ∧ B a = none
  | .io d, o => ∃ a, o = some (some (.ref a)) ∧ Live K F H d a
  | .lk d, o => ∃ a, o = some (some (.ref a)) ∧ Live K F H d a
theorem SlRep.live {K : PySem.W.Frag} {B F H : Hp} {s : Sl} {o : Option (Option V)} (h : SlRep K B F H s o) (hh : s.held = true) : ∃ a d, o = some (some (.ref a)) ∧ Live K F H d a := by
  cases s with
  | own d => obtain ⟨a, e, l, _⟩ := h; exact ⟨a, d, e, l⟩
  | io d => obtain ⟨a, e, l⟩ := h; exact ⟨a, d, e, l⟩
  | lk d => obtain ⟨a, e, l⟩ := h; exact ⟨a, d, e, l⟩
  | _ => cases hh

def Own (env : Ev) (σ : St) (a : Addr) : Prop := ∃ (i : Nat) (s : Sl), env[i]? = some s ∧ s.mt = true ∧ σ[i]? = some (some (.ref a))
def Held (env : Ev) (σ : St) (a : Addr) : Prop := ∃ (i : Nat) (s : Sl), env[i]? = some s ∧ s.held = true ∧ σ[i]? = some (some (.ref a))
theorem Own.held {env : Ev} {σ : St} {a : Addr} (h : Own env σ a) : Held env σ a := by
  obtain ⟨i, s, e, m, q⟩ := h
  exact ⟨i, s, e, Sl.mt_held m, q⟩

structure SR (K : PySem.W.Frag) (B : Hp) (env : Ev) (F : Hp) (σ : St) (H : Hp) : Prop where
  len : env.length = σ.length
  old : ∀ a, H a = none → B a = none
  sub : Le F H
  slot : ∀ (i : Nat) (s : Sl), env[i]? = some s → SlRep K B F H s σ[i]?
  sep : ∀ (i j : Nat) (s t : Sl) (a : Addr), i ≠ j → env[i]? = some s → env[j]? = some t → s.held = true → t.held = true → σ[i]? = some (some (.ref a)) → σ[j]? = some (some (.ref a)) → False
theorem SR.heldAt {K : PySem.W.Frag} {B : Hp} {env : Ev} {F : Hp} {σ : St} {H : Hp} (h : SR K B env F σ H) {a : Addr} (q : Held env σ a) : F a = none ∧ ∃ o, H a = some o := by
  obtain ⟨i, s, e, m, q⟩ := q
  obtain ⟨b, d, e2, l⟩ := (h.slot i s e).live m
  rw [q] at e2
  cases e2
  exact ⟨l.1, l.2.at⟩

/-- from one state to a later one -/
structure Tr (env : Ev) (σ : St) (F H : Hp) (env' : Ev) (σ' : St) (F' H' : Hp) : Prop where
  mono : Le F F'
  keep : ∀ a o, H a = some o → ¬ Own env σ a → H' a = some o ∧ F' a = F a
  dom : ∀ a o, H a = some o → ∃ o', H' a = some o'
  own : ∀ a, Own env' σ' a → Own env σ a ∨ H a = none
  held : ∀ a, Held env' σ' a → Held env σ a ∨ H a = none
  lks : ∀ (i : Nat) (d : D), env[i]? = some (.lk d) → env'[i]? = some (.lk d) ∧ σ'[i]? = σ[i]?
  ios : ∀ (i : Nat) (d : D), env[i]? = some (.io d) → (∃ d' : D, env'[i]? = some (.io d')) ∧ σ'[i]? = σ[i]?
theorem Tr.refl {env : Ev} {σ : St} {F H : Hp} : Tr env σ F H env σ F H :=
  ⟨Le.refl F, fun _ _ h _ => ⟨h, rfl⟩, fun _ o h => ⟨o, h⟩, fun _ h => .inl h, fun _ h => .inl h, fun _ _ h => ⟨h, rfl⟩, fun _ d h => ⟨⟨d, h⟩, rfl⟩⟩
theorem Tr.dom' {env : Ev} {σ : St} {F H : Hp} {env' : Ev} {σ' : St} {F' H' : Hp} (t : Tr env σ F H env' σ' F' H') {a : Addr} (h : H' a = none) : H a = none := by
  cases q : H a with
  | none => rfl
  | some o =>
    obtain ⟨o', e⟩ := t.dom a o q
    rw [h] at e; cases e
theorem Tr.trans {e0 e1 e2 : Ev} {σ0 σ1 σ2 : St} {F0 F1 F2 H0 H1 H2 : Hp} (s : Tr e0 σ0 F0 H0 e1 σ1 F1 H1) (t : Tr e1 σ1 F1 H1 e2 σ2 F2 H2) : Tr e0 σ0 F0 H0 e2 σ2 F2 H2 where
  mono := s.mono.trans t.mono
  keep := fun a o h n => by
    obtain ⟨h1, f1⟩ := s.keep a o h n
    obtain ⟨h2, f2⟩ := t.keep a o h1 fun q => by
      rcases s.own a q with z | z
      · exact n z
      · rw [h] at z; cases z
    exact ⟨h2, f2.trans f1⟩
  dom := fun a o h => by
    obtain ⟨o1, h1⟩ := s.dom a o h
    exact t.dom a o1 h1
  own := fun a h => by
    rcases t.own a h with z | z
    · exact s.own a z
    · exact .inr (s.dom' z)
  held := fun a h => by
    rcases t.held a h with z | z
    · exact s.held a z
    · exact .inr (s.dom' z)
  lks := fun i d h => by
    obtain ⟨a1, b1⟩ := s.lks i d h
    obtain ⟨a2, b2⟩ := t.lks i d a1
    exact ⟨a2, b2.trans b1⟩
  ios := fun i d h => by
    obtain ⟨⟨d1, a1⟩, b1⟩ := s.ios i d h
    obtain ⟨⟨d2, a2⟩, b2⟩ := t.ios i d1 a1
    exact ⟨⟨d2, a2⟩, b2.trans b1⟩

/-! ### what an expression gives -/
inductive Rs where
  | val (d : D)
  | fresh (d : D)
  | slot (i : Nat)
@[simp] def Sl.data : Sl → Option D
  | .un => none
  | .val d => some d
  | .own d => some d
  | .io d => some d
  | .lk d => some d
@[simp] def slotD (env : Ev) (i : Nat) : Option D := env[i]?.bind Sl.data
@[simp] def Rs.data (env : Ev) : Rs → Option D
  | .val d => some d
  | .fresh d => some d
  | .slot i => slotD env i
def RR (K : PySem.W.Frag) (H0 : Hp) (env : Ev) (F : Hp) (σ : St) (H : Hp) : Rs → V → Prop
  | .val d, v => Rep K F d v
  | .fresh d, v => ∃ a, v = .ref a ∧ H0 a = none ∧ ¬ Held env σ a ∧ Live K F H d a
  | .slot i, v => σ[i]? = some (some v)
/-- what may be read now -/
def Pk (K : PySem.W.Frag) (F H : Hp) : D → V → Prop
  | .non, v => v = .non
  | .bl b, v => v = .bl b
  | .int i, v => v = .int i
  | .str l, v => v = .str (mkS l) ∧ okT l
  | .tup ds, v => ∃ a xs, v = .ref a ∧ SqT K F a xs ∧ RepL K F ds xs
  | .lst ds, v => ∃ a xs, v = .ref a ∧ H a = some (.lst xs) ∧ RepL K F ds xs
  | .scr ds, v => ∃ a xs, v = .ref a ∧ SqL K H a xs ∧ RepL K F ds xs
  | .dk ks ds, v => ∃ a kxs, v = .ref a ∧ Rd H a (.dK kxs) ∧ kxs.map (·.1) = ks ∧ RepL K F ds (kxs.map (·.2))
  | .dt ks ds, v => ∃ a kxs, v = .ref a ∧ Rd H a (.dT kxs) ∧ kxs.map (·.1) = ks ∧ RepL K F ds (kxs.map (·.2))
theorem Rep.pk {K : PySem.W.Frag} {F H : Hp} (l : Le F H) : ∀ {d : D} {v : V}, Rep K F d v → Pk K F H d v
  | .non, _, r => r
  | .bl _, _, r => r
  | .int _, _, r => r
  | .str _, _, r => r
  | .tup ds, _, r => r
  | .lst ds, _, r => by obtain ⟨a, xs, e, s, r⟩ := r; exact ⟨a, xs, e, l _ _ s, r⟩
  | .scr ds, _, r => by obtain ⟨a, xs, e, s, r⟩ := r; exact ⟨a, xs, e, l.sqL s, r⟩
  | .dk ks ds, _, r => by obtain ⟨a, xs, o, e, s, r⟩ := r; exact ⟨a, xs, e, .inr ⟨o, l _ _ s⟩, r⟩
  | .dt ks ds, _, r => by obtain ⟨a, xs, o, e, s, r⟩ := r; exact ⟨a, xs, e, .inr ⟨o, l _ _ s⟩, r⟩
theorem ObjD.pk {K : PySem.W.Frag} {F H : Hp} {d : D} {a : Addr} (h : ObjD K F H d a) : Pk K F H d (.ref a) := by
  cases d with
  | lst ds => obtain ⟨xs, q, r⟩ := h; exact ⟨a, xs, rfl, q, r⟩
  | dk ks ds => obtain ⟨xs, q, r⟩ := h; exact ⟨a, xs, rfl, .inl q, r⟩
  | dt ks ds => obtain ⟨xs, q, r⟩ := h; exact ⟨a, xs, rfl, .inl q, r⟩
  | _ => exact h.elim
theorem RR.pk {K : PySem.W.Frag} {B H0 : Hp} {env : Ev} {F : Hp} {σ : St} {H : Hp} {r : Rs} {v : V} {d : D} (S : SR K B env F σ H) (h : RR K H0 env F σ H r v) (e : r.data env = some d) : Pk K F H d v := by
  cases r with
  | val d' => cases e; exact Rep.pk S.sub h
  | fresh d' =>
    cases e
    obtain ⟨a, e1, _, _, l⟩ := h
    subst e1
    exact l.2.pk
  | slot i =>
    have e : slotD env i = some d := e
    unfold slotD at e
    cases q : env[i]? with
    | none => rw [q] at e; cases e
    | some s =>
      rw [q] at e
      have e : s.data = some d := e
      have h : σ[i]? = some (some v) := h
      have z := S.slot i s q
      rw [h] at z
      cases s with
      | un => cases e
      | val d' => cases e; obtain ⟨v', e1, r⟩ := z; cases e1; exact Rep.pk S.sub r
      | own d' => cases e; obtain ⟨a, e1, r, _⟩ := z; cases e1; exact r.2.pk
      | io d' => cases e; obtain ⟨a, e1, r⟩ := z; cases e1; exact r.2.pk
      | lk d' => cases e; obtain ⟨a, e1, r⟩ := z; cases e1; exact r.2.pk
theorem RR.step {K : PySem.W.Frag} {H0 : Hp} {env env' : Ev} {F F' : Hp} {σ : St} {H H' : Hp} {r : Rs} {v : V} (h : RR K H0 env F σ H r v) (t : Tr env σ F H env' σ F' H') : RR K H0 env' F' σ H' r v := by
  cases r with
  | val d => exact Rep.mono t.mono _ h
  | fresh d =>
    obtain ⟨a, e, n, nh, f, o⟩ := h
    obtain ⟨u, hu⟩ := o.at
    obtain ⟨k1, k2⟩ := t.keep a u hu fun q => nh q.held
    refine ⟨a, e, n, fun q => ?_, k2.trans f, o.mono t.mono (k1.trans hu.symm)⟩
    rcases t.held a q with z | z
    · exact nh z
    · rw [hu] at z; cases z
  | slot i => exact h
/-- seen from an earlier state -/
theorem RR.back {K : PySem.W.Frag} {H0 H1 : Hp} {env : Ev} {F : Hp} {σ : St} {H : Hp} {r : Rs} {v : V} (h : RR K H1 env F σ H r v) (t : ∀ a, H1 a = none → H0 a = none) : RR K H0 env F σ H r v := by
  cases r with
  | val d => exact h
  | fresh d => obtain ⟨a, e, n, r⟩ := h; exact ⟨a, e, t a n, r⟩
  | slot i => exact h

/-! ### readings -/
abbrev DE := Ev → Option (Rs × Ev)
abbrev DT := Ev → Option (Bool × Ev)
abbrev DA := Ev → Option (List Rs × Ev)
def rdE (K : PySem.W.Frag) (d : DE) : TE := fun σ H Q => ∃ B env F r env', SR K B env F σ H ∧ d env = some (r, env') ∧
  ∀ v F' H', SR K B env' F' σ H' → Tr env σ F H env' σ F' H' → RR K H env' F' σ H' r v → Q v H'
def rdT (K : PySem.W.Frag) (d : DT) : TT := fun σ H Q => ∃ B env F b env', SR K B env F σ H ∧ d env = some (b, env') ∧
  ∀ F' H', SR K B env' F' σ H' → Tr env σ F H env' σ F' H' → Q b H'
inductive RRs (K : PySem.W.Frag) (H0 : Hp) (env : Ev) (F : Hp) (σ : St) (H : Hp) : List Rs → List V → Prop
  | nil : RRs K H0 env F σ H [] []
  | cons {r : Rs} {rs : List Rs} {v : V} {vs : List V} : RR K H0 env F σ H r v → RRs K H0 env F σ H rs vs → (∀ d, r = .fresh d → ∀ (k : Nat) (d' : D), rs[k]? = some (.fresh d') → vs[k]? ≠ some v) → RRs K H0 env F σ H (r :: rs) (v :: vs)
theorem RRs.get {K : PySem.W.Frag} {H0 : Hp} {env : Ev} {F : Hp} {σ : St} {H : Hp} : ∀ {rs : List Rs} {vs : List V} {k : Nat} {r : Rs}, RRs K H0 env F σ H rs vs → rs[k]? = some r → ∃ v, vs[k]? = some v ∧ RR K H0 env F σ H r v
  | _, _, _, _, .nil, e => by simp at e
  | _, _, 0, _, .cons h _ _, e => by simp at e; subst e; exact ⟨_, rfl, h⟩
  | _, _, k + 1, _, .cons _ t _, e => by
    obtain ⟨v, h1, h2⟩ := RRs.get (k := k) t (by simpa using e)
    exact ⟨v, by simpa using h1, h2⟩
theorem RRs.back {K : PySem.W.Frag} {H0 H1 : Hp} {env : Ev} {F : Hp} {σ : St} {H : Hp} (t : ∀ a, H1 a = none → H0 a = none) : ∀ {rs : List Rs} {vs : List V}, RRs K H1 env F σ H rs vs → RRs K H0 env F σ H rs vs
  | _, _, .nil => .nil
  | _, _, .cons h r n => .cons (h.back t) (RRs.back t r) n
theorem RRs.length {K : PySem.W.Frag} {H0 : Hp} {env : Ev} {F : Hp} {σ : St} {H : Hp} : ∀ {rs : List Rs} {vs : List V}, RRs K H0 env F σ H rs vs → vs.length = rs.length
  | _, _, .nil => rfl
  | _, _, .cons _ t _ => by rw [List.length_cons, List.length_cons, t.length]
def rdA (K : PySem.W.Frag) (d : DA) : TA := fun σ H Q => ∃ B env F rs env', SR K B env F σ H ∧ d env = some (rs, env') ∧
  ∀ vs F' H', SR K B env' F' σ H' → Tr env σ F H env' σ F' H' → RRs K H env' F' σ H' rs vs → Q vs H'
theorem PE.conv {X : Cx} {e : Expr} {t u : TE} (h : PE X e t) (c : ∀ σ H Q, u σ H Q → t σ H Q) : PE X e u := ⟨fun pins s σ H Q I q => h.run pins s σ H Q I (c σ H Q q)⟩
theorem PT.conv {X : Cx} {e : Expr} {t u : TT} (h : PT X e t) (c : ∀ σ H Q, u σ H Q → t σ H Q) : PT X e u := ⟨fun pins s σ H Q I q => h.run pins s σ H Q I (c σ H Q q)⟩
theorem PW.conv {X : Cx} {e : Expr} {t u : TT} (h : PW X e t) (c : ∀ σ H Q, u σ H Q → t σ H Q) : PW X e u := ⟨fun wh pins s σ H Q I q => h.run wh pins s σ H Q I (c σ H Q q)⟩
theorem PA.conv {X : Cx} {e : List Expr} {t u : TA} (h : PA X e t) (c : ∀ σ H Q, u σ H Q → t σ H Q) : PA X e u := ⟨fun pos pins s σ H Q I q => h.run pos pins s σ H Q I (c σ H Q q)⟩
theorem PS.conv {X : Cx} {e : Stmt} {t u : TS} (h : PS X e t) (c : ∀ D σ H, u D σ H → t D σ H) : PS X e u := ⟨fun pins s σ H D I q => h.run pins s σ H D I (c D σ H q)⟩
theorem PSs.conv {X : Cx} {e : List Stmt} {t u : TS} (h : PSs X e t) (c : ∀ D σ H, u D σ H → t D σ H) : PSs X e u := ⟨fun pins s σ H D I q => h.run pins s σ H D I (c D σ H q)⟩

/-! ### new objects alone -/
structure New (F H F' H' : Hp) : Prop where
  mono : Le F F'
  keep : ∀ a o, H a = some o → H' a = some o ∧ F' a = F a
  sub : Le F' H'
theorem New.refl {F H : Hp} (l : Le F H) : New F H F H := ⟨Le.refl F, fun _ _ h => ⟨h, rfl⟩, l⟩
theorem New.trans {F H F1 H1 F2 H2 : Hp} (s : New F H F1 H1) (t : New F1 H1 F2 H2) : New F H F2 H2 := ⟨s.mono.trans t.mono, fun a o h => by
  obtain ⟨a1, b1⟩ := s.keep a o h
  obtain ⟨a2, b2⟩ := t.keep a o a1
  exact ⟨a2, b2.trans b1⟩, t.sub⟩
theorem New.nn {F H F' H' : Hp} (s : New F H F' H') {a : Addr} (h : H' a = none) : H a = none := by
  cases q : H a with
  | none => rfl
  | some o => rw [(s.keep a o q).1] at h; cases h
theorem SR.new {K : PySem.W.Frag} {B : Hp} {env : Ev} {F H F' H' : Hp} {σ : St} (S : SR K B env F σ H) (n : New F H F' H') : SR K B env F' σ H' := by
  refine ⟨S.len, fun a h => S.old a (n.nn h), n.sub, fun i s e => ?_, S.sep⟩
  have z := S.slot i s e
  have lv : ∀ {a d}, Live K F H d a → Live K F' H' d a := fun {a d} l => by
    obtain ⟨o, ho⟩ := l.2.at
    obtain ⟨k1, k2⟩ := n.keep a o ho
    exact ⟨k2.trans l.1, l.2.mono n.mono (k1.trans ho.symm)⟩
  cases s with
  | un => trivial
  | val d => obtain ⟨v, e1, r⟩ := z; exact ⟨v, e1, Rep.mono n.mono _ r⟩
  | own d => obtain ⟨a, e1, r, nb⟩ := z; exact ⟨a, e1, lv r, nb⟩
  | io d => obtain ⟨a, e1, r⟩ := z; exact ⟨a, e1, lv r⟩
  | lk d => obtain ⟨a, e1, r⟩ := z; exact ⟨a, e1, lv r⟩
theorem New.tr {env : Ev} {F H F' H' : Hp} {σ : St} (n : New F H F' H') : Tr env σ F H env σ F' H' :=
  ⟨n.mono, fun a o h _ => n.keep a o h, fun a o h => ⟨o, (n.keep a o h).1⟩, fun _ h => .inl h, fun _ h => .inl h, fun _ _ h => ⟨h, rfl⟩, fun _ d h => ⟨⟨d, h⟩, rfl⟩⟩
/-- the result of an operation on values: old data, or a new object -/
def NR (K : PySem.W.Frag) (H F' H' : Hp) : Rs → V → Prop
  | .val d, v => Rep K F' d v
  | .fresh d, v => ∃ a, v = .ref a ∧ H a = none ∧ Live K F' H' d a
  | .slot _, _ => False
theorem NR.rr {K : PySem.W.Frag} {B H F' H' : Hp} {env : Ev} {σ : St} {F : Hp} {r : Rs} {v : V} (S : SR K B env F σ H) (h : NR K H F' H' r v) : RR K H env F' σ H' r v := by
  cases r with
  | val d => exact h
  | fresh d =>
    obtain ⟨a, e, n, l⟩ := h
    refine ⟨a, e, n, fun q => ?_, l⟩
    obtain ⟨_, o, ho⟩ := S.heldAt q
    rw [n] at ho; cases ho
  | slot i => exact h.elim
theorem New.put {F H : Hp} {p : Addr} {o : HO} (l : Le F H) (h : H p = none) : New F H F (upd H p o) :=
  ⟨Le.refl F, fun a u q => ⟨by rw [upd_ne (ne_of_none q h)]; exact q, rfl⟩, fun a u q => by rw [upd_ne (ne_of_none (l a u q) h)]; exact l a u q⟩
theorem New.puts {F H : Hp} {p : Addr} {o : HO} (l : Le F H) (h : H p = none) : New F H (upd F p o) (upd H p o) := by
  have n : F p = none := l.nn h
  refine ⟨fun a u q => by rw [upd_ne (ne_of_none q n)]; exact q, fun a u q => ?_, fun a u q => ?_⟩
  · have ne := ne_of_none q h
    exact ⟨by rw [upd_ne ne]; exact q, by rw [upd_ne ne]⟩
  · by_cases e : a = p
    · subst e; rw [upd_same] at q ⊢; exact q
    · rw [upd_ne e] at q ⊢; exact l a u q
theorem le_upd {F : Hp} {p : Addr} {o : HO} (n : F p = none) : Le F (upd F p o) := fun a u q => by rw [upd_ne (ne_of_none q n)]; exact q
/-- a new list, a new tuple -/
theorem NR.list {K : PySem.W.Frag} {F H : Hp} {p : Addr} {ds : List D} {xs : List V} (l : Le F H) (h : H p = none) (r : RepL K F ds xs) : NR K H F (upd H p (.lst xs)) (.fresh (.lst ds)) (.ref p) :=
  ⟨p, rfl, h, l.nn h, xs, upd_same, r⟩
theorem NR.tuple {K : PySem.W.Frag} {F H : Hp} {p : Addr} {ds : List D} {xs : List V} (l : Le F H) (h : H p = none) (r : RepL K F ds xs) : NR K H (upd F p (.tup xs)) (upd H p (.tup xs)) (.val (.tup ds)) (.ref p) :=
  ⟨p, xs, rfl, SqT.of upd_same, RepL.mono (le_upd (l.nn h)) _ r⟩
end VL
set_option Elab.async false
set_option linter.all false
set_option maxRecDepth 100000
/-! expressions -/
namespace VL
open PySem PySem.Spec L2

theorem obind {α β : Type} {x : Option α} {f : α → Option β} {y : β} (h : x.bind f = some y) : ∃ a, x = some a ∧ f a = some y := by
  cases x with
  | none => cases h
  | some a => exact ⟨a, rfl, h⟩

section
variable {K : PySem.W.Frag} {B F H : Hp}

/-! ### to stand still -/
@[simp] def frz (r : Rs) (env : Ev) : Option (D × Ev) := match r with
  | .val d => some (d, env)
  | .fresh d => if d.nd = true then some (d, env) else none
  | .slot i => match env[i]? with
    | some (.val d) => some (d, env)
    | some (.own d) => if d.nd = true then some (d, env.set i (.val d)) else none
    | _ => none
theorem frz_ok {e0 : Ev} {σ0 : St} {F0 H0 : Hp} {env : Ev} {σ : St} {r : Rs} {v : V} {d : D} {env' : Ev} (S : SR K B env F σ H) (t : Tr e0 σ0 F0 H0 env σ F H) (q : RR K H0 env F σ H r v) (h : frz r env = some (d, env')) :
    ∃ F', SR K B env' F' σ H ∧ Tr e0 σ0 F0 H0 env' σ F' H ∧ Rep K F' d v := by
  cases r with
  | val d' => cases h; exact ⟨F, S, t, q⟩
  | fresh d' =>
    have h : (if d'.nd = true then some (d', env) else none) = some (d, env') := h
    by_cases nd : d'.nd = true
    case neg => rw [if_neg nd] at h; cases h
    rw [if_pos nd] at h
    cases h
    obtain ⟨a, e, n, nh, f, ob⟩ := q
    obtain ⟨o, ho⟩ := ob.at
    subst e
    have l := le_upd (o := o) f
    refine ⟨upd F a o, ⟨S.len, S.old, fun b u z => ?_, fun i s e => ?_, S.sep⟩, ⟨t.mono.trans l, fun b u z w => ?_, t.dom, t.own, t.held, t.lks, t.ios⟩, ob.rep ho f nd⟩
    · by_cases e : b = a
      · subst e; rw [upd_same] at z; cases z; exact ho
      · rw [upd_ne e] at z; exact S.sub b u z
    · have z := S.slot i s e
      have lv : ∀ {b d}, s.held = true → σ[i]? = some (some (.ref b)) → Live K F H d b → Live K (upd F a o) H d b := fun {b d} hh hs L => by
        have ne : b ≠ a := fun w => nh ⟨i, s, e, hh, by rw [← w]; exact hs⟩
        exact ⟨by rw [upd_ne ne]; exact L.1, L.2.mono l rfl⟩
      cases s with
      | un => trivial
      | val d => obtain ⟨v, e1, r⟩ := z; exact ⟨v, e1, Rep.mono l _ r⟩
      | own d => obtain ⟨b, e1, r, nb⟩ := z; exact ⟨b, e1, lv rfl e1 r, nb⟩
      | io d => obtain ⟨b, e1, r⟩ := z; exact ⟨b, e1, lv rfl e1 r⟩
      | lk d => obtain ⟨b, e1, r⟩ := z; exact ⟨b, e1, lv rfl e1 r⟩
    · obtain ⟨k1, k2⟩ := t.keep b u z w
      exact ⟨k1, by rw [upd_ne (ne_of_none z n)]; exact k2⟩
  | slot i =>
    have h : (match env[i]? with
      | some (.val d) => some (d, env)
      | some (.own d) => if d.nd = true then some (d, env.set i (.val d)) else none
      | _ => none) = some (d, env') := h
    have q : σ[i]? = some (some v) := q
    cases e : env[i]? with
    | none => rw [e] at h; cases h
    | some s =>
      rw [e] at h
      cases s with
      | un => cases h
      | io d' => cases h
      | lk d' => cases h
      | val d' =>
        cases h
        obtain ⟨v', e1, r⟩ := S.slot i _ e
        rw [q] at e1
        cases e1
        exact ⟨F, S, t, r⟩
      | own d' =>
        have h : (if d'.nd = true then some (d', env.set i (.val d')) else none) = some (d, env') := h
        by_cases nd : d'.nd = true
        case neg => rw [if_neg nd] at h; cases h
        rw [if_pos nd] at h
        cases h
        obtain ⟨a, e1, ⟨f, ob⟩, _⟩ := S.slot i _ e
        rw [q] at e1
        cases e1
        obtain ⟨o, ho⟩ := ob.at
        have l := le_upd (o := o) f
        have hl : i < env.length := (List.getElem?_eq_some_iff.mp e).1
        have other : ∀ {j : Nat} {s : Sl}, (env.set i (.val d))[j]? = some s → s.held = true → j ≠ i ∧ env[j]? = some s := fun {j s} e2 hh => by
          by_cases ij : i = j
          · subst ij
            rw [List.getElem?_set_self hl] at e2
            cases e2
            cases hh
          · rw [List.getElem?_set_ne ij] at e2
            exact ⟨fun z => ij z.symm, e2⟩
        have ob' := ob.rep ho f nd
        refine ⟨upd F a o, ⟨by rw [List.length_set]; exact S.len, S.old, fun b u z => ?_, fun j s e2 => ?_, fun i1 j1 s1 t1 b ne e2 e3 h2 h3 z2 z3 => ?_⟩, ⟨t.mono.trans l, fun b u z w => ?_, t.dom, fun b z => ?_, fun b z => ?_, fun j d2 z => ?_, fun j d2 z => ?_⟩, ob'⟩
        · by_cases e2 : b = a
          · subst e2; rw [upd_same] at z; cases z; exact ho
          · rw [upd_ne e2] at z; exact S.sub b u z
        · by_cases hh : s.held = true
          · obtain ⟨ne, e3⟩ := other e2 hh
            have z := S.slot j s e3
            have lv : ∀ {b d'}, σ[j]? = some (some (.ref b)) → Live K F H d' b → Live K (upd F a o) H d' b := fun {b d'} hs L => by
              have nb : b ≠ a := fun w => S.sep j i s (.own d) a ne e3 e hh rfl (by rw [← w]; exact hs) q
              exact ⟨by rw [upd_ne nb]; exact L.1, L.2.mono l rfl⟩
            cases s with
            | un => cases hh
            | val d => cases hh
            | own d => obtain ⟨b, e1, r, nb⟩ := z; exact ⟨b, e1, lv e1 r, nb⟩
            | io d => obtain ⟨b, e1, r⟩ := z; exact ⟨b, e1, lv e1 r⟩
            | lk d => obtain ⟨b, e1, r⟩ := z; exact ⟨b, e1, lv e1 r⟩
          · by_cases ij : i = j
            · subst ij
              rw [List.getElem?_set_self hl] at e2
              cases e2
              exact ⟨_, q, ob'⟩
            · rw [List.getElem?_set_ne ij] at e2
              have z := S.slot j s e2
              cases s with
              | un => trivial
              | val d => obtain ⟨v, e1, r⟩ := z; exact ⟨v, e1, Rep.mono l _ r⟩
              | own d => exact absurd rfl hh
              | io d => exact absurd rfl hh
              | lk d => exact absurd rfl hh
        · obtain ⟨_, e2⟩ := other e2 h2
          obtain ⟨_, e3⟩ := other e3 h3
          exact S.sep i1 j1 s1 t1 b ne e2 e3 h2 h3 z2 z3
        · obtain ⟨k1, k2⟩ := t.keep b u z w
          refine ⟨k1, ?_⟩
          rw [upd_ne fun e2 => ?_]
          · exact k2
          · rcases t.own a ⟨i, .own d, e, rfl, q⟩ with z2 | z2
            · exact w (e2 ▸ z2)
            · rw [← e2, z] at z2; cases z2
        · obtain ⟨j, s, e2, m, z⟩ := z
          exact t.own b ⟨j, s, (other e2 (Sl.mt_held m)).2, m, z⟩
        · obtain ⟨j, s, e2, m, z⟩ := z
          exact t.held b ⟨j, s, (other e2 m).2, m, z⟩
        · obtain ⟨z1, z2⟩ := t.lks j d2 z
          refine ⟨?_, z2⟩
          rw [List.getElem?_set_ne fun ij => by subst ij; rw [e] at z1; cases z1]
          exact z1
        · obtain ⟨⟨d3, z1⟩, z2⟩ := t.ios j d2 z
          refine ⟨⟨d3, ?_⟩, z2⟩
          rw [List.getElem?_set_ne fun ij => by subst ij; rw [e] at z1; cases z1]
          exact z1
@[simp] def dVal (d : DE) : DE := fun env => (d env).bind fun (r, e) => (frz r e).bind fun (x, e') => some (.val x, e')
theorem ped_val {X : Cx} {e : Expr} {d : DE} (h : PE X e (rdE X.K d)) : PE X e (rdE X.K (dVal d)) := PE.conv h fun σ H Q ⟨B, env, F, r, env', S, hd, q⟩ => by
  obtain ⟨⟨r1, e1⟩, h1, hd⟩ := obind hd
  obtain ⟨⟨x, e2⟩, h2, hd⟩ := obind hd
  cases hd
  refine ⟨B, env, F, r1, e1, S, h1, fun v F1 H1 S1 T1 R1 => ?_⟩
  obtain ⟨F', S', T', R'⟩ := frz_ok S1 T1 R1 h2
  exact q v F' H1 S' T' R'
end

/-! ### names, constants -/
section
variable {X : Cx} {pos : Pos}
@[simp] def dVar (i : Nat) : DE := fun env => match env[i]? with
  | some (.val d) => some (.val d, env)
  | some .un => none
  | some _ => some (.slot i, env)
  | none => none
theorem ped_var (i : Nat) {x : Str} (h : PE X (.Name x pos) (tVar i)) : PE X (.Name x pos) (rdE X.K (dVar i)) := PE.conv h fun σ H Q ⟨B, env, F, r, env', S, hd, q⟩ => by
  unfold dVar at hd
  cases e : env[i]? with
  | none => rw [e] at hd; cases hd
  | some s =>
    rw [e] at hd
    have z := S.slot i s e
    cases s with
    | un => cases hd
    | val d => cases hd; obtain ⟨v, e1, rr⟩ := z; exact ⟨v, e1, q v F H S Tr.refl rr⟩
    | own d => cases hd; obtain ⟨a, e1, rr, _⟩ := z; exact ⟨_, e1, q _ F H S Tr.refl e1⟩
    | io d => cases hd; obtain ⟨a, e1, rr⟩ := z; exact ⟨_, e1, q _ F H S Tr.refl e1⟩
    | lk d => cases hd; obtain ⟨a, e1, rr⟩ := z; exact ⟨_, e1, q _ F H S Tr.refl e1⟩
@[simp] def dC (d : D) : DE := fun env => some (.val d, env)
theorem ped_c {e : Expr} {v : V} {d : D} (h : PE X e (tC v)) (r : ∀ F, Rep X.K F d v) : PE X e (rdE X.K (dC d)) := PE.conv h fun σ H Q ⟨B, env, F, r0, env', S, hd, q⟩ => by
  cases hd
  exact q v F H S Tr.refl (r F)
theorem ped_int {i : Int} {j : Nat} : PE X (.Constant (.int i) j pos) (rdE X.K (dC (.int i))) := ped_c pe_int fun _ => rfl
theorem ped_bl {b : Bool} {j : Nat} : PE X (.Constant (.bool b) j pos) (rdE X.K (dC (.bl b))) := ped_c pe_bl fun _ => rfl
theorem ped_non {j : Nat} : PE X (.Constant .none j pos) (rdE X.K (dC .non)) := ped_c pe_non fun _ => rfl
theorem ped_str {x : Str} {j : Nat} (l : Tx) (h : x = mkS l := by decide +kernel) (hl : okT l := by decide) : PE X (.Constant (.str x) j pos) (rdE X.K (dC (.str l))) := by
  subst h; exact ped_c pe_str fun _ => ⟨rfl, hl⟩
end

/-! ### operations on values -/
/-- two values -/
def BinOK (K : PySem.W.Frag) (r : R2) (sem : D → D → Option Rs) : Prop := ∀ (F H : Hp) (x y : V) (d1 d2 : D) (o : Rs), Le F H → Pk K F H d1 x → Pk K F H d2 y → sem d1 d2 = some o →
  ∀ Q : VK, (∀ v F' H', New F H F' H' → NR K H F' H' o v → Q v H') → r x y H Q
def UnOK (K : PySem.W.Frag) (r : V → Hp → VK → Prop) (sem : D → Option Rs) : Prop := ∀ (F H : Hp) (x : V) (d : D) (o : Rs), Le F H → Pk K F H d x → sem d = some o →
  ∀ Q : VK, (∀ v F' H', New F H F' H' → NR K H F' H' o v → Q v H') → r x H Q
inductive PkL (K : PySem.W.Frag) (F H : Hp) : List D → List V → Prop
  | nil : PkL K F H [] []
  | cons {d : D} {ds : List D} {v : V} {vs : List V} : Pk K F H d v → PkL K F H ds vs → PkL K F H (d :: ds) (v :: vs)
def CallOK (K : PySem.W.Frag) (r : List V → Hp → VK → Prop) (sem : List D → Option Rs) : Prop := ∀ (F H : Hp) (xs : List V) (ds : List D) (o : Rs), Le F H → PkL K F H ds xs → sem ds = some o →
  ∀ Q : VK, (∀ v F' H', New F H F' H' → NR K H F' H' o v → Q v H') → r xs H Q
@[simp] def dBin (sem : D → D → Option Rs) (da db : DE) : DE := fun env => (da env).bind fun (r1, e1) => (db e1).bind fun (r2, e2) => (r1.data e2).bind fun d1 => (r2.data e2).bind fun d2 => (sem d1 d2).bind fun o => some (o, e2)
@[simp] def dUn (sem : D → Option Rs) (da : DE) : DE := fun env => (da env).bind fun (r1, e1) => (r1.data e1).bind fun d1 => (sem d1).bind fun o => some (o, e1)
section
variable {X : Cx} {a b c : Expr} {da db dc : DE} {pos : Pos}
theorem two_ok {K : PySem.W.Frag} {r : R2} {sem : D → D → Option Rs} (hs : BinOK K r sem) {da db : DE} {σ : St} {H : Hp} {Q : VK} (h : rdE K (dBin sem da db) σ H Q) :
    rdE K da σ H fun x H1 => rdE K db σ H1 fun y H2 => r x y H2 Q := by
  obtain ⟨B, env, F, o, env', S, hd, q⟩ := h
  obtain ⟨⟨r1, e1⟩, h1, hd⟩ := obind hd
  obtain ⟨⟨r2, e2⟩, h2, hd⟩ := obind hd
  obtain ⟨d1, h3, hd⟩ := obind hd
  obtain ⟨d2, h4, hd⟩ := obind hd
  obtain ⟨o', h5, hd⟩ := obind hd
  cases hd
  refine ⟨B, env, F, r1, e1, S, h1, fun v F1 H1 S1 T1 R1 => ⟨B, e1, F1, r2, env', S1, h2, fun u F2 H2 S2 T2 R2 => ?_⟩⟩
  refine hs F2 H2 v u d1 d2 o S2.sub (RR.pk S2 (R1.step T2) h3) (RR.pk S2 R2 h4) h5 Q fun w F3 H3 n nr => ?_
  have T := T1.trans T2
  exact q w F3 H3 (S2.new n) (T.trans n.tr) ((nr.rr S2).back fun a z => T.dom' z)
theorem un_ok {K : PySem.W.Frag} {r : V → Hp → VK → Prop} {sem : D → Option Rs} (hs : UnOK K r sem) {da : DE} {σ : St} {H : Hp} {Q : VK} (h : rdE K (dUn sem da) σ H Q) :
    rdE K da σ H fun x H1 => r x H1 Q := by
  obtain ⟨B, env, F, o, env', S, hd, q⟩ := h
  obtain ⟨⟨r1, e1⟩, h1, hd⟩ := obind hd
  obtain ⟨d1, h3, hd⟩ := obind hd
  obtain ⟨o', h5, hd⟩ := obind hd
  cases hd
  refine ⟨B, env, F, r1, env', S, h1, fun v F1 H1 S1 T1 R1 => ?_⟩
  refine hs F1 H1 v d1 o S1.sub (RR.pk S1 R1 h3) h5 Q fun w F3 H3 n nr => ?_
  exact q w F3 H3 (S1.new n) (T1.trans n.tr) ((nr.rr S1).back fun a z => T1.dom' z)
theorem ped_op {op : Operator} {r : R2} {sem : D → D → Option Rs} (ho : OpR X (binaryOp op) r) (hs : BinOK X.K r sem) (ha : PE X a (rdE X.K da)) (hb : PE X b (rdE X.K db)) : PE X (.BinOp a op b pos) (rdE X.K (dBin sem da db)) :=
  PE.conv (pe_op ho ha hb) fun _ _ _ h => two_ok hs h
theorem ped_un {op : UnaryOp} {r : V → Hp → VK → Prop} {sem : D → Option Rs} (ho : UnR X (unaryOp op) r) (hs : UnOK X.K r sem) (ha : PE X a (rdE X.K da)) : PE X (.UnaryOp op a pos) (rdE X.K (dUn sem da)) :=
  PE.conv (pe_un ho ha) fun _ _ _ h => un_ok hs h
theorem ped_cmp {op : CmpOp} {r : R2} {sem : D → D → Option Rs} (ho : OpR X (compareOp op) r) (hs : BinOK X.K r sem) (ha : PE X a (rdE X.K da)) (hb : PE X b (rdE X.K db)) (hm : behindInMarks op b = false) : PE X (.Compare a [op] [b] pos) (rdE X.K (dBin sem da db)) :=
  PE.conv (pe_cmpR ho ha hb hm) fun _ _ _ h => two_ok hs h
theorem ped_ix {r : R2} {sem : D → D → Option Rs} (ho : IxR X r) (hs : BinOK X.K r sem) (ha : PE X a (rdE X.K da)) (hb : PE X b (rdE X.K db)) (hp : PlainIx b := by exact fun _ _ => rfl) : PE X (.Subscript a b pos) (rdE X.K (dBin sem da db)) :=
  PE.conv (pe_ix ho ha hb hp) fun _ _ _ h => two_ok hs h

/-! ### tests -/
@[simp] def bOf : D → Option Bool
  | .bl b => some b
  | _ => none
/-- an expression whose value is a bool, as a test -/
@[simp] def dTest (d : DE) : DT := fun env => (d env).bind fun (r, e) => (r.data e).bind fun x => (bOf x).bind fun b => some (b, e)
theorem test_ok {K : PySem.W.Frag} {d : DE} {σ : St} {H : Hp} {Q : Bool → Hp → Prop} (h : rdT K (dTest d) σ H Q) : rdE K d σ H fun x H1 => ∃ c, x = .bl c ∧ Q c H1 := by
  obtain ⟨B, env, F, b, env', S, hd, q⟩ := h
  obtain ⟨⟨r1, e1⟩, h1, hd⟩ := obind hd
  obtain ⟨x, h2, hd⟩ := obind hd
  obtain ⟨b', h3, hd⟩ := obind hd
  cases hd
  refine ⟨B, env, F, r1, env', S, h1, fun v F1 H1 S1 T1 R1 => ?_⟩
  have p := RR.pk S1 R1 h2
  cases x with
  | bl c => cases h3; exact ⟨_, p, q F1 H1 S1 T1⟩
  | _ => cases h3
theorem ptd_val {e : Expr} {d : DE} (h : PE X e (rdE X.K d)) (he : ∀ whole, isTrue e X.env whole = (do let v ← whole; standAt e.pos; holding [v] (truthy v)) := by intro _; rfl) : PT X e (rdT X.K (dTest d)) :=
  PT.conv (pt_val h he) fun _ _ _ h => test_ok h
theorem ptd_cmp {op : CmpOp} {r : R2} {sem : D → D → Option Rs} (ho : OpR X (compareOp op) r) (hs : BinOK X.K r sem) (ha : PE X a (rdE X.K da)) (hb : PE X b (rdE X.K db)) (hm : behindInMarks op b = false) : PT X (.Compare a [op] [b] pos) (rdT X.K (dTest (dBin sem da db))) :=
  PT.conv (pt_cmpR ho ha hb hm) fun _ _ _ h => two_ok (r := fun x y H Q => r x y H Q) hs (test_ok h)
@[simp] def dNotT (d : DT) : DT := fun env => (d env).bind fun (b, e) => some (!b, e)
@[simp] def dAndT (d1 d2 : DT) : DT := fun env => (d1 env).bind fun (b, e) => if b = true then d2 e else some (false, e)
@[simp] def dOrT (d1 d2 : DT) : DT := fun env => (d1 env).bind fun (b, e) => if b = true then some (true, e) else d2 e
theorem not_ok {K : PySem.W.Frag} {d : DT} {σ : St} {H : Hp} {Q : Bool → Hp → Prop} (h : rdT K (dNotT d) σ H Q) : tNot (rdT K d) σ H Q := by
  obtain ⟨B, env, F, b, env', S, hd, q⟩ := h
  obtain ⟨⟨b1, e1⟩, h1, hd⟩ := obind hd
  cases hd
  exact ⟨B, env, F, b1, env', S, h1, q⟩
theorem and_ok {K : PySem.W.Frag} {d1 d2 : DT} {σ : St} {H : Hp} {Q : Bool → Hp → Prop} (h : rdT K (dAndT d1 d2) σ H Q) : tAnd (rdT K d1) (rdT K d2) σ H Q := by
  obtain ⟨B, env, F, b, env', S, hd, q⟩ := h
  obtain ⟨⟨b1, e1⟩, h1, hd⟩ := obind hd
  refine ⟨B, env, F, b1, e1, S, h1, fun F1 H1 S1 T1 => ?_⟩
  cases b1 with
  | false => cases hd; exact q F1 H1 S1 T1
  | true => exact ⟨B, e1, F1, b, env', S1, hd, fun F2 H2 S2 T2 => q F2 H2 S2 (T1.trans T2)⟩
theorem or_ok {K : PySem.W.Frag} {d1 d2 : DT} {σ : St} {H : Hp} {Q : Bool → Hp → Prop} (h : rdT K (dOrT d1 d2) σ H Q) : tOr (rdT K d1) (rdT K d2) σ H Q := by
  obtain ⟨B, env, F, b, env', S, hd, q⟩ := h
  obtain ⟨⟨b1, e1⟩, h1, hd⟩ := obind hd
  refine ⟨B, env, F, b1, e1, S, h1, fun F1 H1 S1 T1 => ?_⟩
  cases b1 with
  | true => cases hd; exact q F1 H1 S1 T1
  | false => exact ⟨B, e1, F1, b, env', S1, hd, fun F2 H2 S2 T2 => q F2 H2 S2 (T1.trans T2)⟩
theorem ptd_not {d : DT} (h : PT X a (rdT X.K d)) : PT X (.UnaryOp .Not a pos) (rdT X.K (dNotT d)) := PT.conv (pt_not h) fun _ _ _ h => not_ok h
variable {rest : List Expr} {d1 d2 : DT}
theorem pwd_and1 (h : PT X a (rdT X.K d1)) : PW X (.BoolOp .And [a] pos) (rdT X.K d1) := pw_and1 h
theorem pwd_or1 (h : PT X a (rdT X.K d1)) : PW X (.BoolOp .Or [a] pos) (rdT X.K d1) := pw_or1 h
theorem pwd_and (h : PT X a (rdT X.K d1)) (k : PW X (.BoolOp .And (b :: rest) pos) (rdT X.K d2)) : PW X (.BoolOp .And (a :: b :: rest) pos) (rdT X.K (dAndT d1 d2)) := PW.conv (pw_and h k) fun _ _ _ h => and_ok h
theorem pwd_or (h : PT X a (rdT X.K d1)) (k : PW X (.BoolOp .Or (b :: rest) pos) (rdT X.K d2)) : PW X (.BoolOp .Or (a :: b :: rest) pos) (rdT X.K (dOrT d1 d2)) := PW.conv (pw_or h k) fun _ _ _ h => or_ok h

/-! ### and, or, not as values (bools), a if t else b -/
@[simp] def dB (b : Bool) : Rs := .val (.bl b)
@[simp] def dAndV (d1 d2 : DE) : DE := fun env => (dTest d1 env).bind fun (b, e) => if b = true then d2 e else some (dB false, e)
@[simp] def dOrV (d1 d2 : DE) : DE := fun env => (dTest d1 env).bind fun (b, e) => if b = true then some (dB true, e) else d2 e
@[simp] def dNotV (d : DE) : DE := fun env => (dTest d env).bind fun (b, e) => some (dB (!b), e)
theorem andV_ok {K : PySem.W.Frag} {d1 d2 : DE} {σ : St} {H : Hp} {Q : VK} (h : rdE K (dAndV d1 d2) σ H Q) : tAndV (rdE K d1) (rdE K d2) σ H Q := by
  obtain ⟨B, env, F, r, env', S, hd, q⟩ := h
  obtain ⟨⟨b1, e1⟩, h1, hd⟩ := obind hd
  refine test_ok (Q := fun c H1 => if c = true then rdE K d2 σ H1 Q else Q (.bl false) H1) ⟨B, env, F, b1, e1, S, h1, fun F1 H1 S1 T1 => ?_⟩
  cases b1 with
  | false => cases hd; exact q _ F1 H1 S1 T1 rfl
  | true => exact ⟨B, e1, F1, r, env', S1, hd, fun v F2 H2 S2 T2 R2 => q v F2 H2 S2 (T1.trans T2) (R2.back fun a z => T1.dom' z)⟩
theorem orV_ok {K : PySem.W.Frag} {d1 d2 : DE} {σ : St} {H : Hp} {Q : VK} (h : rdE K (dOrV d1 d2) σ H Q) : tOrV (rdE K d1) (rdE K d2) σ H Q := by
  obtain ⟨B, env, F, r, env', S, hd, q⟩ := h
  obtain ⟨⟨b1, e1⟩, h1, hd⟩ := obind hd
  refine test_ok (Q := fun c H1 => if c = true then Q (.bl true) H1 else rdE K d2 σ H1 Q) ⟨B, env, F, b1, e1, S, h1, fun F1 H1 S1 T1 => ?_⟩
  cases b1 with
  | true => cases hd; exact q _ F1 H1 S1 T1 rfl
  | false => exact ⟨B, e1, F1, r, env', S1, hd, fun v F2 H2 S2 T2 R2 => q v F2 H2 S2 (T1.trans T2) (R2.back fun a z => T1.dom' z)⟩
theorem notV_ok {K : PySem.W.Frag} {d : DE} {σ : St} {H : Hp} {Q : VK} (h : rdE K (dNotV d) σ H Q) : tNotV (rdE K d) σ H Q := by
  obtain ⟨B, env, F, r, env', S, hd, q⟩ := h
  obtain ⟨⟨b1, e1⟩, h1, hd⟩ := obind hd
  cases hd
  exact test_ok (Q := fun c H1 => Q (.bl (!c)) H1) ⟨B, env, F, b1, env', S, h1, fun F1 H1 S1 T1 => q _ F1 H1 S1 T1 rfl⟩
theorem ped_one {op : BoolOp} {d : DE} (h : PE X a (rdE X.K d)) : PE X (.BoolOp op [a] pos) (rdE X.K d) := pe_one h
theorem ped_and (h : PE X a (rdE X.K da)) (k : PE X (.BoolOp .And (b :: rest) pos) (rdE X.K db)) : PE X (.BoolOp .And (a :: b :: rest) pos) (rdE X.K (dAndV da db)) := PE.conv (pe_and h k) fun _ _ _ h => andV_ok h
theorem ped_or (h : PE X a (rdE X.K da)) (k : PE X (.BoolOp .Or (b :: rest) pos) (rdE X.K db)) : PE X (.BoolOp .Or (a :: b :: rest) pos) (rdE X.K (dOrV da db)) := PE.conv (pe_or h k) fun _ _ _ h => orV_ok h
theorem ped_not (h : PE X a (rdE X.K da)) : PE X (.UnaryOp .Not a pos) (rdE X.K (dNotV da)) := PE.conv (pe_not h) fun _ _ _ h => notV_ok h
@[simp] def dIf (t : DT) (da db : DE) : DE := fun env => (t env).bind fun (b, e) => if b = true then da e else db e
theorem ped_if {t : DT} (ht : PT X c (rdT X.K t)) (ha : PE X a (rdE X.K da)) (hb : PE X b (rdE X.K db)) : PE X (.IfExp c a b pos) (rdE X.K (dIf t da db)) := PE.conv (pe_ifExp ht ha hb) fun σ H Q ⟨B, env, F, r, env', S, hd, q⟩ => by
  obtain ⟨⟨b1, e1⟩, h1, hd⟩ := obind hd
  refine ⟨B, env, F, b1, e1, S, h1, fun F1 H1 S1 T1 => ?_⟩
  cases b1 with
  | true => exact ⟨B, e1, F1, r, env', S1, hd, fun v F2 H2 S2 T2 R2 => q v F2 H2 S2 (T1.trans T2) (R2.back fun a z => T1.dom' z)⟩
  | false => exact ⟨B, e1, F1, r, env', S1, hd, fun v F2 H2 S2 T2 R2 => q v F2 H2 S2 (T1.trans T2) (R2.back fun a z => T1.dom' z)⟩
end
end VL
set_option Elab.async false
set_option linter.all false
set_option maxRecDepth 100000
/-! statements -/
namespace VL
open PySem PySem.Spec L2

section
variable {K : PySem.W.Frag} {B F H : Hp} {env : Ev} {σ : St}

/-! ### a slot set -/
theorem SR.set (S : SR K B env F σ H) {i : Nat} {s : Sl} {v : V} (hi : i < env.length) (hs : SlRep K B F H s (some (some v))) (hh : s.held = true → ∀ a, v = .ref a → ¬ Held env σ a) : SR K B (env.set i s) F (σ.set i (some v)) H := by
  have hiσ : i < σ.length := by rw [← S.len]; exact hi
  refine ⟨by rw [List.length_set, List.length_set]; exact S.len, S.old, S.sub, fun j t e => ?_, fun j k t u a ne e1 e2 h1 h2 z1 z2 => ?_⟩
  · by_cases ij : i = j
    · subst ij
      rw [List.getElem?_set_self hi] at e
      cases e
      rw [List.getElem?_set_self hiσ]
      exact hs
    · rw [List.getElem?_set_ne ij] at e ⊢
      exact S.slot j t e
  · by_cases ij : i = j
    · subst ij
      rw [List.getElem?_set_self hi] at e1
      rw [List.getElem?_set_self hiσ] at z1
      rw [List.getElem?_set_ne ne] at e2 z2
      cases e1; cases z1
      exact hh h1 a rfl ⟨k, u, e2, h2, z2⟩
    · rw [List.getElem?_set_ne ij] at e1 z1
      by_cases ik : i = k
      · subst ik
        rw [List.getElem?_set_self hi] at e2
        rw [List.getElem?_set_self hiσ] at z2
        cases e2; cases z2
        exact hh h2 a rfl ⟨j, t, e1, h1, z1⟩
      · rw [List.getElem?_set_ne ik] at e2 z2
        exact S.sep j k t u a ne e1 e2 h1 h2 z1 z2
/-- may be bound anew -/
def Sl.free : Sl → Bool
  | .io _ => false
  | .lk _ => false
  | _ => true
theorem Tr.set {e0 : Ev} {σ0 : St} {F0 H0 : Hp} (S : SR K B env F σ H) (t : Tr e0 σ0 F0 H0 env σ F H) {i : Nat} {s s0 : Sl} {v : V} (hi : env[i]? = some s0) (hf : s0.free = true) (hs : s.free = true) (hh : s.held = true → ∀ a, v = .ref a → H0 a = none) : Tr e0 σ0 F0 H0 (env.set i s) (σ.set i (some v)) F H := by
  have hl : i < env.length := (List.getElem?_eq_some_iff.mp hi).1
  have hiσ : i < σ.length := by rw [← S.len]; exact hl
  refine ⟨t.mono, t.keep, t.dom, fun a q => ?_, fun a q => ?_, fun j d q => ?_, fun j d q => ?_⟩
  · obtain ⟨j, u, e, m, z⟩ := q
    by_cases ij : i = j
    · subst ij
      rw [List.getElem?_set_self hl] at e
      rw [List.getElem?_set_self hiσ] at z
      cases e; cases z
      exact .inr (hh (Sl.mt_held m) a rfl)
    · rw [List.getElem?_set_ne ij] at e z
      exact t.own a ⟨j, u, e, m, z⟩
  · obtain ⟨j, u, e, m, z⟩ := q
    by_cases ij : i = j
    · subst ij
      rw [List.getElem?_set_self hl] at e
      rw [List.getElem?_set_self hiσ] at z
      cases e; cases z
      exact .inr (hh m a rfl)
    · rw [List.getElem?_set_ne ij] at e z
      exact t.held a ⟨j, u, e, m, z⟩
  · obtain ⟨z1, z2⟩ := t.lks j d q
    have ij : i ≠ j := fun ij => by subst ij; rw [hi] at z1; cases z1; cases hf
    rw [List.getElem?_set_ne ij, List.getElem?_set_ne ij]
    exact ⟨z1, z2⟩
  · obtain ⟨⟨d', z1⟩, z2⟩ := t.ios j d q
    have ij : i ≠ j := fun ij => by subst ij; rw [hi] at z1; cases z1; cases hf
    rw [List.getElem?_set_ne ij, List.getElem?_set_ne ij]
    exact ⟨⟨d', z1⟩, z2⟩
/-- a result bound to a name -/
@[simp] def put (i : Nat) (r : Rs) (env : Ev) : Option Ev := match r with
  | .val d => (env[i]?).bind fun s => if s.free = true then some (env.set i (.val d)) else none
  | .fresh d => (env[i]?).bind fun s => if s.free = true then some (env.set i (.own d)) else none
  | .slot j => (frz (.slot j) env).bind fun (d, e) => (e[i]?).bind fun s => if s.free = true then some (e.set i (.val d)) else none
theorem put_ok {e0 : Ev} {σ0 : St} {F0 H0 : Hp} {i : Nat} {r : Rs} {v : V} {env' : Ev} (S : SR K B env F σ H) (hB : ∀ a, H0 a = none → B a = none) (t : Tr e0 σ0 F0 H0 env σ F H) (q : RR K H0 env F σ H r v) (h : put i r env = some env') :
    ∃ F', SR K B env' F' (σ.set i (some v)) H ∧ Tr e0 σ0 F0 H0 env' (σ.set i (some v)) F' H := by
  cases r with
  | val d =>
    obtain ⟨s, h1, h⟩ := obind h
    by_cases hf : s.free = true
    · rw [if_pos hf] at h
      cases h
      exact ⟨F, S.set (List.getElem?_eq_some_iff.mp h1).1 ⟨v, rfl, q⟩ (fun z => nomatch z), t.set S h1 hf rfl fun z => nomatch z⟩
    · rw [if_neg hf] at h; cases h
  | fresh d =>
    obtain ⟨s, h1, h⟩ := obind h
    by_cases hf : s.free = true
    · rw [if_pos hf] at h
      cases h
      obtain ⟨a, e, n, nh, l⟩ := q
      subst e
      exact ⟨F, S.set (List.getElem?_eq_some_iff.mp h1).1 ⟨a, rfl, l, hB a n⟩ (fun _ b e => by cases e; exact nh), t.set S h1 hf rfl fun _ b e => by cases e; exact n⟩
    · rw [if_neg hf] at h; cases h
  | slot j =>
    obtain ⟨⟨d, e1⟩, h0, h⟩ := obind h
    obtain ⟨F', S', t', r'⟩ := frz_ok S t q h0
    obtain ⟨s, h1, h⟩ := obind h
    have h1 : e1[i]? = some s := h1
    by_cases hf : s.free = true
    · rw [if_pos hf] at h
      cases h
      exact ⟨F', S'.set (List.getElem?_eq_some_iff.mp h1).1 ⟨v, rfl, r'⟩ (fun z => nomatch z), t'.set S' h1 hf rfl fun z => nomatch z⟩
    · rw [if_neg hf] at h; cases h

/-! ### a slot's object changed -/
@[simp] def Sl.wt (s : Sl) (d : D) : Sl := match s with
  | .own _ => .own d
  | .io _ => .io d
  | s => s
theorem mut_ok (S : SR K B env F σ H) {j : Nat} {s : Sl} {a : Addr} {d : D} {o : HO} (e : env[j]? = some s) (m : s.mt = true) (z : σ[j]? = some (some (.ref a))) (w : ObjD K F (upd H a o) d a) :
    SR K B (env.set j (s.wt d)) F σ (upd H a o) ∧ Tr env σ F H (env.set j (s.wt d)) σ F (upd H a o) := by
  have hl : j < env.length := (List.getElem?_eq_some_iff.mp e).1
  have oa : Own env σ a := ⟨j, s, e, m, z⟩
  obtain ⟨fa, oo, ha⟩ := S.heldAt oa.held
  have mt' : (s.wt d).mt = true := by cases s <;> first | rfl | cases m
  have held' : (s.wt d).held = true := Sl.mt_held mt'
  have nn : ∀ b, upd H a o b = none → H b = none := fun b h => by
    by_cases eb : b = a
    · subst eb; rw [upd_same] at h; cases h
    · rw [upd_ne eb] at h; exact h
  have back : ∀ {k : Nat} {t : Sl}, (env.set j (s.wt d))[k]? = some t → ∃ t0, env[k]? = some t0 ∧ t0.mt = t.mt ∧ t0.held = t.held := fun {k t} q => by
    by_cases jk : j = k
    · subst jk
      rw [List.getElem?_set_self hl] at q
      cases q
      exact ⟨s, e, m.trans mt'.symm, (Sl.mt_held m).trans held'.symm⟩
    · rw [List.getElem?_set_ne jk] at q
      exact ⟨t, q, rfl, rfl⟩
  refine ⟨⟨by rw [List.length_set]; exact S.len, fun b h => S.old b (nn b h), fun b u q => ?_, fun k t q => ?_, fun k l t u b ne q1 q2 h1 h2 z1 z2 => ?_⟩, ⟨Le.refl F, fun b u q no => ?_, fun b u q => ?_, fun b q => ?_, fun b q => ?_, fun k d' q => ?_, fun k d' q => ?_⟩⟩
  · rw [upd_ne (ne_of_none q fa)]; exact S.sub b u q
  · by_cases jk : j = k
    · subst jk
      rw [List.getElem?_set_self hl] at q
      cases q
      have z0 := S.slot j s e
      cases s with
      | own d' => obtain ⟨b, z1, L, nb⟩ := z0; rw [z] at z1; cases z1; exact ⟨a, z, ⟨fa, w⟩, nb⟩
      | io d' => exact ⟨a, z, fa, w⟩
      | _ => cases m
    · rw [List.getElem?_set_ne jk] at q
      have z0 := S.slot k t q
      have lv : ∀ {b d'}, t.held = true → σ[k]? = some (some (.ref b)) → Live K F H d' b → Live K F (upd H a o) d' b := fun {b d'} hh hs L => by
        have ne : b ≠ a := fun x => S.sep k j t s a (fun x => jk x.symm) q e hh (Sl.mt_held m) (by rw [← x]; exact hs) z
        exact ⟨L.1, L.2.mono (Le.refl F) (upd_ne ne)⟩
      cases t with
      | un => trivial
      | val d' => exact z0
      | own d' => obtain ⟨b, e1, r, nb⟩ := z0; exact ⟨b, e1, lv rfl e1 r, nb⟩
      | io d' => obtain ⟨b, e1, r⟩ := z0; exact ⟨b, e1, lv rfl e1 r⟩
      | lk d' => obtain ⟨b, e1, r⟩ := z0; exact ⟨b, e1, lv rfl e1 r⟩
  · obtain ⟨t0, a1, _, b1⟩ := back q1
    obtain ⟨u0, a2, _, b2⟩ := back q2
    exact S.sep k l t0 u0 b ne a1 a2 (b1.trans h1) (b2.trans h2) z1 z2
  · exact ⟨by rw [upd_ne fun (x : b = a) => no (by rw [x]; exact oa)]; exact q, rfl⟩
  · by_cases eb : b = a
    · subst eb; exact ⟨o, upd_same⟩
    · exact ⟨u, by rw [upd_ne eb]; exact q⟩
  · obtain ⟨k, t, q1, m1, z1⟩ := q
    obtain ⟨t0, a1, b1, _⟩ := back q1
    exact .inl ⟨k, t0, a1, b1.trans m1, z1⟩
  · obtain ⟨k, t, q1, m1, z1⟩ := q
    obtain ⟨t0, a1, _, b1⟩ := back q1
    exact .inl ⟨k, t0, a1, b1.trans m1, z1⟩
  · have jk : j ≠ k := fun x => by subst x; rw [e] at q; cases q; cases m
    exact ⟨by rw [List.getElem?_set_ne jk]; exact q, rfl⟩
  · refine ⟨?_, rfl⟩
    by_cases jk : j = k
    · subst jk
      rw [e] at q
      cases q
      exact ⟨d, by rw [List.getElem?_set_self hl] <;> rfl⟩
    · exact ⟨d', by rw [List.getElem?_set_ne jk]; exact q⟩
end

/-! ### readings of statements -/
inductive Out where
  | nx (e : Ev)
  | rt (r : Rs) (e : Ev)
  | bk (e : Ev)
  | ct (e : Ev)
abbrev DS := Ev → Option Out
def EndO (K : PySem.W.Frag) (B : Hp) (env : Ev) (F : Hp) (σ : St) (H : Hp) (D : Ends) : Out → Prop
  | .nx e => ∀ σ' F' H', SR K B e F' σ' H' → Tr env σ F H e σ' F' H' → D.nx σ' H'
  | .bk e => ∀ σ' F' H', SR K B e F' σ' H' → Tr env σ F H e σ' F' H' → D.bk σ' H'
  | .ct e => ∀ σ' F' H', SR K B e F' σ' H' → Tr env σ F H e σ' F' H' → D.ct σ' H'
  | .rt r e => ∀ v σ' F' H', SR K B e F' σ' H' → Tr env σ F H e σ' F' H' → RR K B e F' σ' H' r v → D.rt v H'
def rdS (K : PySem.W.Frag) (d : DS) : TS := fun D σ H => ∃ B env F o, SR K B env F σ H ∧ d env = some o ∧ EndO K B env F σ H D o
/-- the same end wanted from a later state -/
theorem EndO.later {K : PySem.W.Frag} {B : Hp} {env e1 : Ev} {F F1 : Hp} {σ σ1 : St} {H H1 : Hp} {D : Ends} {o : Out} (h : EndO K B env F σ H D o) (t : Tr env σ F H e1 σ1 F1 H1) : EndO K B e1 F1 σ1 H1 D o := by
  cases o with
  | nx e => exact fun σ' F' H' S T => h σ' F' H' S (t.trans T)
  | bk e => exact fun σ' F' H' S T => h σ' F' H' S (t.trans T)
  | ct e => exact fun σ' F' H' S T => h σ' F' H' S (t.trans T)
  | rt r e => exact fun v σ' F' H' S T => h v σ' F' H' S (t.trans T)
section
variable {X : Cx} {st : Stmt} {rest : List Stmt} {pos : Pos}
@[simp] def dNext : DS := fun env => some (.nx env)
@[simp] def dSeq (a b : DS) : DS := fun env => (a env).bind fun o => match o with
  | .nx e => b e
  | o => some o
theorem pssd_nil : PSs X [] (rdS X.K dNext) := PSs.conv pss_nil fun D σ H ⟨B, env, F, o, S, hd, q⟩ => by cases hd; exact q σ F H S Tr.refl
theorem pssd_one {a : DS} (h : PS X st (rdS X.K a)) : PSs X [st] (rdS X.K a) := pss_one h
theorem pssd_cons {a b : DS} (h : PS X st (rdS X.K a)) (k : PSs X rest (rdS X.K b)) : PSs X (st :: rest) (rdS X.K (dSeq a b)) := PSs.conv (pss_cons h k) fun D σ H ⟨B, env, F, o, S, hd, q⟩ => by
  obtain ⟨o1, h1, hd⟩ := obind hd
  refine ⟨B, env, F, o1, S, h1, ?_⟩
  cases o1 with
  | nx e => exact fun σ1 F1 H1 S1 T1 => ⟨B, e, F1, o, S1, hd, q.later T1⟩
  | bk e => cases hd; exact q
  | ct e => cases hd; exact q
  | rt r e => cases hd; exact q
theorem psd_pass : PS X (.Pass pos) (rdS X.K dNext) := PS.conv ps_pass fun D σ H ⟨B, env, F, o, S, hd, q⟩ => by cases hd; exact q σ F H S Tr.refl
theorem psd_break : PS X (.Break pos) (rdS X.K fun env => some (.bk env)) := PS.conv ps_break fun D σ H ⟨B, env, F, o, S, hd, q⟩ => by cases hd; exact q σ F H S Tr.refl
theorem psd_continue : PS X (.Continue pos) (rdS X.K fun env => some (.ct env)) := PS.conv ps_continue fun D σ H ⟨B, env, F, o, S, hd, q⟩ => by cases hd; exact q σ F H S Tr.refl
variable {e : Expr} {d : DE}
@[simp] def dExpr (d : DE) : DS := fun env => (d env).bind fun (_, e) => some (.nx e)
theorem psd_expr (he : PE X e (rdE X.K d)) (hs : swapsWith e none pos.line X.env = pure false := by rfl) : PS X (.Expr e pos) (rdS X.K (dExpr d)) := PS.conv (ps_expr he hs) fun D σ H ⟨B, env, F, o, S, hd, q⟩ => by
  obtain ⟨⟨r1, e1⟩, h1, hd⟩ := obind hd
  cases hd
  exact ⟨B, env, F, r1, e1, S, h1, fun v F1 H1 S1 T1 _ => q σ F1 H1 S1 T1⟩
/-- what is handed back: a list or dict of one's own goes out -/
@[simp] def outR (r : Rs) (env : Ev) : Option (Rs × Ev) := match r with
  | .slot i => match env[i]? with
    | some (.val d) => some (.val d, env)
    | some (.own d) => some (.fresh d, env.set i .un)
    | _ => none
  | r => some (r, env)
@[simp] def dRet (d : DE) : DS := fun env => (d env).bind fun (r, e) => (outR r e).bind fun (r', e') => some (.rt r' e')
theorem SR.unset {K : PySem.W.Frag} {B F H : Hp} {env : Ev} {σ : St} (S : SR K B env F σ H) (i : Nat) : SR K B (env.set i .un) F σ H := by
  have get : ∀ {j : Nat} {s : Sl}, (env.set i .un)[j]? = some s → s = .un ∨ (j ≠ i ∧ env[j]? = some s) := fun {j s} e => by
    by_cases ij : i = j
    · subst ij
      by_cases hl : i < env.length
      · rw [List.getElem?_set_self hl] at e; cases e; exact .inl rfl
      · rw [List.getElem?_eq_none (by rw [List.length_set]; omega)] at e; cases e
    · rw [List.getElem?_set_ne ij] at e; exact .inr ⟨fun z => ij z.symm, e⟩
  refine ⟨by rw [List.length_set]; exact S.len, S.old, S.sub, fun j s e => ?_, fun j k s t a ne e1 e2 h1 h2 z1 z2 => ?_⟩
  · rcases get e with rfl | ⟨_, e⟩
    · trivial
    · exact S.slot j s e
  · rcases get e1 with rfl | ⟨_, e1⟩
    · cases h1
    · rcases get e2 with rfl | ⟨_, e2⟩
      · cases h2
      · exact S.sep j k s t a ne e1 e2 h1 h2 z1 z2
theorem out_ok {K : PySem.W.Frag} {B F H : Hp} {env : Ev} {σ : St} {e0 : Ev} {σ0 : St} {F0 H0 : Hp} {r r' : Rs} {v : V} {env' : Ev} (S : SR K B env F σ H) (hB : ∀ a, H0 a = none → B a = none) (t : Tr e0 σ0 F0 H0 env σ F H) (q : RR K H0 env F σ H r v) (h : outR r env = some (r', env')) :
    SR K B env' F σ H ∧ Tr e0 σ0 F0 H0 env' σ F H ∧ RR K B env' F σ H r' v := by
  cases r with
  | val d => cases h; exact ⟨S, t, q⟩
  | fresh d => cases h; exact ⟨S, t, q.back hB⟩
  | slot i =>
    have h : (match env[i]? with
      | some (.val d) => some (Rs.val d, env)
      | some (.own d) => some (Rs.fresh d, env.set i .un)
      | _ => none) = some (r', env') := h
    have q : σ[i]? = some (some v) := q
    cases e : env[i]? with
    | none => rw [e] at h; cases h
    | some s =>
      rw [e] at h
      have hl : i < env.length := (List.getElem?_eq_some_iff.mp e).1
      cases s with
      | un => cases h
      | io d' => cases h
      | lk d' => cases h
      | val d' =>
        cases h
        obtain ⟨v', e1, r⟩ := S.slot i _ e
        rw [q] at e1; cases e1
        exact ⟨S, t, r⟩
      | own d' =>
        cases h
        obtain ⟨a, e1, L, nb⟩ := S.slot i _ e
        rw [q] at e1; cases e1
        have get : ∀ {j : Nat} {s : Sl}, (env.set i .un)[j]? = some s → s.held = true → j ≠ i ∧ env[j]? = some s := fun {j s} e2 hh => by
          by_cases ij : i = j
          · subst ij; rw [List.getElem?_set_self hl] at e2; cases e2; cases hh
          · rw [List.getElem?_set_ne ij] at e2; exact ⟨fun z => ij z.symm, e2⟩
        refine ⟨S.unset i, ⟨t.mono, t.keep, t.dom, fun b z => ?_, fun b z => ?_, fun j d2 z => ?_, fun j d2 z => ?_⟩, a, rfl, nb, fun z => ?_, L⟩
        · obtain ⟨j, s, e2, m, z⟩ := z
          exact t.own b ⟨j, s, (get e2 (Sl.mt_held m)).2, m, z⟩
        · obtain ⟨j, s, e2, m, z⟩ := z
          exact t.held b ⟨j, s, (get e2 m).2, m, z⟩
        · obtain ⟨z1, z2⟩ := t.lks j d2 z
          exact ⟨by rw [List.getElem?_set_ne fun ij => by subst ij; rw [e] at z1; cases z1]; exact z1, z2⟩
        · obtain ⟨⟨d3, z1⟩, z2⟩ := t.ios j d2 z
          exact ⟨⟨d3, by rw [List.getElem?_set_ne fun ij => by subst ij; rw [e] at z1; cases z1]; exact z1⟩, z2⟩
        · obtain ⟨j, s, e2, m, z⟩ := z
          obtain ⟨ne, e2⟩ := get e2 m
          exact S.sep j i s _ a ne e2 e m rfl z q
theorem psd_ret (he : PE X e (rdE X.K d)) : PS X (.Return (some e) pos) (rdS X.K (dRet d)) := PS.conv (ps_ret he) fun D σ H ⟨B, env, F, o, S, hd, q⟩ => by
  obtain ⟨⟨r1, e1⟩, h1, hd⟩ := obind hd
  obtain ⟨⟨r2, e2⟩, h2, hd⟩ := obind hd
  cases hd
  refine ⟨B, env, F, r1, e1, S, h1, fun v F1 H1 S1 T1 R1 => ?_⟩
  obtain ⟨S2, T2, R2⟩ := out_ok S1 S.old T1 R1 h2
  exact q v σ F1 H1 S2 T2 R2
@[simp] def dIfS (t : DT) (a b : DS) : DS := fun env => (t env).bind fun (c, e) => if c = true then a e else b e
theorem psd_if {c : Expr} {t : DT} {sa sb : List Stmt} {a b : DS} (ht : PT X c (rdT X.K t)) (ha : PSs X sa (rdS X.K a)) (hb : PSs X sb (rdS X.K b)) : PS X (.If c sa sb pos) (rdS X.K (dIfS t a b)) := PS.conv (ps_if ht ha hb) fun D σ H ⟨B, env, F, o, S, hd, q⟩ => by
  obtain ⟨⟨c1, e1⟩, h1, hd⟩ := obind hd
  refine ⟨B, env, F, c1, e1, S, h1, fun F1 H1 S1 T1 => ?_⟩
  cases c1 with
  | true => exact ⟨B, e1, F1, o, S1, hd, q.later T1⟩
  | false => exact ⟨B, e1, F1, o, S1, hd, q.later T1⟩
/-- name = e -/
@[simp] def dAsg (i : Nat) (d : DE) : DS := fun env => (d env).bind fun (r, e) => (put i r e).bind fun e' => some (.nx e')
theorem asg_ok {K : PySem.W.Frag} {i : Nat} {d : DE} {D : Ends} {σ : St} {H : Hp} (h : rdS K (dAsg i d) D σ H) : rdE K d σ H fun x H1 => D.nx (σ.set i (some x)) H1 := by
  obtain ⟨B, env, F, o, S, hd, q⟩ := h
  obtain ⟨⟨r1, e1⟩, h1, hd⟩ := obind hd
  obtain ⟨e2, h2, hd⟩ := obind hd
  cases hd
  refine ⟨B, env, F, r1, e1, S, h1, fun v F1 H1 S1 T1 R1 => ?_⟩
  obtain ⟨F2, S2, T2⟩ := put_ok S1 S.old T1 R1 h2
  exact q _ F2 H1 S2 T2
theorem psd_set (i : Nat) {x : Str} {p' : Pos} (h : PS X (.Assign [.Name x p'] e pos) (tAsg (rdE X.K d) (gName i))) : PS X (.Assign [.Name x p'] e pos) (rdS X.K (dAsg i d)) := PS.conv h fun _ _ _ h => asg_ok h
/-- name op= e on things that do not change -/
theorem psd_aug {i : Nat} {x : Str} {op : Operator} {p' : Pos} {r : R2} {sem : D → D → Option Rs} (hN : X.N.Nodup) (hi : X.N[i]? = some x) (hx : Loc X.env.scope x) (he : PE X e (rdE X.K d)) (ho : OpR X (inplaceOp op) r) (hs : BinOK X.K r sem)
    (hf : X.fn x = true ∨ X.env.scope.names.lookup x = some .local := by first | exact .inl rfl | exact .inr rfl) : PS X (.AugAssign (.Name x p') op e pos) (rdS X.K (dAsg i (dBin sem (dVar i) d))) :=
  PS.conv (ps_aug hN hi hx he ho hf) fun D σ H h => by
    have h2 := two_ok hs (asg_ok h)
    obtain ⟨B, env, F, r1, e1, S, h1, q⟩ := h2
    unfold dVar at h1
    cases e0 : env[i]? with
    | none => rw [e0] at h1; cases h1
    | some s =>
      rw [e0] at h1
      have z := S.slot i s e0
      cases s with
      | un => cases h1
      | val d => cases h1; obtain ⟨v, z1, rr⟩ := z; exact ⟨v, z1, q v F H S Tr.refl rr⟩
      | own d => cases h1; obtain ⟨a, z1, rr, _⟩ := z; exact ⟨_, z1, q _ F H S Tr.refl z1⟩
      | io d => cases h1; obtain ⟨a, z1, rr⟩ := z; exact ⟨_, z1, q _ F H S Tr.refl z1⟩
      | lk d => cases h1; obtain ⟨a, z1, rr⟩ := z; exact ⟨_, z1, q _ F H S Tr.refl z1⟩
end

/-! ### targets -/
inductive Tg where
  | name (i : Nat)
  | tup (is : List Nat)
@[simp] def putv (i : Nat) (d : D) (env : Ev) : Option Ev := (env[i]?).bind fun s => if s.free = true then some (env.set i (.val d)) else none
@[simp] def putvs : List Nat → List D → Ev → Option Ev
  | [], [], env => some env
  | i :: is, d :: ds, env => (putv i d env).bind fun e => putvs is ds e
  | _, _, _ => none
@[simp] def setT : Tg → D → Ev → Option Ev
  | .name i, d, env => putv i d env
  | .tup is, .tup ds, env => putvs is ds env
  | _, _, _ => none
@[simp] def Tg.all : Tg → List Nat
  | .name i => [i]
  | .tup is => is
def rdG (K : PySem.W.Frag) (t : Tg) : TG := fun v σ H Q => ∃ B env F d env', SR K B env F σ H ∧ Rep K F d v ∧ setT t d env = some env' ∧
  ∀ σ', SR K B env' F σ' H → Tr env σ F H env' σ' F H → (∀ vs, (∀ i ∈ t.all, i ∈ vs) → wipe σ' vs = wipe σ vs) → Q σ' H
theorem wipe_set {σ : St} {i : Nat} {o : Option V} : ∀ {vs : List Nat}, i ∈ vs → wipe (σ.set i o) vs = wipe σ vs
  | [], h => by cases h
  | j :: vs, h => by
    unfold wipe
    by_cases e : i = j
    · subst e
      by_cases hm : i ∈ vs
      · rw [wipe_set hm]
      · have aux : ∀ ws : List Nat, i ∉ ws → wipe (σ.set i o) ws = (wipe σ ws).set i o := by
          intro ws
          induction ws with
          | nil => intro _; rfl
          | cons w ws ih =>
            intro hw
            have h1 : i ≠ w := fun z => hw (z ▸ List.mem_cons_self)
            have h2 : i ∉ ws := fun z => hw (List.mem_cons_of_mem _ z)
            unfold wipe
            rw [ih h2, List.set_comm _ _ h1]
        rw [aux vs hm, List.set_set]
    · have hm : i ∈ vs := by
        rcases List.mem_cons.mp h with z | z
        · exact absurd z e
        · exact z
      rw [wipe_set hm]
theorem putv_ok {K : PySem.W.Frag} {B F H : Hp} {env env' : Ev} {σ : St} {i : Nat} {d : D} {v : V} (S : SR K B env F σ H) (r : Rep K F d v) (h : putv i d env = some env') : SR K B env' F (σ.set i (some v)) H ∧ Tr env σ F H env' (σ.set i (some v)) F H := by
  obtain ⟨s, h1, h⟩ := obind h
  by_cases hf : s.free = true
  · rw [if_pos hf] at h
    cases h
    exact ⟨S.set (List.getElem?_eq_some_iff.mp h1).1 ⟨v, rfl, r⟩ (fun z => nomatch z), Tr.refl.set S h1 hf rfl fun z => nomatch z⟩
  · rw [if_neg hf] at h; cases h
section
variable {X : Cx} {pos : Pos}
theorem pgd_name {i : Nat} {x : Str} (h : PG X (.Name x pos) (gName i)) : PG X (.Name x pos) (rdG X.K (.name i)) := ⟨fun pins s σ H v u Q I r ⟨B, env, F, d, env', S, rp, hs, q⟩ => by
  obtain ⟨S', T'⟩ := putv_ok S rp hs
  exact h.run pins s σ H v u Q I r (q _ S' T' fun vs hm => wipe_set (hm i (by simp [Tg.all])))⟩
/-- several names in a row -/
def rdGs (K : PySem.W.Frag) (is : List Nat) : TGs := fun vs σ H Q => ∃ B env F ds env', SR K B env F σ H ∧ RepL K F ds vs ∧ putvs is ds env = some env' ∧
  ∀ σ', SR K B env' F σ' H → Tr env σ F H env' σ' F H → (∀ ws, (∀ i ∈ is, i ∈ ws) → wipe σ' ws = wipe σ ws) → Q σ' H
theorem pgsd_nil : PGs X [] (rdGs X.K []) := ⟨fun pins s σ H vs us Q I r ⟨B, env, F, ds, env', S, rp, hs, q⟩ => by
  cases ds with
  | cons _ _ => cases hs
  | nil =>
    cases hs
    cases rp
    exact pgs_nil.run pins s σ H [] us Q I r ⟨rfl, q σ S Tr.refl fun _ _ => rfl⟩⟩
theorem pgsd_cons {i : Nat} {is : List Nat} {x : Str} {es : List Expr} {p : Pos} (h : PG X (.Name x p) (gName i)) (k : PGs X es (rdGs X.K is))
    (hs : (assignEach (.Name x p :: es) X.env).map (·.2) = assign (.Name x p) X.env :: (assignEach es X.env).map (·.2) := by rfl) : PGs X (.Name x p :: es) (rdGs X.K (i :: is)) := ⟨fun pins s σ H vs us Q I r ⟨B, env, F, ds, env', S, rp, hs', q⟩ => by
  cases ds with
  | nil => cases hs'
  | cons d ds =>
    obtain ⟨e1, h1, h2⟩ := obind hs'
    obtain ⟨v, vr, e, r1, r2⟩ := rp
    subst e
    obtain ⟨S1, T1⟩ := putv_ok S r1 h1
    refine (pgs_cons h k hs).run pins s σ H (v :: vr) us Q I r ⟨v, vr, rfl, B, e1, F, ds, env', S1, r2, h2, fun σ' S' T' w => q σ' S' (T1.trans T') fun ws hm => ?_⟩
    rw [w ws fun j hj => hm j (List.mem_cons_of_mem _ hj)]
    exact wipe_set (hm i List.mem_cons_self)⟩
theorem putvs_len : ∀ {is : List Nat} {ds : List D} {env env' : Ev}, putvs is ds env = some env' → ds.length = is.length
  | [], [], _, _, _ => rfl
  | [], _ :: _, _, _, h => by cases h
  | _ :: _, [], _, _, h => by cases h
  | i :: is, d :: ds, env, env', h => by
    obtain ⟨e, _, h⟩ := obind h
    rw [List.length_cons, List.length_cons, putvs_len h]
theorem pgd_tup {es : List Expr} {k : Nat} {is : List Nat} (hc : X.calm = true) (h : PGs X es (rdGs X.K is))
    (hn : (assignEach es X.env).length = is.length := by rfl) (hst : (assignEach es X.env).findIdx? (·.1) = none := by rfl) : PG X (.Tuple es k pos) (rdG X.K (.tup is)) := ⟨fun pins s σ H v u Q I r ⟨B, env, F, d, env', S, rp, hs, q⟩ => by
  cases d with
  | tup ds =>
    obtain ⟨a, xs, e, sq, rl⟩ := rp
    exact (pg_tup hc h hn hst).run pins s σ H v u Q I r ⟨a, xs, e, S.sub.sqT sq, by rw [rl.length]; exact putvs_len hs, B, env, F, ds, env', S, rl, hs, q⟩
  | _ => cases hs⟩
/-- target = e -/
@[simp] def dAsgT (t : Tg) (d : DE) : DS := fun env => (dVal d env).bind fun (r, e) => (r.data e).bind fun x => (setT t x e).bind fun e' => some (.nx e')
theorem psd_asgT {tg e : Expr} {d : DE} {t : Tg} (he : PE X e (rdE X.K d)) (hg : PG X tg (rdG X.K t)) (hs : swapsWithSole [tg] e pos.line X.env = pure false := by rfl) (hw : swappedStores [tg] e X.env = pure none := by rfl)
    (h1 : (assignEach [tg] X.env).map (·.2) = [assign tg X.env] := by rfl) : PS X (.Assign [tg] e pos) (rdS X.K (dAsgT t d)) := PS.conv (ps_asg (ped_val he) hg hs hw h1) fun D σ H ⟨B, env, F, o, S, hd, q⟩ => by
  obtain ⟨⟨r1, e1⟩, h1, hd⟩ := obind hd
  obtain ⟨x, h2, hd⟩ := obind hd
  obtain ⟨e2, h3, hd⟩ := obind hd
  cases hd
  refine ⟨B, env, F, r1, e1, S, h1, fun v F1 H1 S1 T1 R1 => ?_⟩
  have hv : r1 = .val x := by
    obtain ⟨⟨r0, e0⟩, g1, g2⟩ := obind h1
    obtain ⟨⟨x0, e3⟩, g3, g4⟩ := obind g2
    cases g4
    cases h2
    rfl
  subst hv
  exact ⟨B, e1, F1, x, e2, S1, R1, h3, fun σ' S' T' _ => q σ' F1 H1 S' (T1.trans T')⟩
end
end VL
set_option Elab.async false
set_option linter.all false
set_option maxRecDepth 100000
/-! loops and comprehensions -/
namespace VL
open PySem PySem.Spec L2

/-! ### what is walked -/
abbrev DI := Ev → Option (List D × Ev × Option Nat)
/-- the walked list stands still while it is walked -/
def lockE (u : Option Nat) (e : Ev) : Ev := match u with
  | none => e
  | some j => match e[j]? with
    | some (.own d) => e.set j (.lk d)
    | some (.io d) => e.set j (.lk d)
    | _ => e
def unlockE (u : Option Nat) (e0 e : Ev) : Ev := match u with
  | none => e
  | some j => match e0[j]? with
    | some (.own d) => e.set j (.own d)
    | some (.io d) => e.set j (.io d)
    | _ => e
def ItOK (K : PySem.W.Frag) (B : Hp) (u : Option Nat) (e1 : Ev) (σ1 : St) (J : It) (F1 : Hp) (ds : List D) : Prop := ∀ e' σ' F' H', SR K B e' F' σ' H' → Le F1 F' → (∀ j, u = some j → e'[j]? = e1[j]? ∧ σ'[j]? = σ1[j]?) →
  (∀ i, i < ds.length → J.go i H' ∧ ∀ x H'', J.yld i H' x H'' → ∃ d F'', ds[i]? = some d ∧ New F' H' F'' H'' ∧ Rep K F'' d x) ∧ J.stop ds.length H'
def rdI (K : PySem.W.Frag) (d : DI) : TI := fun σ H R => ∃ B env F ds e0 u, SR K B env F σ H ∧ d env = some (ds, e0, u) ∧
  ∀ J F1 H1, SR K B e0 F1 σ H1 → Tr env σ F H e0 σ F1 H1 → ItOK K B u (lockE u e0) σ J F1 ds → R J H1

section
variable {K : PySem.W.Frag} {B F H : Hp} {e0 : Ev} {σ : St}
theorem lock_ok (S : SR K B e0 F σ H) (u : Option Nat) : SR K B (lockE u e0) F σ H := by
  cases u with
  | none => exact S
  | some j =>
    have go : ∀ {d : D} {s : Sl}, e0[j]? = some s → s.held = true → SlRep K B F H (.lk d) σ[j]? → SR K B (e0.set j (.lk d)) F σ H := fun {d s} e hh L => by
      have hl : j < e0.length := (List.getElem?_eq_some_iff.mp e).1
      have back : ∀ {k : Nat} {t : Sl}, (e0.set j (.lk d))[k]? = some t → ∃ t0, e0[k]? = some t0 ∧ (t.held = true → t0.held = true) := fun {k t} q => by
        by_cases jk : j = k
        · subst jk; exact ⟨s, e, fun _ => hh⟩
        · rw [List.getElem?_set_ne jk] at q; exact ⟨t, q, id⟩
      refine ⟨by rw [List.length_set]; exact S.len, S.old, S.sub, fun k t q => ?_, fun k l t v b ne q1 q2 h1 h2 z1 z2 => ?_⟩
      · by_cases jk : j = k
        · subst jk; rw [List.getElem?_set_self hl] at q; cases q; exact L
        · rw [List.getElem?_set_ne jk] at q; exact S.slot k t q
      · obtain ⟨t0, a1, b1⟩ := back q1
        obtain ⟨t1, a2, b2⟩ := back q2
        exact S.sep k l t0 t1 b ne a1 a2 (b1 h1) (b2 h2) z1 z2
    unfold lockE
    cases e : e0[j]? with
    | none => rw [show (match (some j : Option Nat) with | none => e0 | some j => match e0[j]? with | some (.own d) => e0.set j (.lk d) | some (.io d) => e0.set j (.lk d) | _ => e0) = e0 by simp only [e]]; exact S
    | some s =>
      have z := S.slot j s e
      cases s with
      | own d => simp only [e]; obtain ⟨a, e1, L, _⟩ := z; exact go e rfl ⟨a, e1, L⟩
      | io d => simp only [e]; exact go e rfl z
      | un => simp only [e]; exact S
      | val d => simp only [e]; exact S
      | lk d => simp only [e]; exact S
theorem unlock_ok {e : Ev} {F' H' : Hp} {σ' : St} (S0 : SR K B e0 F σ H) (u : Option Nat) (S : SR K B e F' σ' H') (t : Tr (lockE u e0) σ F H e σ' F' H') : SR K B (unlockE u e0 e) F' σ' H' ∧ Tr e0 σ F H (unlockE u e0 e) σ' F' H' ∧ ∀ b, Held (unlockE u e0 e) σ' b → Held e σ' b := by
  cases u with
  | none => exact ⟨S, t, fun _ h => h⟩
  | some j =>
    have same : lockE (some j) e0 = e0 → unlockE (some j) e0 e = e → SR K B (unlockE (some j) e0 e) F' σ' H' ∧ Tr e0 σ F H (unlockE (some j) e0 e) σ' F' H' ∧ ∀ b, Held (unlockE (some j) e0 e) σ' b → Held e σ' b := fun h1 h2 => by
      rw [h1] at t; rw [h2]; exact ⟨S, t, fun _ h => h⟩
    have go : ∀ {d : D} {s : Sl}, e0[j]? = some s → s.mt = true → s.wt d = s → (∀ a, σ'[j]? = some (some (.ref a)) → Live K F' H' d a → SlRep K B F' H' s σ'[j]?) → Tr (e0.set j (.lk d)) σ F H e σ' F' H' → ((∃ d', s = .io d') → True) →
        SR K B (e.set j s) F' σ' H' ∧ Tr e0 σ F H (e.set j s) σ' F' H' ∧ ∀ b, Held (e.set j s) σ' b → Held e σ' b := fun {d s} q0 m hw hs t _ => by
      have hl0 : j < e0.length := (List.getElem?_eq_some_iff.mp q0).1
      obtain ⟨ej, sj⟩ := t.lks j d (by rw [List.getElem?_set_self hl0])
      have hl : j < e.length := (List.getElem?_eq_some_iff.mp ej).1
      obtain ⟨a, za, La⟩ := S.slot j _ ej
      have back : ∀ {k : Nat} {r : Sl}, (e.set j s)[k]? = some r → ∃ r0, e[k]? = some r0 ∧ (r.held = true → r0.held = true) ∧ (k ≠ j → r = r0) := fun {k r} q => by
        by_cases jk : j = k
        · subst jk; exact ⟨_, ej, fun _ => rfl, fun h => absurd rfl h⟩
        · rw [List.getElem?_set_ne jk] at q; exact ⟨r, q, id, fun _ => rfl⟩
      have ownLk : ∀ b, Own (e0.set j (.lk d)) σ b → Own e0 σ b := fun b ⟨k, r, q1, m1, z1⟩ => by
        by_cases jk : j = k
        · subst jk; rw [List.getElem?_set_self hl0] at q1; cases q1; cases m1
        · rw [List.getElem?_set_ne jk] at q1; exact ⟨k, r, q1, m1, z1⟩
      have heldLk : ∀ b, Held (e0.set j (.lk d)) σ b → Held e0 σ b := fun b ⟨k, r, q1, m1, z1⟩ => by
        by_cases jk : j = k
        · subst jk; exact ⟨j, s, q0, Sl.mt_held m, z1⟩
        · rw [List.getElem?_set_ne jk] at q1; exact ⟨k, r, q1, m1, z1⟩
      have heldB : ∀ b, Held (e.set j s) σ' b → Held e σ' b := fun b ⟨k, r, q1, m1, z1⟩ => by
        obtain ⟨r0, a1, b1, _⟩ := back q1
        exact ⟨k, r0, a1, b1 m1, z1⟩
      refine ⟨⟨by rw [List.length_set]; exact S.len, S.old, S.sub, fun k r q => ?_, fun k l r v b ne q1 q2 h1 h2 z1 z2 => ?_⟩, ⟨t.mono, fun b o h n => t.keep b o h fun z => n (ownLk b z), t.dom, fun b h => ?_, fun b h => ?_, fun k d' q => ?_, fun k d' q => ?_⟩, heldB⟩
      · by_cases jk : j = k
        · subst jk; rw [List.getElem?_set_self hl] at q; cases q; exact hs a za La
        · rw [List.getElem?_set_ne jk] at q; exact S.slot k r q
      · obtain ⟨r0, a1, b1, _⟩ := back q1
        obtain ⟨v0, a2, b2, _⟩ := back q2
        exact S.sep k l r0 v0 b ne a1 a2 (b1 h1) (b2 h2) z1 z2
      · obtain ⟨k, r, q1, m1, z1⟩ := h
        by_cases jk : j = k
        · subst jk
          exact .inl ⟨j, s, q0, m, by rw [← sj]; exact z1⟩
        · rw [List.getElem?_set_ne jk] at q1
          rcases t.own b ⟨k, r, q1, m1, z1⟩ with z | z
          · exact .inl (ownLk b z)
          · exact .inr z
      · rcases t.held b (heldB b h) with z | z
        · exact .inl (heldLk b z)
        · exact .inr z
      · have jk : j ≠ k := fun x => by subst x; rw [q0] at q; cases q; cases m
        obtain ⟨w1, w2⟩ := t.lks k d' (by rw [List.getElem?_set_ne jk]; exact q)
        exact ⟨by rw [List.getElem?_set_ne jk]; exact w1, w2⟩
      · by_cases jk : j = k
        · subst jk
          rw [q0] at q; cases q
          exact ⟨⟨d', by rw [List.getElem?_set_self hl]⟩, sj⟩
        · obtain ⟨⟨d2, w1⟩, w2⟩ := t.ios k d' (by rw [List.getElem?_set_ne jk]; exact q)
          exact ⟨⟨d2, by rw [List.getElem?_set_ne jk]; exact w1⟩, w2⟩
    cases q0 : e0[j]? with
    | none => exact same (by simp only [lockE, q0]) (by simp only [unlockE, q0])
    | some s =>
      cases s with
      | un => exact same (by simp only [lockE, q0]) (by simp only [unlockE, q0])
      | val d => exact same (by simp only [lockE, q0]) (by simp only [unlockE, q0])
      | lk d => exact same (by simp only [lockE, q0]) (by simp only [unlockE, q0])
      | own d =>
        have hl : lockE (some j) e0 = e0.set j (.lk d) := by simp only [lockE, q0]
        have hu : unlockE (some j) e0 e = e.set j (.own d) := by simp only [unlockE, q0]
        rw [hl] at t
        rw [hu]
        obtain ⟨a0, z0, _, nb⟩ := S0.slot j _ q0
        have hl0 : j < e0.length := (List.getElem?_eq_some_iff.mp q0).1
        obtain ⟨_, sj⟩ := t.lks j d (by rw [List.getElem?_set_self hl0])
        refine go q0 rfl rfl (fun a za La => ⟨a, za, La, ?_⟩) t fun _ => trivial
        rw [sj, z0] at za
        cases za
        exact nb
      | io d =>
        have hl : lockE (some j) e0 = e0.set j (.lk d) := by simp only [lockE, q0]
        have hu : unlockE (some j) e0 e = e.set j (.io d) := by simp only [unlockE, q0]
        rw [hl] at t
        rw [hu]
        exact go q0 rfl rfl (fun a za La => ⟨a, za, La⟩) t fun _ => trivial
end

/-! ### for -/
@[simp] def Out.map (f : Ev → Ev) : Out → Out
  | .nx e => .nx (f e)
  | .rt r e => .rt r (f e)
  | .bk e => .bk (f e)
  | .ct e => .ct (f e)
def loopS (t : Tg) (db : DS) : List D → Ev → Option Out
  | [], e => some (.nx e)
  | d :: ds, e => (setT t d e).bind fun e1 => (db e1).bind fun o => match o with
    | .nx e2 => loopS t db ds e2
    | .ct e2 => loopS t db ds e2
    | .bk e2 => some (.nx e2)
    | .rt r e2 => some (.rt r e2)
@[simp] def dFor (di : DI) (t : Tg) (db : DS) : DS := fun env => (di env).bind fun (ds, e0, u) => (loopS t db ds (lockE u e0)).bind fun o => some (o.map (unlockE u e0))
section
variable {X : Cx} {pos : Pos}
theorem RR.sameSt {K : PySem.W.Frag} {B : Hp} {e e' : Ev} {F : Hp} {σ : St} {H : Hp} {r : Rs} {v : V} (h : RR K B e F σ H r v) (hh : ∀ b, Held e' σ b → Held e σ b) : RR K B e' F σ H r v := by
  cases r with
  | val d => exact h
  | slot i => exact h
  | fresh d => obtain ⟨a, e, n, nh, l⟩ := h; exact ⟨a, e, n, fun z => nh (hh a z), l⟩
/-- the end of what ran over a locked list -/
theorem EndO.unlock {K : PySem.W.Frag} {B : Hp} {env e0 : Ev} {F F1 : Hp} {σ : St} {H H1 : Hp} {D : Ends} {o : Out} {u : Option Nat} (S0 : SR K B e0 F1 σ H1) (T : Tr env σ F H e0 σ F1 H1) (q : EndO K B env F σ H D (o.map (unlockE u e0))) :
    EndO K B (lockE u e0) F1 σ H1 D o := by
  cases o with
  | nx e => intro σ' F' H' S' T'; obtain ⟨a, b, _⟩ := unlock_ok S0 u S' T'; exact q σ' F' H' a (T.trans b)
  | bk e => intro σ' F' H' S' T'; obtain ⟨a, b, _⟩ := unlock_ok S0 u S' T'; exact q σ' F' H' a (T.trans b)
  | ct e => intro σ' F' H' S' T'; obtain ⟨a, b, _⟩ := unlock_ok S0 u S' T'; exact q σ' F' H' a (T.trans b)
  | rt r e => intro v σ' F' H' S' T' R'; obtain ⟨a, b, c⟩ := unlock_ok S0 u S' T'; exact q v σ' F' H' a (T.trans b) (R'.sameSt c)
theorem lockAt {u : Option Nat} {e0 : Ev} {σ : St} {F H : Hp} {e' : Ev} {σ' : St} {F' H' : Hp} (t : Tr (lockE u e0) σ F H e' σ' F' H') (hu : ∀ j, u = some j → ∃ d, (lockE u e0)[j]? = some (.lk d)) : ∀ j, u = some j → e'[j]? = (lockE u e0)[j]? ∧ σ'[j]? = σ[j]? := fun j h => by
  obtain ⟨d, e⟩ := hu j h
  obtain ⟨a, b⟩ := t.lks j d e
  exact ⟨a.trans e.symm, b⟩
/-- what is locked is locked -/
def LkOK (di : DI) : Prop := ∀ env ds e0 u, di env = some (ds, e0, u) → ∀ j, u = some j → ∃ d, (lockE u e0)[j]? = some (.lk d)
theorem psd_for {tg iter : Expr} {body : List Stmt} {di : DI} {t : Tg} {db : DS} (hp : PassesOwn (model X.prog X.w) X.A X.env X.xe) (hc : X.calm = true) (hi : PI X tg iter (rdI X.K di)) (lk : LkOK di) (hg : PG X tg (rdG X.K t)) (hb : PSs X body (rdS X.K db))
    (hs : ∀ x, foldedSetIterable iter X.env x = pure x := by intro _; rfl) : PS X (.For tg iter body [] pos) (rdS X.K (dFor di t db)) := PS.conv (ps_for hp hc hi hg hb hs) fun D σ H ⟨B, env, F, o, S, hd, q⟩ => by
  obtain ⟨⟨ds, e0, u⟩, h1, hd⟩ := obind hd
  obtain ⟨o1, h2, hd⟩ := obind hd
  cases hd
  refine ⟨B, env, F, ds, e0, u, S, h1, fun J F1 H1 S0 T0 ok => ?_⟩
  have q := EndO.unlock S0 T0 q
  have S1 := lock_ok S0 u
  refine ⟨fun i m σ' H' => m = ds.length - i ∧ i ≤ ds.length ∧ ∃ e' F', SR X.K B e' F' σ' H' ∧ loopS t db (ds.drop i) e' = some o1 ∧ Tr (lockE u e0) σ F1 H1 e' σ' F' H', ⟨ds.length, rfl, Nat.zero_le _, lockE u e0, F1, S1, h2, Tr.refl⟩, ?_⟩
  rintro i m σ' H' ⟨rfl, hi, e', F', S', hl, T'⟩
  obtain ⟨okg, oks⟩ := ok e' σ' F' H' S' T'.mono (lockAt T' (lk env ds e0 u h1))
  by_cases hlt : i < ds.length
  · obtain ⟨go, yl⟩ := okg i hlt
    refine .inr ⟨go, fun σ2 H2 => ∃ e2 F2, SR X.K B e2 F2 σ2 H2 ∧ loopS t db (ds.drop (i + 1)) e2 = some o1 ∧ Tr (lockE u e0) σ F1 H1 e2 σ2 F2 H2, fun σ2 H2 h => ⟨ds.length - (i + 1), by omega, rfl, hlt, h⟩, fun x H'' y => ?_⟩
    obtain ⟨d, F'', hd, n, r⟩ := yl x H'' y
    have e1 : ds.drop i = d :: ds.drop (i + 1) := by
      obtain ⟨h, e⟩ := List.getElem?_eq_some_iff.mp hd
      rw [List.drop_eq_getElem_cons h, e]
    rw [e1] at hl
    obtain ⟨e3, h3, hl⟩ := obind hl
    obtain ⟨o2, h4, hl⟩ := obind hl
    refine ⟨B, e', F'', d, e3, S'.new n, r, h3, fun σ3 S3 T3 _ => ⟨B, e3, F'', o2, S3, h4, ?_⟩⟩
    have T3' := (T'.trans n.tr).trans T3
    cases o2 with
    | nx e4 => exact fun σ4 F4 H4 S4 T4 => ⟨e4, F4, S4, hl, T3'.trans T4⟩
    | ct e4 => exact fun σ4 F4 H4 S4 T4 => ⟨e4, F4, S4, hl, T3'.trans T4⟩
    | bk e4 => cases hl; exact fun σ4 F4 H4 S4 T4 => q σ4 F4 H4 S4 (T3'.trans T4)
    | rt r e4 => cases hl; exact fun v σ4 F4 H4 S4 T4 R4 => q v σ4 F4 H4 S4 (T3'.trans T4) R4
  · have e : i = ds.length := by omega
    subst e
    rw [List.drop_length] at hl
    cases hl
    exact .inl ⟨oks, q σ' F' H' S' T'⟩
end

/-! ### while -/
def whileN (t : DT) (db : DS) : Nat → Ev → Option Out
  | 0, _ => none
  | n + 1, e => (t e).bind fun (b, e1) => if b = true then (db e1).bind fun o => match o with
    | .nx e2 => whileN t db n e2
    | .ct e2 => whileN t db n e2
    | .bk e2 => some (.nx e2)
    | .rt r e2 => some (.rt r e2) else some (.nx e1)
theorem whileN_mono {t : DT} {db : DS} : ∀ {n : Nat} {e : Ev} {o : Out}, whileN t db n e = some o → ∀ m, n ≤ m → whileN t db m e = some o
  | 0, _, _, h, _, _ => by cases h
  | n + 1, e, o, h, m, hm => by
    obtain ⟨m, rfl⟩ : ∃ k, m = k + 1 := ⟨m - 1, by omega⟩
    unfold whileN at h ⊢
    obtain ⟨⟨b, e1⟩, h1, h⟩ := obind h
    rw [h1]
    cases b with
    | false => exact h
    | true =>
      obtain ⟨o1, h2, h⟩ := obind (show (db e1).bind _ = some o from h)
      show (db e1).bind _ = some o
      rw [h2]
      cases o1 with
      | nx e2 => exact whileN_mono h m (by omega)
      | ct e2 => exact whileN_mono h m (by omega)
      | bk e2 => exact h
      | rt r e2 => exact h
open Classical in
noncomputable def dWhile (t : DT) (db : DS) : DS := fun env => if h : ∃ n o, whileN t db n env = some o then whileN t db h.choose env else none
theorem dWhile_iff {t : DT} {db : DS} {env : Ev} {o : Out} : dWhile t db env = some o ↔ ∃ n, whileN t db n env = some o := by
  unfold dWhile
  constructor
  · intro h
    split at h
    · exact ⟨_, h⟩
    · cases h
  · rintro ⟨n, h⟩
    have ex : ∃ n o, whileN t db n env = some o := ⟨n, o, h⟩
    rw [dif_pos ex]
    obtain ⟨o', h'⟩ := ex.choose_spec
    rw [h']
    have a := whileN_mono h (max n ex.choose) (Nat.le_max_left _ _)
    have b := whileN_mono h' (max n ex.choose) (Nat.le_max_right _ _)
    rw [a] at b
    exact b.symm
theorem psd_while {X : Cx} {pos : Pos} {c : Expr} {body : List Stmt} {t : DT} {db : DS} (hp : PassesOwn (model X.prog X.w) X.A X.env X.xe) (ht : PT X c (rdT X.K t)) (hb : PSs X body (rdS X.K db)) : PS X (.While c body [] pos) (rdS X.K (dWhile t db)) :=
  PS.conv (ps_while hp ht hb) fun D σ H ⟨B, env, F, o, S, hd, q⟩ => by
    obtain ⟨n, hn⟩ := dWhile_iff.mp hd
    refine ⟨fun m σ' H' => ∃ e' F', SR X.K B e' F' σ' H' ∧ whileN t db m e' = some o ∧ Tr env σ F H e' σ' F' H', ⟨n, env, F, S, hn, Tr.refl⟩, ?_⟩
    rintro m σ' H' ⟨e', F', S', h, T'⟩
    cases m with
    | zero => cases h
    | succ m =>
      obtain ⟨⟨b, e1⟩, h1, h⟩ := obind h
      refine ⟨B, e', F', b, e1, S', h1, fun F1 H1 S1 T1 => ?_⟩
      have T1' := T'.trans T1
      cases b with
      | false => cases h; exact q σ' F1 H1 S1 T1'
      | true =>
        obtain ⟨o1, h2, h⟩ := obind (show (db e1).bind _ = some o from h)
        refine ⟨fun σ2 H2 => ∃ e2 F2, SR X.K B e2 F2 σ2 H2 ∧ whileN t db m e2 = some o ∧ Tr env σ F H e2 σ2 F2 H2, fun σ2 H2 h => ⟨m, Nat.lt_succ_self m, h⟩, B, e1, F1, o1, S1, h2, ?_⟩
        cases o1 with
        | nx e2 => exact fun σ4 F4 H4 S4 T4 => ⟨e2, F4, S4, h, T1'.trans T4⟩
        | ct e2 => exact fun σ4 F4 H4 S4 T4 => ⟨e2, F4, S4, h, T1'.trans T4⟩
        | bk e2 => cases h; exact fun σ4 F4 H4 S4 T4 => q σ4 F4 H4 S4 (T1'.trans T4)
        | rt r e2 => cases h; exact fun v σ4 F4 H4 S4 T4 R4 => q v σ4 F4 H4 S4 (T1'.trans T4) R4
end VL
set_option Elab.async false
set_option linter.all false
set_option maxRecDepth 100000
/-! comprehensions -/
namespace VL
open PySem PySem.Spec L2

def wipeE (e : Ev) : List Nat → Ev
  | [] => e
  | v :: vs => (wipeE e vs).set v .un
def restE (e0 : Ev) : List Nat → Ev → Ev
  | [], e => e
  | v :: vs, e => (restE e0 vs e).set v (e0[v]?.getD .un)
theorem wipeE_len (e : Ev) : ∀ vs, (wipeE e vs).length = e.length
  | [] => rfl
  | v :: vs => by unfold wipeE; rw [List.length_set, wipeE_len e vs]
theorem restE_len (e0 e : Ev) : ∀ vs, (restE e0 vs e).length = e.length
  | [] => rfl
  | v :: vs => by unfold restE; rw [List.length_set, restE_len e0 e vs]
theorem wipeE_in {e : Ev} {i : Nat} {s : Sl} : ∀ {vs : List Nat}, (wipeE e vs)[i]? = some s → (i ∈ vs ∧ s = .un) ∨ (i ∉ vs ∧ e[i]? = some s)
  | [], h => .inr ⟨by simp, h⟩
  | v :: vs, h => by
    unfold wipeE at h
    by_cases ij : v = i
    · subst ij
      by_cases hl : v < (wipeE e vs).length
      · rw [List.getElem?_set_self hl] at h; cases h; exact .inl ⟨List.mem_cons_self, rfl⟩
      · rw [List.getElem?_eq_none (by rw [List.length_set]; omega)] at h; cases h
    · rw [List.getElem?_set_ne ij] at h
      rcases wipeE_in h with ⟨a, b⟩ | ⟨a, b⟩
      · exact .inl ⟨List.mem_cons_of_mem _ a, b⟩
      · exact .inr ⟨fun z => by rcases List.mem_cons.mp z with z | z; exact ij z.symm; exact a z, b⟩
theorem wipeE_out {e : Ev} {i : Nat} : ∀ {vs : List Nat}, i ∉ vs → (wipeE e vs)[i]? = e[i]?
  | [], _ => rfl
  | v :: vs, h => by
    unfold wipeE
    rw [List.getElem?_set_ne fun (z : v = i) => h (by rw [z]; exact List.mem_cons_self), wipeE_out fun z => h (List.mem_cons_of_mem _ z)]
theorem wipeE_mem {e : Ev} {i : Nat} (hl : i < e.length) : ∀ {vs : List Nat}, i ∈ vs → (wipeE e vs)[i]? = some .un
  | [], h => by cases h
  | v :: vs, h => by
    unfold wipeE
    by_cases ij : v = i
    · subst ij; rw [List.getElem?_set_self (by rw [wipeE_len]; exact hl)]
    · rw [List.getElem?_set_ne ij]
      exact wipeE_mem hl (by rcases List.mem_cons.mp h with z | z; exact absurd z.symm ij; exact z)
theorem wipe_mem {σ : St} {i : Nat} (hl : i < σ.length) : ∀ {vs : List Nat}, i ∈ vs → (wipe σ vs)[i]? = some none
  | [], h => by cases h
  | v :: vs, h => by
    unfold wipe
    by_cases ij : v = i
    · subst ij; rw [List.getElem?_set_self (by rw [wipe_length]; exact hl)]
    · rw [List.getElem?_set_ne ij]
      exact wipe_mem hl (by rcases List.mem_cons.mp h with z | z; exact absurd z.symm ij; exact z)
theorem restE_out {e0 e : Ev} {i : Nat} : ∀ {vs : List Nat}, i ∉ vs → (restE e0 vs e)[i]? = e[i]?
  | [], _ => rfl
  | v :: vs, h => by
    unfold restE
    rw [List.getElem?_set_ne fun (z : v = i) => h (by rw [z]; exact List.mem_cons_self), restE_out fun z => h (List.mem_cons_of_mem _ z)]
theorem restE_mem {e0 e : Ev} {i : Nat} (hl : i < e.length) (he : e0.length = e.length) : ∀ {vs : List Nat}, i ∈ vs → (restE e0 vs e)[i]? = e0[i]?
  | [], h => by cases h
  | v :: vs, h => by
    unfold restE
    by_cases ij : v = i
    · subst ij
      rw [List.getElem?_set_self (by rw [restE_len]; exact hl), List.getElem?_eq_getElem (by omega)]
      rfl
    · rw [List.getElem?_set_ne ij]
      exact restE_mem hl he (by rcases List.mem_cons.mp h with z | z; exact absurd z.symm ij; exact z)
theorem wipe_wipe {σ : St} {vs ws : List Nat} (h : ∀ i ∈ ws, i ∈ vs) : wipe (wipe σ ws) vs = wipe σ vs := by
  refine List.ext_getElem? fun i => ?_
  by_cases hi : i ∈ vs
  · by_cases hl : i < σ.length
    · rw [wipe_mem (by rw [wipe_length]; exact hl) hi, wipe_mem hl hi]
    · rw [List.getElem?_eq_none (by rw [wipe_length, wipe_length]; omega), List.getElem?_eq_none (by rw [wipe_length]; omega)]
  · rw [wipe_out hi, wipe_out hi, wipe_out fun z => hi (h i z)]

section
variable {K : PySem.W.Frag} {B F H : Hp} {e : Ev} {σ : St}
theorem wipe_at {vs : List Nat} {i : Nat} {s : Sl} (h : (wipeE e vs)[i]? = some s) (hs : s ≠ .un) : i ∉ vs ∧ e[i]? = some s ∧ (wipe σ vs)[i]? = σ[i]? := by
  rcases wipeE_in h with ⟨_, b⟩ | ⟨a, b⟩
  · exact absurd b hs
  · exact ⟨a, b, wipe_out a⟩
theorem Sl.held_un {s : Sl} (h : s.held = true) : s ≠ .un := fun z => by subst z; cases h
theorem SR.wipe (S : SR K B e F σ H) (vs : List Nat) : SR K B (wipeE e vs) F (L2.wipe σ vs) H := by
  refine ⟨by rw [wipeE_len, wipe_length]; exact S.len, S.old, S.sub, fun i s h => ?_, fun i j s t a ne q1 q2 h1 h2 z1 z2 => ?_⟩
  · by_cases hs : s = .un
    · subst hs; trivial
    · obtain ⟨_, b, c⟩ := wipe_at (σ := σ) h hs
      rw [c]; exact S.slot i s b
  · obtain ⟨_, b1, c1⟩ := wipe_at (σ := σ) q1 (Sl.held_un h1)
    obtain ⟨_, b2, c2⟩ := wipe_at (σ := σ) q2 (Sl.held_un h2)
    exact S.sep i j s t a ne b1 b2 h1 h2 (c1 ▸ z1) (c2 ▸ z2)
theorem own_wipe {vs : List Nat} {b : Addr} (h : Own (wipeE e vs) (wipe σ vs) b) : Own e σ b := by
  obtain ⟨i, s, q, m, z⟩ := h
  obtain ⟨_, b1, c1⟩ := wipe_at (σ := σ) q (Sl.held_un (Sl.mt_held m))
  exact ⟨i, s, b1, m, c1 ▸ z⟩
theorem held_wipe {vs : List Nat} {b : Addr} (h : Held (wipeE e vs) (wipe σ vs) b) : Held e σ b := by
  obtain ⟨i, s, q, m, z⟩ := h
  obtain ⟨_, b1, c1⟩ := wipe_at (σ := σ) q (Sl.held_un m)
  exact ⟨i, s, b1, m, c1 ▸ z⟩
/-- behind a comprehension: its own names are as they were -/
theorem rest_ok {e2 : Ev} {F2 H2 : Hp} {vs : List Nat} (S0 : SR K B e F σ H) (S2 : SR K B e2 F2 (wipe σ vs) H2) (T : Tr (wipeE e vs) (wipe σ vs) F H e2 (wipe σ vs) F2 H2) :
    SR K B (restE e vs e2) F2 σ H2 ∧ Tr e σ F H (restE e vs e2) σ F2 H2 ∧ ∀ b, Held (restE e vs e2) σ b → Held e σ b ∨ Held e2 (wipe σ vs) b := by
  have hl2 : e2.length = σ.length := by rw [S2.len, wipe_length]
  have hl : e.length = e2.length := by rw [S0.len, hl2]
  have get : ∀ {i : Nat} {s : Sl}, (restE e vs e2)[i]? = some s → (i ∈ vs ∧ e[i]? = some s) ∨ (i ∉ vs ∧ e2[i]? = some s ∧ (wipe σ vs)[i]? = σ[i]?) := fun {i s} q => by
    by_cases hi : i ∈ vs
    · have h2 : i < e2.length := by
        have := (List.getElem?_eq_some_iff.mp q).1
        rw [restE_len] at this; exact this
      rw [restE_mem h2 hl hi] at q
      exact .inl ⟨hi, q⟩
    · rw [restE_out hi] at q
      exact .inr ⟨hi, q, wipe_out hi⟩
  -- a slot of the comprehension's own that holds a thing: nobody else holds it within
  have alone : ∀ {i : Nat} {s : Sl} {a : Addr}, i ∈ vs → e[i]? = some s → s.held = true → σ[i]? = some (some (.ref a)) → ¬ Held (wipeE e vs) (wipe σ vs) a := fun {i s a} hi q hh z ⟨j, t, q2, h2, z2⟩ => by
    obtain ⟨nj, b1, c1⟩ := wipe_at (σ := σ) q2 (Sl.held_un h2)
    rw [c1] at z2
    exact S0.sep i j s t a (fun x => nj (x ▸ hi)) q b1 hh h2 z z2
  have lv : ∀ {i : Nat} {s : Sl} {a : Addr} {d : D}, i ∈ vs → e[i]? = some s → s.held = true → σ[i]? = some (some (.ref a)) → Live K F H d a → Live K F2 H2 d a := fun {i s a d} hi q hh z L => by
    obtain ⟨o, ho⟩ := L.2.at
    obtain ⟨k1, k2⟩ := T.keep a o ho fun w => alone hi q hh z w.held
    exact ⟨k2.trans L.1, L.2.mono T.mono (k1.trans ho.symm)⟩
  have heldOr : ∀ b, Held (restE e vs e2) σ b → Held e σ b ∨ Held e2 (wipe σ vs) b := fun b ⟨i, s, q, m, z⟩ => by
    rcases get q with ⟨_, q⟩ | ⟨_, q, c⟩
    · exact .inl ⟨i, s, q, m, z⟩
    · exact .inr ⟨i, s, q, m, c.trans z⟩
  refine ⟨⟨by rw [restE_len]; exact hl2, S2.old, S2.sub, fun i s q => ?_, fun i j s t a ne q1 q2 h1 h2 z1 z2 => ?_⟩, ⟨T.mono, fun b o h n => T.keep b o h fun w => n (own_wipe w), T.dom, fun b h => ?_, fun b h => ?_, fun i d q => ?_, fun i d q => ?_⟩, heldOr⟩
  · rcases get q with ⟨hi, q⟩ | ⟨_, q, c⟩
    · have z := S0.slot i s q
      cases s with
      | un => trivial
      | val d => obtain ⟨v, e1, r⟩ := z; exact ⟨v, e1, Rep.mono T.mono _ r⟩
      | own d => obtain ⟨a, e1, L, nb⟩ := z; exact ⟨a, e1, lv hi q rfl e1 L, nb⟩
      | io d => obtain ⟨a, e1, L⟩ := z; exact ⟨a, e1, lv hi q rfl e1 L⟩
      | lk d => obtain ⟨a, e1, L⟩ := z; exact ⟨a, e1, lv hi q rfl e1 L⟩
    · rw [← c]; exact S2.slot i s q
  · have cross : ∀ {i j : Nat} {s t : Sl}, i ∈ vs → e[i]? = some s → s.held = true → σ[i]? = some (some (.ref a)) → e2[j]? = some t → t.held = true → (wipe σ vs)[j]? = some (some (.ref a)) → False := fun {i j s t} hi q hh z q2 h2 z2 => by
      rcases T.held a ⟨j, t, q2, h2, z2⟩ with w | w
      · exact alone hi q hh z w
      · obtain ⟨_, o, ho⟩ := S0.heldAt ⟨i, s, q, hh, z⟩
        rw [ho] at w; cases w
    rcases get q1 with ⟨i1, q1⟩ | ⟨n1, q1, c1⟩
    · rcases get q2 with ⟨i2, q2⟩ | ⟨n2, q2, c2⟩
      · exact S0.sep i j s t a ne q1 q2 h1 h2 z1 z2
      · exact cross i1 q1 h1 z1 q2 h2 (c2.trans z2)
    · rcases get q2 with ⟨i2, q2⟩ | ⟨n2, q2, c2⟩
      · exact cross i2 q2 h2 z2 q1 h1 (c1.trans z1)
      · exact S2.sep i j s t a ne q1 q2 h1 h2 (c1.trans z1) (c2.trans z2)
  · obtain ⟨i, s, q, m, z⟩ := h
    rcases get q with ⟨_, q⟩ | ⟨_, q, c⟩
    · exact .inl ⟨i, s, q, m, z⟩
    · rcases T.own b ⟨i, s, q, m, c.trans z⟩ with w | w
      · exact .inl (own_wipe w)
      · exact .inr w
  · rcases heldOr b h with w | w
    · exact .inl w
    · rcases T.held b w with w | w
      · exact .inl (held_wipe w)
      · exact .inr w
  · refine ⟨?_, rfl⟩
    by_cases hi : i ∈ vs
    · rw [restE_mem (by have := (List.getElem?_eq_some_iff.mp q).1; omega) hl hi]; exact q
    · rw [restE_out hi]
      exact (T.lks i d (by rw [wipeE_out hi]; exact q)).1
  · refine ⟨?_, rfl⟩
    by_cases hi : i ∈ vs
    · exact ⟨d, by rw [restE_mem (by have := (List.getElem?_eq_some_iff.mp q).1; omega) hl hi]; exact q⟩
    · rw [restE_out hi]
      exact (T.ios i d (by rw [wipeE_out hi]; exact q)).1
end

/-! ### the list that is made -/
structure CI (K : PySem.W.Frag) (B : Hp) (ew : Ev) (σw : St) (F1 H1 : Hp) (L : Addr) (e : Ev) (σ : St) (F H : Hp) (acc : List D) : Prop where
  sr : SR K B e F σ H
  tr : Tr ew σw F1 H1 e σ F H
  at' : ∃ vs, H L = some (.lst vs) ∧ RepL K F acc vs
  free : F L = none
  nh : ¬ Held e σ L
section
variable {K : PySem.W.Frag} {B F1 H1 : Hp} {ew : Ev} {σw : St} {L : Addr} {e e' : Ev} {σ σ' : St} {F H F' H' : Hp} {acc : List D}
theorem CI.step (c : CI K B ew σw F1 H1 L e σ F H acc) (S : SR K B e' F' σ' H') (t : Tr e σ F H e' σ' F' H') : CI K B ew σw F1 H1 L e' σ' F' H' acc := by
  obtain ⟨vs, h, r⟩ := c.at'
  obtain ⟨k1, k2⟩ := t.keep L _ h fun w => c.nh w.held
  refine ⟨S, c.tr.trans t, ⟨vs, k1, RepL.mono t.mono _ r⟩, k2.trans c.free, fun w => ?_⟩
  rcases t.held L w with w | w
  · exact c.nh w
  · rw [h] at w; cases w
theorem CI.wipe (c : CI K B ew σw F1 H1 L e σ F H acc) (vs : List Nat) (hv : ∀ i ∈ vs, ∀ s, ew[i]? = some s → s = .un) : CI K B ew σw F1 H1 L (wipeE e vs) (L2.wipe σ vs) F H acc := by
  refine ⟨c.sr.wipe vs, ⟨c.tr.mono, c.tr.keep, c.tr.dom, fun b w => c.tr.own b (own_wipe w), fun b w => c.tr.held b (held_wipe w), fun i d q => ?_, fun i d q => ?_⟩, c.at', c.free, fun w => c.nh (held_wipe w)⟩
  · have hi : i ∉ vs := fun z => nomatch hv i z _ q
    obtain ⟨a, b⟩ := c.tr.lks i d q
    exact ⟨by rw [wipeE_out hi]; exact a, by rw [wipe_out hi]; exact b⟩
  · have hi : i ∉ vs := fun z => nomatch hv i z _ q
    obtain ⟨a, b⟩ := c.tr.ios i d q
    exact ⟨by rw [wipeE_out hi]; exact a, by rw [wipe_out hi]; exact b⟩
theorem CI.push (c : CI K B ew σw F1 H1 L e σ F H acc) (hL : H1 L = none) {d : D} {v : V} {vs : List V} (h : H L = some (.lst vs)) (r : Rep K F d v) : CI K B ew σw F1 H1 L e σ F (upd H L (.lst (vs ++ [v]))) (acc ++ [d]) := by
  obtain ⟨vs', h', rl⟩ := c.at'
  rw [h] at h'; cases h'
  have nn : ∀ b, upd H L (.lst (vs ++ [v])) b = none → H b = none := fun b q => by
    by_cases eb : b = L
    · subst eb; rw [upd_same] at q; cases q
    · rw [upd_ne eb] at q; exact q
  refine ⟨⟨c.sr.len, fun a q => c.sr.old a (nn a q), fun a o q => ?_, fun i s q => ?_, c.sr.sep⟩, ⟨c.tr.mono, fun a o q n => ?_, fun a o q => ?_, c.tr.own, c.tr.held, c.tr.lks, c.tr.ios⟩, ⟨_, upd_same, rl.append (RepL.cons r RepL.nil)⟩, c.free, c.nh⟩
  · rw [upd_ne (ne_of_none q c.free)]; exact c.sr.sub a o q
  · have z := c.sr.slot i s q
    have lv : ∀ {a d}, s.held = true → σ[i]? = some (some (.ref a)) → Live K F H d a → Live K F (upd H L (.lst (vs ++ [v]))) d a := fun {a d} hh hs l =>
      ⟨l.1, l.2.mono (Le.refl F) (upd_ne fun w => c.nh ⟨i, s, q, hh, by rw [← w]; exact hs⟩)⟩
    cases s with
    | un => trivial
    | val d => exact z
    | own d => obtain ⟨a, e1, l, nb⟩ := z; exact ⟨a, e1, lv rfl e1 l, nb⟩
    | io d => obtain ⟨a, e1, l⟩ := z; exact ⟨a, e1, lv rfl e1 l⟩
    | lk d => obtain ⟨a, e1, l⟩ := z; exact ⟨a, e1, lv rfl e1 l⟩
  · obtain ⟨k1, k2⟩ := c.tr.keep a o q n
    exact ⟨by rw [upd_ne (ne_of_none q hL)]; exact k1, k2⟩
  · obtain ⟨o', k⟩ := c.tr.dom a o q
    exact ⟨o', by rw [upd_ne (ne_of_none q hL)]; exact k⟩
end

/-! ### [elt for target in iter if test] -/
abbrev DK := Ev → List D → Option (Ev × List D)
def loopK (vs : List Nat) (t : Tg) (stp : DK) : List D → Ev → List D → Option (List D × Ev)
  | [], e, acc => some (acc, e)
  | d :: ds, e, acc => (setT t d e).bind fun e1 => (stp e1 acc).bind fun (e2, acc2) => loopK vs t stp ds (wipeE e2 vs) acc2
@[simp] def stp1 (dt : DT) (de : DE) : DK := fun e acc => (dt e).bind fun (b, e2) => if b = true then (dVal de e2).bind fun (r, e3) => (r.data e3).bind fun y => if acc.length < LN then some (e3, acc ++ [y]) else none else some (e2, acc)
def lcR (di : DI) (vs : List Nat) (t : Tg) (stp : DK) : DE := fun env => (di env).bind fun (ds, e0, u) => (loopK vs t stp ds (wipeE (lockE u e0) vs) []).bind fun (out, e2) => some (.fresh (.lst out), unlockE u e0 (restE (lockE u e0) vs e2))
def dLc (di : DI) (vs : List Nat) (t : Tg) (dt : DT) (de : DE) : DE := lcR di vs t (stp1 dt de)
@[simp] def dYes : DT := fun e => some (true, e)
def rdTs (K : PySem.W.Frag) (d : DT) : TT := rdT K d

theorem dVal_shape {de : DE} {e e3 : Ev} {r : Rs} (h : dVal de e = some (r, e3)) : ∃ y, r = .val y := by
  obtain ⟨⟨r0, e0⟩, g1, g2⟩ := obind h
  obtain ⟨⟨x0, e4⟩, g3, g4⟩ := obind g2
  cases g4
  exact ⟨_, rfl⟩
section
variable {K : PySem.W.Frag}
/-- one turn's step in the middle: from the state behind the target to Nx -/
def StpOK (K : PySem.W.Frag) (vs : List Nat) (stp : DK) (mid : (Hp → Prop) → Addr → St → Hp → Prop) : Prop := ∀ (B : Hp) (ew : Ev) (σw : St) (F1 H1 : Hp) (L : Addr) (e : Ev) (σ : St) (F H : Hp) (acc : List D) (e2 : Ev) (acc2 : List D) (Nx : Hp → Prop), H1 L = none → (∀ i ∈ vs, ∀ s, ew[i]? = some s → s = .un) →
  CI K B ew σw F1 H1 L e σ F H acc → stp e acc = some (e2, acc2) → (∀ σ2 F2 H2, wipe σ2 vs = wipe σ vs → CI K B ew σw F1 H1 L e2 σ2 F2 H2 acc2 → Nx H2) → mid Nx L σ H
def mid1 (K : PySem.W.Frag) (dt : DT) (de : DE) : (Hp → Prop) → Addr → St → Hp → Prop := fun Nx L σ H => rdT K dt σ H fun b H3 => if b = true then rdE K (dVal de) σ H3 fun y H4 => ∃ acc, H4 L = some (.lst acc) ∧ acc.length < sizeLine ∧ Nx (upd H4 L (.lst (acc ++ [y]))) else Nx H3
theorem stp1_mid {B : Hp} {ew : Ev} {σw : St} {F1 H1 : Hp} {L : Addr} {e : Ev} {σ : St} {F H : Hp} {acc : List D} {e2 : Ev} {acc2 : List D} {Nx : Hp → Prop} {dt : DT} {de : DE} (hL : H1 L = none) (c : CI K B ew σw F1 H1 L e σ F H acc) (hd : stp1 dt de e acc = some (e2, acc2))
    (nx : ∀ F2 H2, Le F F2 → CI K B ew σw F1 H1 L e2 σ F2 H2 acc2 → Nx H2) : mid1 K dt de Nx L σ H := by
  obtain ⟨⟨b, e3⟩, h1, hd⟩ := obind hd
  refine ⟨B, e, F, b, e3, c.sr, h1, fun F3 H3 S3 T3 => ?_⟩
  have c3 := c.step S3 T3
  cases b with
  | false => cases hd; exact nx F3 H3 T3.mono c3
  | true =>
    obtain ⟨⟨r, e4⟩, h2, hd⟩ := obind (show (dVal de e3).bind _ = some (e2, acc2) from hd)
    obtain ⟨y, h3, hd⟩ := obind hd
    have hd : (if acc.length < LN then some (e4, acc ++ [y]) else none) = some (e2, acc2) := hd
    by_cases hz : acc.length < LN
    case neg => rw [if_neg hz] at hd; cases hd
    rw [if_pos hz] at hd
    cases hd
    obtain ⟨y', rfl⟩ := dVal_shape h2
    cases h3
    refine ⟨B, e3, F3, _, e2, S3, h2, fun v F4 H4 S4 T4 R4 => ?_⟩
    have c4 := c3.step S4 T4
    obtain ⟨vs, hv, rl⟩ := c4.at'
    exact ⟨vs, hv, by rw [LN_eq, rl.length]; exact hz, nx F4 _ (T3.mono.trans T4.mono) (c4.push hL hv R4)⟩
theorem stp1_ok {vs : List Nat} {dt : DT} {de : DE} : StpOK K vs (stp1 dt de) (mid1 K dt de) := fun B ew σw F1 H1 L e σ F H acc e2 acc2 Nx hL _ c hd nx => stp1_mid hL c hd fun F2 H2 _ c2 => nx σ F2 H2 rfl c2
/-- a turn of a loop that makes a list -/
theorem turn_ok {B : Hp} {ew : Ev} {σw : St} {F1 H1 : Hp} {L : Addr} {vs : List Nat} {t : Tg} {stp : DK} {mid : (Hp → Prop) → Addr → St → Hp → Prop} (hm : StpOK K vs stp mid) (ht : ∀ i ∈ t.all, i ∈ vs) (hL : H1 L = none) (hv : ∀ i ∈ vs, ∀ s, ew[i]? = some s → s = .un)
    {e : Ev} {σ : St} {F H F'' H'' : Hp} {acc : List D} {d : D} {ds : List D} {out : List D × Ev} {x : V} {Nx : Hp → Prop} (c : CI K B ew σw F1 H1 L e σ F H acc) (n : New F H F'' H'') (r : Rep K F'' d x) (hl : loopK vs t stp (d :: ds) e acc = some out)
    (nx : ∀ e2 acc2 F2 H2, CI K B ew σw F1 H1 L e2 (wipe σ vs) F2 H2 acc2 → loopK vs t stp ds e2 acc2 = some out → Nx H2) : rdG K t x σ H'' fun σ2 H2 => wipe σ2 vs = wipe σ vs ∧ mid Nx L σ2 H2 := by
  obtain ⟨e1, h1, hl⟩ := obind hl
  obtain ⟨⟨e2, acc2⟩, h2, hl⟩ := obind hl
  have c1 := c.step (c.sr.new n) n.tr
  refine ⟨B, e, F'', d, e1, c1.sr, r, h1, fun σ2 S2 T2 w2 => ⟨w2 vs ht, ?_⟩⟩
  have c2 := c1.step S2 T2
  refine hm B ew σw F1 H1 L e1 σ2 F'' H'' acc e2 acc2 Nx hL hv c2 h2 fun σ3 F3 H3 w3 c3 => ?_
  have c4 := c3.wipe vs hv
  rw [w3, w2 vs ht] at c4
  exact nx _ _ _ _ c4 hl
def tMake (wi : TI) (K : PySem.W.Frag) (t : Tg) (vs : List Nat) (mid : (Hp → Prop) → Addr → St → Hp → Prop) : TE := fun σ H Q => wi σ H fun J H1 => ∀ L, H1 L = none → ∃ W : Nat → Nat → Hp → Prop, (∃ m, W 0 m (upd H1 L (.lst []))) ∧ ∀ i m H, W i m H →
  (J.stop i H ∧ Q (.ref L) H) ∨ (J.go i H ∧ ∃ Nx : Hp → Prop, (∀ H', Nx H' → ∃ m', m' < m ∧ W (i + 1) m' H') ∧ ∀ x H', J.yld i H x H' → rdG K t x (wipe σ vs) H' fun σ2 H2 => wipe σ2 vs = wipe σ vs ∧ mid Nx L σ2 H2)
theorem wipe_self {σ : St} {vs : List Nat} : wipe (wipe σ vs) vs = wipe σ vs := wipe_wipe fun _ h => h
theorem lcR_ok {di : DI} {vs : List Nat} {t : Tg} {stp : DK} {mid : (Hp → Prop) → Addr → St → Hp → Prop} (hm : StpOK K vs stp mid) (ht : ∀ i ∈ t.all, i ∈ vs) (lk : LkOK di) (hj : ∀ env ds e0 j, di env = some (ds, e0, some j) → j ∉ vs) {σ : St} {H : Hp} {Q : VK}
    (h : rdE K (lcR di vs t stp) σ H Q) : tMake (rdI K di) K t vs mid σ H Q := by
  obtain ⟨B, env, F, r, env', S, hd, q⟩ := h
  obtain ⟨⟨ds, e0, u⟩, h1, hd⟩ := obind hd
  obtain ⟨⟨out, e2⟩, h2, hd⟩ := obind hd
  cases hd
  refine ⟨B, env, F, ds, e0, u, S, h1, fun J F1 H1 S0 T0 ok L hL => ?_⟩
  have S1 := lock_ok S0 u
  have hv : ∀ i ∈ vs, ∀ s, (wipeE (lockE u e0) vs)[i]? = some s → s = .un := fun i hi s q => by
    rcases wipeE_in q with ⟨_, e⟩ | ⟨n, _⟩
    · exact e
    · exact absurd hi n
  have c0 : CI K B (wipeE (lockE u e0) vs) (wipe σ vs) F1 H1 L (wipeE (lockE u e0) vs) (wipe σ vs) F1 (upd H1 L (.lst [])) [] := by
    have n := New.put (o := .lst []) S1.sub hL
    have Sw := S1.wipe vs
    refine ⟨Sw.new n, n.tr, ⟨[], upd_same, RepL.nil⟩, S1.sub.nn hL, fun w => ?_⟩
    obtain ⟨_, o, ho⟩ := Sw.heldAt w
    rw [hL] at ho; cases ho
  refine ⟨fun i m H' => m = ds.length - i ∧ i ≤ ds.length ∧ ∃ e' F' acc, CI K B (wipeE (lockE u e0) vs) (wipe σ vs) F1 H1 L e' (wipe σ vs) F' H' acc ∧ loopK vs t stp (ds.drop i) e' acc = some (out, e2), ⟨ds.length, rfl, Nat.zero_le _, _, F1, [], c0, h2⟩, ?_⟩
  rintro i m H' ⟨rfl, hi, e', F', acc, c, hl⟩
  obtain ⟨okg, oks⟩ := ok e' _ F' H' c.sr c.tr.mono fun j hu => by
    subst hu
    have nj := hj env ds e0 j h1
    obtain ⟨d, ed⟩ := lk env ds e0 _ h1 j rfl
    obtain ⟨a, b⟩ := c.tr.lks j d (by rw [wipeE_out nj]; exact ed)
    exact ⟨a.trans ed.symm, b.trans (wipe_out nj)⟩
  by_cases hlt : i < ds.length
  · obtain ⟨go, yl⟩ := okg i hlt
    refine .inr ⟨go, fun H2 => ∃ e2' F2 acc2, CI K B (wipeE (lockE u e0) vs) (wipe σ vs) F1 H1 L e2' (wipe σ vs) F2 H2 acc2 ∧ loopK vs t stp (ds.drop (i + 1)) e2' acc2 = some (out, e2), fun H2 h => ⟨ds.length - (i + 1), by omega, rfl, hlt, h⟩, fun x H'' y => ?_⟩
    obtain ⟨d, F'', hd, n, r⟩ := yl x H'' y
    have e1 : ds.drop i = d :: ds.drop (i + 1) := by
      obtain ⟨h, e⟩ := List.getElem?_eq_some_iff.mp hd
      rw [List.drop_eq_getElem_cons h, e]
    rw [e1] at hl
    have z := turn_ok (Nx := fun H2 => ∃ e2' F2 acc2, CI K B (wipeE (lockE u e0) vs) (wipe σ vs) F1 H1 L e2' (wipe σ vs) F2 H2 acc2 ∧ loopK vs t stp (ds.drop (i + 1)) e2' acc2 = some (out, e2)) hm ht hL hv c n r hl fun e3 acc3 F3 H3 c3 h3 => ⟨e3, F3, acc3, by rw [wipe_self] at c3; exact c3, h3⟩
    rw [wipe_self] at z
    exact z
  · have e : i = ds.length := by omega
    subst e
    rw [List.drop_length] at hl
    have hl : some (acc, e') = some (out, e2) := hl
    cases hl
    obtain ⟨Sr, Tr', hr⟩ := rest_ok S1 c.sr c.tr
    have Tr' : Tr (lockE u e0) σ F1 H1 (restE (lockE u e0) vs e2) σ F' H' := Tr'
    obtain ⟨Su, Tu, hu⟩ := unlock_ok S0 u Sr Tr'
    obtain ⟨vs', hL', rl⟩ := c.at'
    refine .inl ⟨oks, q _ F' H' Su (T0.trans Tu) ⟨L, rfl, T0.dom' hL, fun w => ?_, c.free, vs', hL', rl⟩⟩
    rcases hr L (hu L w) with w | w
    · obtain ⟨_, o, ho⟩ := S1.heldAt w
      rw [hL] at ho; cases ho
    · exact c.nh w
end

/-! ### the rules -/
section
variable {X : Cx}
abbrev AllB (X : Cx) (scope : Scope) (P : Cx → Prop) : Prop := ∀ (s : Shared) (H : Hp) (C : Addr) (cl : List (Str × Addr)) (fp : List Addr), P (X.blk s H scope (compEnvC scope cl C X.env) fp)
theorem ptsd_nil : PTs X [] (rdT X.K dYes) := ⟨fun pins s σ H Q I ⟨B, env, F, b, env', S, hd, q⟩ => pts_nil.run pins s σ H Q I (by cases hd; exact q F H S Tr.refl)⟩
theorem ptsd_one {c : Expr} {d : DT} (h : PT X c (rdT X.K d)) : PTs X [c] (rdT X.K d) := pts_one h
theorem ped_lc {elt tg iter : Expr} {ifs : List Expr} {scope : Scope} {own : List (Str × Nat)} {pos : Pos} {di : DI} {t : Tg} {dt : DT} {de : DE} (hc : X.calm = true) (hN : X.N.Nodup) (hi : PI X tg iter (rdI X.K di)) (lk : LkOK di) (hj : ∀ env ds e0 j, di env = some (ds, e0, some j) → j ∉ own.map (·.2))
    (ok : BlkOk X.N X.env.scope scope own) (ha : ∀ i ∈ t.all, i ∈ own.map (·.2)) (hg : AllB X scope fun Y => PG Y tg (rdG X.K t)) (ht : AllB X scope fun Y => PTs Y ifs (rdT X.K dt)) (he : AllB X scope fun Y => PE Y elt (rdE X.K de))
    (hs : ∀ x, foldedSetIterable iter X.env x = pure x := by intro _; rfl) : PE X (.ListComp elt [⟨tg, iter, ifs, 0⟩] scope pos) (rdE X.K (dLc di (own.map (·.2)) t dt de)) :=
  PE.conv (pe_lc hc hN hi ok hg ht (fun s H C cl fp => ped_val (he s H C cl fp)) hs) fun σ H Q h => lcR_ok stp1_ok ha lk hj h
theorem psd_setLc {i : Nat} {y : Str} {py spos : Pos} {elt tg iter : Expr} {ifs : List Expr} {scope : Scope} {own : List (Str × Nat)} {pos : Pos} {di : DI} {t : Tg} {dt : DT} {de : DE} (hc : X.calm = true) (hN : X.N.Nodup) (hy : X.N[i]? = some y) (hyl : X.env.scope.names.lookup y = some .local)
    (hsw : swapsWith (.ListComp elt [⟨tg, iter, ifs, 0⟩] scope pos) (some (.Name y py)) spos.line X.env = pure true) (hi : PI X tg iter (rdI X.K di)) (lk : LkOK di) (hj : ∀ env ds e0 j, di env = some (ds, e0, some j) → j ∉ own.map (·.2))
    (ok : BlkOk X.N X.env.scope scope own) (ha : ∀ i ∈ t.all, i ∈ own.map (·.2)) (hg : AllB X scope fun Y => PG Y tg (rdG X.K t)) (ht : AllB X scope fun Y => PTs Y ifs (rdT X.K dt)) (he : AllB X scope fun Y => PE Y elt (rdE X.K de))
    (hs : ∀ x, foldedSetIterable iter X.env x = pure x := by intro _; rfl) : PS X (.Assign [.Name y py] (.ListComp elt [⟨tg, iter, ifs, 0⟩] scope pos) spos) (rdS X.K (dAsg i (dLc di (own.map (·.2)) t dt de))) :=
  PS.conv (ps_setLc hc hN hy hyl hsw hi ok hg ht (fun s H C cl fp => ped_val (he s H C cl fp)) hs) fun D σ H h => lcR_ok stp1_ok ha lk hj (asg_ok h)

/-! ### two clauses -/
def stp2 (dt : DT) (di1 : DI) (vs1 : List Nat) (t1 : Tg) (dt1 : DT) (de : DE) : DK := fun e acc => (dt e).bind fun (b, e2) => if b = true then (di1 e2).bind fun (ds1, e3, u) => if u = none then (loopK vs1 t1 (stp1 dt1 de) ds1 (wipeE e3 vs1) acc).bind fun (acc2, e4) => some (e4, acc2) else none else some (e2, acc)
def mid2 (K : PySem.W.Frag) (dt : DT) (di1 : DI) (vs1 : List Nat) (t1 : Tg) (dt1 : DT) (de : DE) : (Hp → Prop) → Addr → St → Hp → Prop := fun Nx D σ2 H2 => rdT K dt σ2 H2 fun b H3 =>
    if b = true then rdI K di1 σ2 H3 fun J1 H4 => ∃ W1 : Nat → Nat → Hp → Prop, (∃ m, W1 0 m H4) ∧ ∀ j k H, W1 j k H →
      (J1.stop j H ∧ Nx H) ∨ (J1.go j H ∧ ∃ Nx1 : Hp → Prop, (∀ H', Nx1 H' → ∃ k', k' < k ∧ W1 (j + 1) k' H') ∧ ∀ x H', J1.yld j H x H' → rdG K t1 x (wipe σ2 vs1) H' fun σ3 H5 => wipe σ3 vs1 = wipe σ2 vs1 ∧ mid1 K dt1 de Nx1 D σ3 H5)
    else Nx H3
theorem stp2_ok {K : PySem.W.Frag} {vs : List Nat} {dt : DT} {di1 : DI} {vs1 : List Nat} {t1 : Tg} {dt1 : DT} {de : DE} (h1s : ∀ i ∈ vs1, i ∈ vs) (ht1 : ∀ i ∈ t1.all, i ∈ vs1) : StpOK K vs (stp2 dt di1 vs1 t1 dt1 de) (mid2 K dt di1 vs1 t1 dt1 de) := by
  intro B ew σw F1 H1 L e σ F H acc e2 acc2 Nx hL hv c hd nx
  obtain ⟨⟨b, e3⟩, h1, hd⟩ := obind hd
  refine ⟨B, e, F, b, e3, c.sr, h1, fun F3 H3 S3 T3 => ?_⟩
  have c3 := c.step S3 T3
  cases b with
  | false => cases hd; exact nx σ F3 H3 rfl c3
  | true =>
    obtain ⟨⟨ds1, e4, u⟩, h2, hd⟩ := obind (show (di1 e3).bind _ = some (e2, acc2) from hd)
    by_cases hu : u = none
    case neg =>
      have hd : (if u = none then (loopK vs1 t1 (stp1 dt1 de) ds1 (wipeE e4 vs1) acc).bind fun (acc2, e4) => some (e4, acc2) else none) = some (e2, acc2) := hd
      rw [if_neg hu] at hd; cases hd
    subst hu
    obtain ⟨⟨acc3, e5⟩, h3, hd⟩ := obind (show (loopK vs1 t1 (stp1 dt1 de) ds1 (wipeE e4 vs1) acc).bind _ = some (e2, acc2) from hd)
    cases hd
    refine ⟨B, e3, F3, ds1, e4, none, S3, h2, fun J F4 H4 S4 T4 ok => ?_⟩
    have hv1 : ∀ i ∈ vs1, ∀ s, ew[i]? = some s → s = .un := fun i hi => hv i (h1s i hi)
    have c4 := (c3.step S4 T4).wipe vs1 hv1
    refine ⟨fun j k H' => k = ds1.length - j ∧ j ≤ ds1.length ∧ ∃ e' F' acc', CI K B ew σw F1 H1 L e' (wipe σ vs1) F' H' acc' ∧ Le F4 F' ∧ loopK vs1 t1 (stp1 dt1 de) (ds1.drop j) e' acc' = some (acc2, e2), ⟨ds1.length, rfl, Nat.zero_le _, _, F4, acc, c4, Le.refl _, h3⟩, ?_⟩
    rintro j k H' ⟨rfl, hi, e', F', acc', c', l', hl⟩
    obtain ⟨okg, oks⟩ := ok e' _ F' H' c'.sr l' (fun _ z => nomatch z)
    by_cases hlt : j < ds1.length
    · obtain ⟨go, yl⟩ := okg j hlt
      refine .inr ⟨go, fun H2 => ∃ e2' F2 acc2', CI K B ew σw F1 H1 L e2' (wipe σ vs1) F2 H2 acc2' ∧ Le F4 F2 ∧ loopK vs1 t1 (stp1 dt1 de) (ds1.drop (j + 1)) e2' acc2' = some (acc2, e2), fun H2 h => ⟨ds1.length - (j + 1), by omega, rfl, hlt, h⟩, fun x H'' y => ?_⟩
      obtain ⟨d, F'', hd, n, r⟩ := yl x H'' y
      have e1 : ds1.drop j = d :: ds1.drop (j + 1) := by
        obtain ⟨h, e⟩ := List.getElem?_eq_some_iff.mp hd
        rw [List.drop_eq_getElem_cons h, e]
      rw [e1] at hl
      obtain ⟨e6, g1, hl⟩ := obind hl
      obtain ⟨⟨e7, acc7⟩, g2, hl⟩ := obind hl
      have c1 := c'.step (c'.sr.new n) n.tr
      refine ⟨B, e', F'', d, e6, c1.sr, r, g1, fun σ2 S2 T2 w2 => ?_⟩
      have ww := w2 vs1 ht1
      rw [wipe_self] at ww
      refine ⟨ww, ?_⟩
      have c2 := c1.step S2 T2
      refine stp1_mid (B := B) (ew := ew) (σw := σw) (F1 := F1) (H1 := H1) hL c2 g2 fun F8 H8 l8 c8 => ?_
      have c9 := c8.wipe vs1 hv1
      rw [ww] at c9
      exact ⟨_, F8, acc7, c9, (l'.trans n.mono).trans l8, hl⟩
    · have e9 : j = ds1.length := by omega
      subst e9
      rw [List.drop_length] at hl
      have hl : some (acc', e') = some (acc2, e2) := hl
      cases hl
      exact .inl ⟨oks, nx _ F' H' (wipe_wipe h1s) c'⟩
end
end VL
set_option Elab.async false
set_option linter.all false
set_option maxRecDepth 100000
/-! argument lists, displays, calls -/
namespace VL
open PySem PySem.Spec L2

section
variable {X : Cx} {e : Expr} {es : List Expr} {pos : Pos}
@[simp] def dNil : DA := fun env => some ([], env)
@[simp] def dCons (d : DE) (ds : DA) : DA := fun env => (d env).bind fun (r, e) => (ds e).bind fun (rs, e') => some (r :: rs, e')
theorem pad_nil : PA X [] (rdA X.K dNil) := PA.conv pa_nil fun σ H Q ⟨B, env, F, rs, env', S, hd, q⟩ => by cases hd; exact q [] F H S Tr.refl .nil
theorem pad_cons {d : DE} {ds : DA} (h : PE X e (rdE X.K d)) (k : PA X es (rdA X.K ds)) (hs : starEach (e :: es) X.env = (false, eval e X.env) :: starEach es X.env := by rfl) : PA X (e :: es) (rdA X.K (dCons d ds)) :=
  PA.conv (pa_cons h k hs) fun σ H Q ⟨B, env, F, rs, env', S, hd, q⟩ => by
    obtain ⟨⟨r1, e1⟩, h1, hd⟩ := obind hd
    obtain ⟨⟨rs1, e2⟩, h2, hd⟩ := obind hd
    cases hd
    refine ⟨B, env, F, r1, e1, S, h1, fun v F1 H1 S1 T1 R1 => ⟨B, e1, F1, rs1, env', S1, h2, fun vs F2 H2 S2 T2 R2 => ?_⟩⟩
    refine q (v :: vs) F2 H2 S2 (T1.trans T2) (.cons (R1.step T2) (R2.back fun a z => T1.dom' z) fun d hr k d' hk hv => ?_)
    subst hr
    obtain ⟨a, ea, _, _, L⟩ := R1
    obtain ⟨w, hw, a2, ea2, n2, _⟩ := R2.get hk
    rw [hv] at hw
    cases hw
    rw [ea] at ea2
    cases ea2
    obtain ⟨o, ho⟩ := L.2.at
    rw [n2] at ho; cases ho
/-- data alone -/
@[simp] def vals : List Rs → Option (List D)
  | [] => some []
  | .val d :: rs => (vals rs).bind fun ds => some (d :: ds)
  | _ => none
theorem vals_rep {K : PySem.W.Frag} {H0 : Hp} {env : Ev} {F : Hp} {σ : St} {H : Hp} : ∀ {rs : List Rs} {vs : List V} {ds : List D}, RRs K H0 env F σ H rs vs → vals rs = some ds → RepL K F ds vs
  | _, _, _, .nil, h => by cases h; rfl
  | r :: rs, _, _, .cons h t _, e => by
    cases r with
    | val d =>
      obtain ⟨ds', e1, e2⟩ := obind e
      cases e2
      exact ⟨_, _, rfl, h, vals_rep t e1⟩
    | fresh d => cases e
    | slot i => cases e
@[simp] def dTup (da : DA) : DE := fun env => (da env).bind fun (rs, e) => (vals rs).bind fun ds => if ds.length ≤ LN then some (.val (.tup ds), e) else none
@[simp] def dLst (da : DA) : DE := fun env => (da env).bind fun (rs, e) => (vals rs).bind fun ds => if ds.length ≤ LN then some (.fresh (.lst ds), e) else none
theorem ped_tup {x1 : Nat} {da : DA} (h : PA X es (rdA X.K da)) : PE X (.Tuple es x1 pos) (rdE X.K (dTup da)) := PE.conv (pe_tup h) fun σ H Q ⟨B, env, F, r, env', S, hd, q⟩ => by
  obtain ⟨⟨rs, e1⟩, h1, hd⟩ := obind hd
  obtain ⟨ds, h2, hd⟩ := obind hd
  by_cases hz : ds.length ≤ LN
  case neg => rw [if_neg hz] at hd; cases hd
  rw [if_pos hz] at hd
  cases hd
  refine ⟨B, env, F, rs, env', S, h1, fun vs F1 H1 S1 T1 R1 => ⟨?_, fun p hp => ?_⟩⟩
  · rw [LN_eq, (vals_rep R1 h2).length]; exact hz
  · have n := New.puts (o := .tup vs) S1.sub hp
    exact q _ _ _ (S1.new n) (T1.trans n.tr) (NR.tuple S1.sub hp (vals_rep R1 h2))
theorem ped_lst {da : DA} (h : PA X es (rdA X.K da)) : PE X (.List es pos) (rdE X.K (dLst da)) := PE.conv (pe_lst h) fun σ H Q ⟨B, env, F, r, env', S, hd, q⟩ => by
  obtain ⟨⟨rs, e1⟩, h1, hd⟩ := obind hd
  obtain ⟨ds, h2, hd⟩ := obind hd
  by_cases hz : ds.length ≤ LN
  case neg => rw [if_neg hz] at hd; cases hd
  rw [if_pos hz] at hd
  cases hd
  refine ⟨B, env, F, rs, env', S, h1, fun vs F1 H1 S1 T1 R1 => ⟨?_, fun p hp => ?_⟩⟩
  · rw [LN_eq, (vals_rep R1 h2).length]; exact hz
  · have n := New.put (o := .lst vs) S1.sub hp
    exact q _ _ _ (S1.new n) (T1.trans n.tr) ((NR.rr S1 (NR.list S1.sub hp (vals_rep R1 h2))).back fun a z => T1.dom' z)
/-- a known thing called with values -/
@[simp] def pks (env : Ev) : List Rs → Option (List D)
  | [] => some []
  | r :: rs => (r.data env).bind fun d => (pks env rs).bind fun ds => some (d :: ds)
theorem pks_ok {K : PySem.W.Frag} {B H0 : Hp} {env : Ev} {F : Hp} {σ : St} {H : Hp} (S : SR K B env F σ H) : ∀ {rs : List Rs} {vs : List V} {ds : List D}, RRs K H0 env F σ H rs vs → pks env rs = some ds → PkL K F H ds vs
  | _, _, _, .nil, h => by cases h; exact .nil
  | r :: rs, _, _, .cons h t _, e => by
    obtain ⟨d, e1, e⟩ := obind e
    obtain ⟨ds', e2, e⟩ := obind e
    cases e
    exact .cons (RR.pk S h e1) (pks_ok S t e2)
@[simp] def dApp (sem : List D → Option Rs) (da : DA) : DE := fun env => (da env).bind fun (rs, e) => (pks e rs).bind fun ds => (sem ds).bind fun o => some (o, e)
theorem app_vals {K : PySem.W.Frag} {r : List V → Hp → VK → Prop} {sem : List D → Option Rs} (hs : CallOK K r sem) {da : DA} {σ : St} {H : Hp} {Q : VK} (h : rdE K (dApp sem da) σ H Q) : rdA K da σ H fun vs H1 => r vs H1 Q := by
  obtain ⟨B, env, F, o, env', S, hd, q⟩ := h
  obtain ⟨⟨rs, e1⟩, h1, hd⟩ := obind hd
  obtain ⟨ds, h2, hd⟩ := obind hd
  obtain ⟨o', h3, hd⟩ := obind hd
  cases hd
  refine ⟨B, env, F, rs, env', S, h1, fun vs F1 H1 S1 T1 R1 => ?_⟩
  exact hs F1 H1 vs ds o S1.sub (pks_ok S1 R1 h2) h3 Q fun v F' H' n nr => q v F' H' (S1.new n) (T1.trans n.tr) ((nr.rr S1).back fun a z => T1.dom' z)
variable {x : Str} {p : Pos} {id T : String} {r : List V → Hp → VK → Prop} {sem : List D → Option Rs} {da : DA}
theorem ped_callB (hc : CallR X (.builtin id) r) (hs : CallOK X.K r sem) (hg : Gl X x) (hm : X.mg x = none) (hv : bootBuiltins x = some (.builtin id)) (ha : PA X (e :: es) (rdA X.K da)) (hn : x ≠ "__name__" := by decide) (hdb : (x == ("__debug__" : Str)) = false := by decide)
    (he : starEach (e :: es) X.env = (false, eval e X.env) :: starEach es X.env := by rfl) (hpl : (backTo pos (starEach es X.env)).any (·.1) = false := by rfl) : PE X (.Call (.Name x p) (e :: es) [] pos) (rdE X.K (dApp sem da)) :=
  PE.conv (pe_callB hc hg hm hv ha hn hdb he hpl) fun _ _ _ h => app_vals hs h
theorem ped_callTy (hc : CallR X (.type T) r) (hs : CallOK X.K r sem) (hg : Gl X x) (hm : X.mg x = none) (hv : bootBuiltins x = some (.type T)) (ha : PA X (e :: es) (rdA X.K da)) (hn : x ≠ "__name__" := by decide) (hdb : (x == ("__debug__" : Str)) = false := by decide)
    (he : starEach (e :: es) X.env = (false, eval e X.env) :: starEach es X.env := by rfl) (hpl : (backTo pos (starEach es X.env)).any (·.1) = false := by rfl) : PE X (.Call (.Name x p) (e :: es) [] pos) (rdE X.K (dApp sem da)) :=
  PE.conv (pe_callTy hc hg hm hv ha hn hdb he hpl) fun _ _ _ h => app_vals hs h
end

/-! ### what a def promises -/
inductive Ar where
  | val (d : D)
  | io (d : D)
abbrev Fn := List Ar → Option (Rs × List D)
def ArRep (K : PySem.W.Frag) (F H : Hp) : List Ar → List V → Prop
  | [], vs => vs = []
  | .val d :: as, vs => ∃ v r, vs = v :: r ∧ Rep K F d v ∧ ArRep K F H as r
  | .io d :: as, vs => ∃ a r, vs = .ref a :: r ∧ Live K F H d a ∧ ArRep K F H as r
def ioA : List Ar → List V → List Addr
  | .io _ :: as, .ref a :: vs => a :: ioA as vs
  | .val _ :: as, _ :: vs => ioA as vs
  | _, _ => []
inductive Lives (K : PySem.W.Frag) (F H : Hp) : List D → List Addr → Prop
  | nil : Lives K F H [] []
  | cons {d : D} {ds : List D} {a : Addr} {as : List Addr} : Live K F H d a → Lives K F H ds as → Lives K F H (d :: ds) (a :: as)
/-- behind a call -/
structure Post (K : PySem.W.Frag) (F H : Hp) (A : List Addr) (r : Rs) (outs : List D) (v : V) (F' H' : Hp) : Prop where
  mono : Le F F'
  sub : Le F' H'
  keep : ∀ b o, H b = some o → b ∉ A → H' b = some o ∧ F' b = F b
  dom : ∀ b o, H b = some o → ∃ o', H' b = some o'
  res : NR K H F' H' r v
  outs : Lives K F' H' outs A
def spD (K : PySem.W.Frag) (n : Nat) (fn : Fn) : Sp := fun vs H Q _ => ∃ F as r outs, vs.length = n ∧ Le F H ∧ ArRep K F H as vs ∧ (ioA as vs).Nodup ∧ fn as = some (r, outs) ∧ ∀ v F' H', Post K F H (ioA as vs) r outs v F' H' → Q v H'

@[simp] def arSl : Ar → Sl
  | .val d => .val d
  | .io d => .io d
@[simp] def outsOf : List Ar → Ev → Option (List D)
  | [], _ => some []
  | .val _ :: as, _ :: e => outsOf as e
  | .io _ :: as, .io d :: e => (outsOf as e).bind fun ds => some (d :: ds)
  | _, _ => none
@[simp] def noSlot : Rs → Bool
  | .slot _ => false
  | _ => true
/-- a body run: n names in all -/
def runF (n : Nat) (body : DS) : Fn := fun as => (body (as.map arSl ++ List.replicate (n - as.length) .un)).bind fun o => match o with
  | .rt r e => if noSlot r = true then (outsOf as e).bind fun ds => some (r, ds) else none
  | .nx e => (outsOf as e).bind fun ds => some (.val .non, ds)
  | _ => none
section
variable {K : PySem.W.Frag} {F H : Hp}
theorem ArRep.length : ∀ {as : List Ar} {vs : List V}, ArRep K F H as vs → vs.length = as.length
  | [], _, h => by cases h; rfl
  | .val d :: as, _, h => by obtain ⟨v, r, e, _, h⟩ := h; rw [e, List.length_cons, List.length_cons, ArRep.length h]
  | .io d :: as, _, h => by obtain ⟨v, r, e, _, h⟩ := h; rw [e, List.length_cons, List.length_cons, ArRep.length h]
theorem ArRep.get : ∀ {as : List Ar} {vs : List V} {i : Nat} {a : Ar}, ArRep K F H as vs → as[i]? = some a → (∃ d v, a = .val d ∧ vs[i]? = some v ∧ Rep K F d v) ∨ (∃ d b, a = .io d ∧ vs[i]? = some (.ref b) ∧ Live K F H d b ∧ b ∈ ioA as vs)
  | [], _, _, _, _, e => by simp at e
  | .val d :: as, _, 0, _, h, e => by
    obtain ⟨v, r, e1, r1, h⟩ := h
    simp at e; subst e e1
    exact .inl ⟨d, v, rfl, rfl, r1⟩
  | .io d :: as, _, 0, _, h, e => by
    obtain ⟨v, r, e1, r1, h⟩ := h
    simp at e; subst e e1
    exact .inr ⟨d, v, rfl, rfl, r1, by simp [ioA]⟩
  | .val d :: as, _, i + 1, _, h, e => by
    obtain ⟨v, r, e1, r1, h⟩ := h
    subst e1
    rcases h.get (i := i) (by simpa using e) with ⟨d', w, a1, a2, a3⟩ | ⟨d', w, a1, a2, a3, a4⟩
    · exact .inl ⟨d', w, a1, by simpa using a2, a3⟩
    · exact .inr ⟨d', w, a1, by simpa using a2, a3, by simpa [ioA] using a4⟩
  | .io d :: as, _, i + 1, _, h, e => by
    obtain ⟨v, r, e1, r1, h⟩ := h
    subst e1
    rcases h.get (i := i) (by simpa using e) with ⟨d', w, a1, a2, a3⟩ | ⟨d', w, a1, a2, a3, a4⟩
    · exact .inl ⟨d', w, a1, by simpa using a2, a3⟩
    · exact .inr ⟨d', w, a1, by simpa using a2, a3, by simp [ioA, a4]⟩
theorem ArRep.apart : ∀ {as : List Ar} {vs : List V} {i j : Nat} {d d' : D} {b : Addr}, ArRep K F H as vs → (ioA as vs).Nodup → i ≠ j → as[i]? = some (.io d) → as[j]? = some (.io d') → vs[i]? = some (.ref b) → vs[j]? = some (.ref b) → False
  | [], _, _, _, _, _, _, _, _, _, e, _, _, _ => by simp at e
  | .val _ :: as, _, 0, _, _, _, _, _, _, _, e, _, _, _ => by simp at e
  | .val _ :: as, _, i + 1, 0, _, _, _, _, _, _, _, e, _, _ => by simp at e
  | .val _ :: as, _, i + 1, j + 1, d, d', b, h, nd, ne, e1, e2, z1, z2 => by
    obtain ⟨v, r, e3, _, h⟩ := h
    subst e3
    exact h.apart (i := i) (j := j) (by simpa [ioA] using nd) (by omega) (by simpa using e1) (by simpa using e2) (by simpa using z1) (by simpa using z2)
  | .io _ :: as, _, 0, 0, _, _, _, _, _, ne, _, _, _, _ => ne rfl
  | .io _ :: as, _, 0, j + 1, d, d', b, h, nd, ne, e1, e2, z1, z2 => by
    obtain ⟨v, r, e3, _, h⟩ := h
    subst e3
    simp at z1
    subst z1
    rcases h.get (i := j) (by simpa using e2) with ⟨d2, w, a1, _⟩ | ⟨d2, w, a1, a2, a3, a4⟩
    · cases a1
    · rw [show r[j]? = some (.ref v) by simpa using z2] at a2
      cases a2
      exact (List.nodup_cons.mp (by simpa [ioA] using nd)).1 a4
  | .io _ :: as, _, i + 1, 0, d, d', b, h, nd, ne, e1, e2, z1, z2 => by
    obtain ⟨v, r, e3, _, h⟩ := h
    subst e3
    simp at z2
    subst z2
    rcases h.get (i := i) (by simpa using e1) with ⟨d2, w, a1, _⟩ | ⟨d2, w, a1, a2, a3, a4⟩
    · cases a1
    · rw [show r[i]? = some (.ref v) by simpa using z1] at a2
      cases a2
      exact (List.nodup_cons.mp (by simpa [ioA] using nd)).1 a4
  | .io _ :: as, _, i + 1, j + 1, d, d', b, h, nd, ne, e1, e2, z1, z2 => by
    obtain ⟨v, r, e3, _, h⟩ := h
    subst e3
    exact h.apart (i := i) (j := j) (List.nodup_cons.mp (by simpa [ioA] using nd)).2 (by omega) (by simpa using e1) (by simpa using e2) (by simpa using z1) (by simpa using z2)
theorem start_get {as : List Ar} {n i : Nat} {s : Sl} (h : (as.map arSl ++ List.replicate (n - as.length) .un)[i]? = some s) : (∃ a, as[i]? = some a ∧ s = arSl a) ∨ s = .un := by
  by_cases hi : i < as.length
  · rw [List.getElem?_append_left (by simpa using hi), List.getElem?_map] at h
    cases e : as[i]? with
    | none => rw [e] at h; cases h
    | some a => rw [e] at h; cases h; exact .inl ⟨a, rfl, rfl⟩
  · rw [List.getElem?_append_right (by simpa using hi)] at h
    rw [List.getElem?_replicate] at h
    split at h
    · cases h; exact .inr rfl
    · cases h
theorem startσ_get {N : List Str} {vs : List V} {i : Nat} {v : V} (h : vs[i]? = some v) : (start N vs)[i]? = some (some v) := by
  have hi := (List.getElem?_eq_some_iff.mp h).1
  unfold L2.start
  rw [List.getElem?_append_left (by simpa using hi), List.getElem?_map, h]
  rfl
theorem SR.start {as : List Ar} {vs : List V} {N : List Str} (l : Le F H) (r : ArRep K F H as vs) (nd : (ioA as vs).Nodup) (hn : as.length ≤ N.length) : SR K H (as.map arSl ++ List.replicate (N.length - as.length) .un) F (L2.start N vs) H := by
  have hl := r.length
  refine ⟨?_, fun _ h => h, l, fun i s h => ?_, fun i j s t a ne h1 h2 m1 m2 z1 z2 => ?_⟩
  · unfold L2.start
    rw [List.length_append, List.length_map, List.length_replicate, List.length_append, List.length_map, List.length_replicate, hl]
  · rcases start_get h with ⟨a, e, rfl⟩ | rfl
    · rcases r.get e with ⟨d, v, rfl, hv, rp⟩ | ⟨d, b, rfl, hv, L, _⟩
      · exact ⟨v, startσ_get hv, rp⟩
      · exact ⟨b, startσ_get hv, L⟩
    · trivial
  · rcases start_get h1 with ⟨a1, e1, rfl⟩ | rfl
    · rcases start_get h2 with ⟨a2, e2, rfl⟩ | rfl
      · rcases r.get e1 with ⟨d, v, rfl, hv, rp⟩ | ⟨d, b, rfl, hv, L, _⟩
        · cases m1
        · rcases r.get e2 with ⟨d', v', rfl, hv', rp⟩ | ⟨d', b', rfl, hv', L', _⟩
          · cases m2
          · rw [startσ_get hv] at z1
            rw [startσ_get hv'] at z2
            cases z1; cases z2
            exact r.apart nd ne e1 e2 hv hv'
      · cases m2
    · cases m1
theorem own_start {as : List Ar} {vs : List V} {N : List Str} (r : ArRep K F H as vs) {a : Addr} (h : Own (as.map arSl ++ List.replicate (N.length - as.length) .un) (L2.start N vs) a) : a ∈ ioA as vs := by
  obtain ⟨i, s, e, m, z⟩ := h
  rcases start_get e with ⟨x, e1, rfl⟩ | rfl
  · rcases r.get e1 with ⟨d, v, rfl, hv, rp⟩ | ⟨d, b, rfl, hv, L, hm⟩
    · cases m
    · rw [startσ_get hv] at z
      cases z
      exact hm
  · cases m
theorem outs_ok {F' H' : Hp} : ∀ {as : List Ar} {vs : List V} {e : Ev} {σ' : St} {ds : List D}, ArRep K F H as vs → outsOf as e = some ds → (∀ (i : Nat) (d : D), as[i]? = some (Ar.io d) → ∀ s : Sl, e[i]? = some s → ∀ b : Addr, vs[i]? = some (V.ref b) → ∀ d' : D, s = Sl.io d' → Live K F' H' d' b) → Lives K F' H' ds (ioA as vs)
  | [], _, _, _, _, r, h, _ => by cases h; cases r; exact .nil
  | .val d :: as, _, [], _, _, _, h, _ => by cases h
  | .val d :: as, _, s :: e, σ', ds, r, h, L => by
    obtain ⟨v, vr, e1, _, r⟩ := r
    subst e1
    exact outs_ok (as := as) (vs := vr) (σ' := σ') (e := e) r (show outsOf as e = some ds from h) fun i d hi s hs b hb => L (i + 1) d (by simpa using hi) s (by simpa using hs) b (by simpa using hb)
  | .io d :: as, _, [], _, _, _, h, _ => by cases h
  | .io d :: as, _, s :: e, σ', ds, r, h, L => by
    obtain ⟨v, vr, e1, _, r⟩ := r
    subst e1
    cases s with
    | io d' =>
      obtain ⟨ds', h1, h⟩ := obind h
      cases h
      exact .cons (L 0 d rfl _ rfl v rfl d' rfl) (outs_ok (σ' := σ') (e := e) r h1 fun i d hi s hs b hb => L (i + 1) d (by simpa using hi) s (by simpa using hs) b (by simpa using hb))
    | _ => cases h
/-- a body's reading gives the promise -/
theorem body_ok {N : List Str} {body : DS} {as : List Ar} {vs : List V} {r : Rs} {outs : List D} {Q : VK} (l : Le F H) (ra : ArRep K F H as vs) (nd : (ioA as vs).Nodup) (hn : as.length ≤ N.length) (h : runF N.length body as = some (r, outs))
    (q : ∀ v F' H', Post K F H (ioA as vs) r outs v F' H' → Q v H') : rdS K body { nx := fun _ H' => Q .non H', rt := Q } (start N vs) H := by
  obtain ⟨o, h1, h⟩ := obind h
  refine ⟨H, _, F, o, SR.start l ra nd hn, h1, ?_⟩
  have fin : ∀ {e : Ev} {σ' : St} {F' H' : Hp} {ds : List D} {v : V} {r : Rs}, SR K H e F' σ' H' → Tr (as.map arSl ++ List.replicate (N.length - as.length) .un) (start N vs) F H e σ' F' H' → outsOf as e = some ds → NR K H F' H' r v → Post K F H (ioA as vs) r ds v F' H' := fun {e σ' F' H' ds v r} S T ho nr =>
    ⟨T.mono, S.sub, fun b o hb nb => T.keep b o hb fun w => nb (own_start ra w), T.dom, nr, outs_ok (σ' := σ') ra ho fun i d hi s hs b hb d' hd' => by
      subst hd'
      have e0 : (as.map arSl ++ List.replicate (N.length - as.length) .un)[i]? = some (.io d) := by
        have hl := (List.getElem?_eq_some_iff.mp hi).1
        rw [List.getElem?_append_left (by simpa using hl), List.getElem?_map, hi]
        rfl
      obtain ⟨_, z⟩ := T.ios i d e0
      obtain ⟨a, z2, L⟩ := S.slot i _ hs
      rw [z, startσ_get hb] at z2
      cases z2
      exact L⟩
  cases o with
  | nx e =>
    obtain ⟨ds, h2, h⟩ := obind h
    cases h
    exact fun σ' F' H' S T => q _ F' H' (fin S T h2 rfl)
  | rt r' e =>
    have h : (if noSlot r' = true then (outsOf as e).bind fun ds => some (r', ds) else none) = some (r, outs) := h
    by_cases hr : noSlot r' = true
    case neg => rw [if_neg hr] at h; cases h
    rw [if_pos hr] at h
    obtain ⟨ds, h2, h⟩ := obind h
    cases h
    refine fun v σ' F' H' S T R => q _ F' H' (fin S T h2 ?_)
    cases r with
    | val d => exact R
    | fresh d => obtain ⟨a, e1, n, _, L⟩ := R; exact ⟨a, e1, n, L⟩
    | slot i => cases hr
  | bk e => cases h
  | ct e => cases h
end
/-- THE RULE for a def -/
theorem fn_okD {P : Program} {w : World} {K : PySem.W.Frag} {mg : Str → Option Value} {base : Heap} {x qual : Str} {st : Stmt} {f : Addr} {fd : FuncData} {N ps : List Str} {k : Nat} {body : DS} (FF : Fun K x qual st f fd) (S : FnScope N ps (defScope st)) (hn : ps.length ≤ N.length)
    (hbody : ∀ (cdv : Value) (A : Around) (outer : List PySem.Env) (s : Shared) (H : Hp) (E : XK), Room k (A.deeper (PyProof.Rows.envOfC qual (defScope st) s.heap.objs.size f cdv)) →
      PSs (cxOf CX0 P w K mg base N qual (defScope st) f cdv A outer s H E).nox (defBody st) (rdS K body)) : FnOk P w K mg base CX0 (k + 1) f fd ps (spD K ps.length (runF N.length body)) :=
  FF.ok S (fun vs H Q E h => by obtain ⟨F, as, r, outs, hl, _⟩ := h; exact hl) fun cdv A outer s H vs Q E hr h => by
    obtain ⟨F, as, r, outs, hl, l, ra, nd, hf, q⟩ := h
    exact ⟨_, hbody cdv A outer s H E hr, body_ok l ra nd (by rw [← ra.length, hl]; exact hn) hf q⟩
/-- what is promised may be told otherwise -/
theorem fn_imp {P : Program} {w : World} {K : PySem.W.Frag} {mg : Str → Option Value} {base : Heap} {f : Addr} {fd : FuncData} {ps : List Str} {k n : Nat} {fn fn' : Fn} (G : FnOk P w K mg base CX0 k f fd ps (spD K n fn)) (h : ∀ as r, fn' as = some r → fn as = some r) : FnOk P w K mg base CX0 k f fd ps (spD K n fn') :=
  G.imp fun vs H Q E ⟨F, as, r, outs, hl, l, ra, nd, hf, q⟩ => ⟨F, as, r, outs, hl, l, ra, nd, h _ _ hf, q⟩
end VL
set_option Elab.async false
set_option linter.all false
set_option maxRecDepth 100000
/-! calls of defs, things changed in place -/
namespace VL
open PySem PySem.Spec L2

@[simp] def mkArs (e : Ev) : List Rs → Option (List Ar)
  | [] => some []
  | .val d :: rs => (mkArs e rs).bind fun as => some (.val d :: as)
  | .slot i :: rs => (e[i]?).bind fun s => if s.mt = true then (s.data).bind fun d => (mkArs e rs).bind fun as => some (.io d :: as) else none
  | .fresh _ :: _ => none
@[simp] def slotsOf : List Rs → List Nat
  | [] => []
  | .slot i :: rs => i :: slotsOf rs
  | _ :: rs => slotsOf rs
@[simp] def putOuts : List Nat → List D → Ev → Option Ev
  | [], [], e => some e
  | i :: is, d :: ds, e => (e[i]?).bind fun s => putOuts is ds (e.set i (s.wt d))
  | _, _, _ => none
@[simp] def dCall (fn : Fn) (da : DA) : DE := fun env => (da env).bind fun (rs, e) => (mkArs e rs).bind fun as => if (slotsOf rs).Nodup then (fn as).bind fun (r, outs) => (putOuts (slotsOf rs) outs e).bind fun e' => some (r, e') else none

inductive SlA (e : Ev) (σ : St) : List Nat → List Addr → Prop
  | nil : SlA e σ [] []
  | cons {i : Nat} {is : List Nat} {a : Addr} {as : List Addr} {s : Sl} : e[i]? = some s → s.mt = true → σ[i]? = some (some (.ref a)) → SlA e σ is as → SlA e σ (i :: is) (a :: as)
section
variable {K : PySem.W.Frag} {B H0 F H : Hp} {e : Ev} {σ : St}
theorem ars_ok (S : SR K B e F σ H) : ∀ {rs : List Rs} {vs : List V} {as : List Ar}, RRs K H0 e F σ H rs vs → mkArs e rs = some as → ArRep K F H as vs ∧ SlA e σ (slotsOf rs) (ioA as vs)
  | _, _, _, .nil, h => by cases h; exact ⟨rfl, .nil⟩
  | r :: rs, _, _, .cons h t _, q => by
    cases r with
    | val d =>
      obtain ⟨as', h1, q⟩ := obind q
      cases q
      obtain ⟨a1, a2⟩ := ars_ok S t h1
      exact ⟨⟨_, _, rfl, h, a1⟩, a2⟩
    | fresh d => cases q
    | slot i =>
      obtain ⟨s, h1, q⟩ := obind q
      by_cases m : s.mt = true
      case neg => rw [if_neg m] at q; cases q
      rw [if_pos m] at q
      obtain ⟨d, h2, q⟩ := obind q
      obtain ⟨as', h3, q⟩ := obind q
      cases q
      obtain ⟨a1, a2⟩ := ars_ok S t h3
      have h : σ[i]? = some (some _) := h
      have z := S.slot i s h1
      cases s with
      | own d' => cases h2; obtain ⟨a, e1, L, _⟩ := z; rw [h] at e1; cases e1; exact ⟨⟨a, _, rfl, L, a1⟩, .cons h1 m h a2⟩
      | io d' => cases h2; obtain ⟨a, e1, L⟩ := z; rw [h] at e1; cases e1; exact ⟨⟨a, _, rfl, L, a1⟩, .cons h1 m h a2⟩
      | _ => cases m
theorem SlA.mem {is : List Nat} {as : List Addr} (h : SlA e σ is as) {a : Addr} (ha : a ∈ as) : ∃ i s, i ∈ is ∧ e[i]? = some s ∧ s.mt = true ∧ σ[i]? = some (some (.ref a)) := by
  induction h with
  | nil => cases ha
  | cons h1 m z t ih =>
    rcases List.mem_cons.mp ha with rfl | ha
    · exact ⟨_, _, List.mem_cons_self, h1, m, z⟩
    · obtain ⟨i, s, hi, r⟩ := ih ha
      exact ⟨i, s, List.mem_cons_of_mem _ hi, r⟩
theorem SlA.nodup (S : SR K B e F σ H) {is : List Nat} {as : List Addr} (h : SlA e σ is as) (nd : is.Nodup) : as.Nodup := by
  induction h with
  | nil => exact List.nodup_nil
  | cons h1 m z t ih =>
    obtain ⟨n1, n2⟩ := List.nodup_cons.mp nd
    refine List.nodup_cons.mpr ⟨fun ha => ?_, ih n2⟩
    obtain ⟨j, s, hj, h2, m2, z2⟩ := t.mem ha
    exact S.sep _ _ _ _ _ (fun w => n1 (by rw [w]; exact hj)) h1 h2 (Sl.mt_held m) (Sl.mt_held m2) z z2
theorem SlA.set {is : List Nat} {as : List Addr} (h : SlA e σ is as) {i : Nat} {s : Sl} (hi : i ∉ is) : SlA (e.set i s) σ is as := by
  induction h with
  | nil => exact .nil
  | cons h1 m z t ih => exact .cons (by rw [List.getElem?_set_ne fun w => hi (by rw [w]; exact List.mem_cons_self)]; exact h1) m z (ih fun w => hi (List.mem_cons_of_mem _ w))
theorem outs_at {F' H' : Hp} : ∀ {is : List Nat} {A : List Addr} {ds : List D} {e e' : Ev}, SlA e σ is A → is.Nodup → Lives K F' H' ds A → putOuts is ds e = some e' →
    e'.length = e.length ∧ ∀ (i : Nat) (s' : Sl), e'[i]? = some s' → (i ∉ is ∧ e[i]? = some s') ∨ ∃ s d a, i ∈ is ∧ e[i]? = some s ∧ s.mt = true ∧ s' = s.wt d ∧ σ[i]? = some (some (.ref a)) ∧ Live K F' H' d a
  | _, _, _, _, _, .nil, _, .nil, h => by
    cases h
    exact ⟨rfl, fun i s' h => .inl ⟨by simp, h⟩⟩
  | _, _, _, e, e', .cons (i := i0) (is := is) (s := s0) h1 m z t, nd, .cons L Ls, h => by
    obtain ⟨n1, n2⟩ := List.nodup_cons.mp nd
    obtain ⟨s, h2, h⟩ := obind h
    rw [h1] at h2
    cases h2
    have hl : i0 < e.length := (List.getElem?_eq_some_iff.mp h1).1
    obtain ⟨l1, p⟩ := outs_at (t.set (s := s0.wt _) n1) n2 Ls h
    refine ⟨by rw [l1, List.length_set], fun i s' hs => ?_⟩
    rcases p i s' hs with ⟨a1, a2⟩ | ⟨s, d, a, b0, b1, b2, b3, b4, b5⟩
    · by_cases ei : i0 = i
      · subst ei
        rw [List.getElem?_set_self hl] at a2
        cases a2
        exact .inr ⟨s0, _, _, List.mem_cons_self, h1, m, rfl, z, L⟩
      · rw [List.getElem?_set_ne ei] at a2
        exact .inl ⟨fun w => by rcases List.mem_cons.mp w with w | w; exact ei w.symm; exact a1 w, a2⟩
    · have ei : i0 ≠ i := fun w => n1 (w ▸ b0)
      rw [List.getElem?_set_ne ei] at b1
      exact .inr ⟨s, d, a, List.mem_cons_of_mem _ b0, b1, b2, b3, b4, b5⟩
theorem Sl.wt_mt {s : Sl} {d : D} (m : s.mt = true) : (s.wt d).mt = true := by cases s <;> first | rfl | cases m
/-- the caller's state behind a call -/
theorem after_call {is : List Nat} {A : List Addr} {ds : List D} {e' : Ev} {r : Rs} {v : V} {F' H' : Hp} (S : SR K B e F σ H) (sa : SlA e σ is A) (nd : is.Nodup) (h : putOuts is ds e = some e') (P : Post K F H A r ds v F' H') :
    SR K B e' F' σ H' ∧ Tr e σ F H e' σ F' H' ∧ RR K H e' F' σ H' r v := by
  obtain ⟨l1, p⟩ := outs_at sa nd P.outs h
  have nn : ∀ b, H' b = none → H b = none := fun b h => by
    cases q : H b with
    | none => rfl
    | some o => obtain ⟨o', z⟩ := P.dom b o q; rw [h] at z; cases z
  have notA : ∀ {i : Nat} {s : Sl} {a : Addr}, i ∉ is → e[i]? = some s → s.held = true → σ[i]? = some (some (.ref a)) → a ∉ A := fun {i s a} hi hs hh z ha => by
    obtain ⟨j, t, hj, h2, m2, z2⟩ := sa.mem ha
    exact S.sep i j s t a (fun w => hi (w ▸ hj)) hs h2 hh (Sl.mt_held m2) z z2
  have lv : ∀ {a : Addr} {d : D}, a ∉ A → Live K F H d a → Live K F' H' d a := fun {a d} na L => by
    obtain ⟨o, ho⟩ := L.2.at
    obtain ⟨k1, k2⟩ := P.keep a o ho na
    exact ⟨k2.trans L.1, L.2.mono P.mono (k1.trans ho.symm)⟩
  have back : ∀ {i : Nat} {s' : Sl}, e'[i]? = some s' → ∃ s, e[i]? = some s ∧ (s'.mt = true → s.mt = true) ∧ (s'.held = true → s.held = true) := fun {i s'} q => by
    rcases p i s' q with ⟨_, a2⟩ | ⟨s, d, a, _, b1, b2, _⟩
    · exact ⟨s', a2, id, id⟩
    · exact ⟨s, b1, fun _ => b2, fun _ => Sl.mt_held b2⟩
  have heldB : ∀ b, Held e' σ b → Held e σ b := fun b ⟨i, s', q, m, z⟩ => by
    obtain ⟨s, q2, _, m2⟩ := back q
    exact ⟨i, s, q2, m2 m, z⟩
  refine ⟨⟨l1.trans S.len, fun a h => S.old a (nn a h), P.sub, fun i s' q => ?_, fun i j s' t' a ne q1 q2 m1 m2 z1 z2 => ?_⟩, ⟨P.mono, fun b o hb nb => P.keep b o hb fun w => ?_, P.dom, fun b ⟨i, s', q, m, z⟩ => ?_, fun b w => .inl (heldB b w), fun i d q => ?_, fun i d q => ?_⟩, ?_⟩
  · rcases p i s' q with ⟨a1, a2⟩ | ⟨s, d, a, b0, b1, b2, b3, b4, b5⟩
    · have z := S.slot i s' a2
      cases s' with
      | un => trivial
      | val d => obtain ⟨v, e1, r⟩ := z; exact ⟨v, e1, Rep.mono P.mono _ r⟩
      | own d => obtain ⟨a, e1, L, nb⟩ := z; exact ⟨a, e1, lv (notA a1 a2 rfl e1) L, nb⟩
      | io d => obtain ⟨a, e1, L⟩ := z; exact ⟨a, e1, lv (notA a1 a2 rfl e1) L⟩
      | lk d => obtain ⟨a, e1, L⟩ := z; exact ⟨a, e1, lv (notA a1 a2 rfl e1) L⟩
    · subst b3
      have z := S.slot i s b1
      cases s with
      | own d' => obtain ⟨a', e1, L, nb⟩ := z; rw [b4] at e1; cases e1; exact ⟨a, b4, b5, nb⟩
      | io d' => exact ⟨a, b4, b5⟩
      | _ => cases b2
  · obtain ⟨s, q1, _, h1⟩ := back q1
    obtain ⟨t, q2, _, h2⟩ := back q2
    exact S.sep i j s t a ne q1 q2 (h1 m1) (h2 m2) z1 z2
  · obtain ⟨i, s, hi, h1, m, z⟩ := sa.mem w
    exact nb ⟨i, s, h1, m, z⟩
  · obtain ⟨s, q2, m2, _⟩ := back q
    exact .inl ⟨i, s, q2, m2 m, z⟩
  · refine ⟨?_, rfl⟩
    have hl : i < e'.length := by rw [l1]; exact (List.getElem?_eq_some_iff.mp q).1
    rcases p i _ (List.getElem?_eq_getElem hl) with ⟨a1, a2⟩ | ⟨s, d', a, b0, b1, b2, _⟩
    · rw [q] at a2; rw [List.getElem?_eq_getElem hl, ← a2]
    · rw [q] at b1; cases b1; cases b2
  · refine ⟨?_, rfl⟩
    have hl : i < e'.length := by rw [l1]; exact (List.getElem?_eq_some_iff.mp q).1
    rcases p i _ (List.getElem?_eq_getElem hl) with ⟨a1, a2⟩ | ⟨s, d', a, b0, b1, b2, b3, _⟩
    · rw [q] at a2; exact ⟨d, by rw [List.getElem?_eq_getElem hl, ← a2]⟩
    · rw [q] at b1; cases b1; exact ⟨d', by rw [List.getElem?_eq_getElem hl, b3] <;> rfl⟩
  · cases r with
    | val d => exact P.res
    | fresh d =>
      obtain ⟨a, e1, n, L⟩ := P.res
      refine ⟨a, e1, n, fun w => ?_, L⟩
      obtain ⟨_, o, ho⟩ := S.heldAt (heldB a w)
      rw [n] at ho; cases ho
    | slot i => exact P.res.elim
end
theorem call_ok {K : PySem.W.Frag} {n : Nat} {fn : Fn} {E : XK} {da : DA} (hn : ∀ rs env e', da env = some (rs, e') → rs.length = n) {σ : St} {H : Hp} {Q : VK} (h : rdE K (dCall fn da) σ H Q) : rdA K da σ H fun vs H1 => spD K n fn (vs ++ []) H1 Q E := by
  obtain ⟨B, env, F, r, env', S, hd, q⟩ := h
  obtain ⟨⟨rs, e1⟩, h1, hd⟩ := obind hd
  obtain ⟨as, h2, hd⟩ := obind hd
  by_cases nd : (slotsOf rs).Nodup
  case neg => rw [if_neg nd] at hd; cases hd
  rw [if_pos nd] at hd
  obtain ⟨⟨r1, outs⟩, h3, hd⟩ := obind hd
  obtain ⟨e2, h4, hd⟩ := obind hd
  cases hd
  refine ⟨B, env, F, rs, e1, S, h1, fun vs F1 H1 S1 T1 R1 => ?_⟩
  show spD K n fn (vs ++ []) H1 Q E
  rw [List.append_nil]
  obtain ⟨ra, sa⟩ := ars_ok S1 R1 h2
  refine ⟨F1, as, r, outs, by rw [R1.length]; exact hn _ _ _ h1, S1.sub, ra, sa.nodup S1 nd, h3, fun v F' H' P => ?_⟩
  obtain ⟨S2, T2, R2⟩ := after_call S1 sa nd h4 P
  exact q v F' H' S2 (T1.trans T2) (R2.back fun a z => T1.dom' z)
section
variable {X : Cx} {k n : Nat} {f : Addr} {fd : FuncData} {ps : List Str} {fn : Fn} {x : Str} {p pos : Pos} {e : Expr} {es : List Expr} {da : DA}
def LenA (da : DA) (n : Nat) : Prop := ∀ rs env e', da env = some (rs, e') → rs.length = n
theorem lenA_nil : LenA dNil 0 := fun rs env e' h => by cases h; rfl
theorem lenA_cons {d : DE} {ds : DA} {n : Nat} (h : LenA ds n) : LenA (dCons d ds) (n + 1) := fun rs env e' q => by
  obtain ⟨⟨r1, e1⟩, h1, q⟩ := obind q
  obtain ⟨⟨rs1, e2⟩, h2, q⟩ := obind q
  cases q
  rw [List.length_cons, h _ _ _ h2]
theorem ped_call (G : FnOk X.prog X.w X.K X.mg X.base CX0 k f fd ps (spD X.K ps.length fn)) (hr : Room k X.A) (hg : Gl X x) (hm : X.mg x = some (.ref f)) (hk : PySem.W.keepIn X.K (.ref f) = true) (hb : Binds X.K fd ps []) (ha : PA X (e :: es) (rdA X.K da)) (hl : LenA da ps.length)
    (hdb : (x == ("__debug__" : Str)) = false := by decide) (he : starEach (e :: es) X.env = (false, eval e X.env) :: starEach es X.env := by rfl) (hpl : (backTo pos (starEach es X.env)).any (·.1) = false := by rfl) : PE X (.Call (.Name x p) (e :: es) [] pos) (rdE X.K (dCall fn da)) :=
  PE.conv (pe_call G hr hg hm hk hb .nil pass0 ha hdb he hpl) fun σ H Q h => call_ok (n := ps.length) (E := E0) hl h
end

/-! ### lists changed in place -/
section
variable {X : Cx} {pos : Pos}
/-- the thing at a slot that may be changed -/
theorem slot_mt {K : PySem.W.Frag} {B F H : Hp} {e : Ev} {σ : St} {j : Nat} {s : Sl} {d : D} (S : SR K B e F σ H) (h : e[j]? = some s) (m : s.mt = true) (hd : s.data = some d) : ∃ a, σ[j]? = some (some (.ref a)) ∧ Live K F H d a := by
  have z := S.slot j s h
  cases s with
  | own d' => cases hd; obtain ⟨a, e1, L, _⟩ := z; exact ⟨a, e1, L⟩
  | io d' => cases hd; obtain ⟨a, e1, L⟩ := z; exact ⟨a, e1, L⟩
  | _ => cases m
@[simp] def asL : D → Option (List D)
  | .lst ds => some ds
  | _ => none
theorem asL_eq {d : D} {ds : List D} (h : asL d = some ds) : d = .lst ds := by cases d <;> cases h; rfl
/-- what a method does with the list at slot j -/
@[simp] def onL (j : Nat) (e : Ev) (k : List D → Option (D × List D)) : Option (Rs × Ev) := (e[j]?).bind fun s => if s.mt = true then (s.data).bind fun d => (asL d).bind fun ds => (k ds).bind fun (r, ds') => some (.val r, e.set j (s.wt (.lst ds'))) else none
theorem onL_ok {K : PySem.W.Frag} {B F H : Hp} {e e' : Ev} {σ : St} {j : Nat} {k : List D → Option (D × List D)} {r : Rs} (S : SR K B e F σ H) (h : onL j e k = some (r, e')) :
    ∃ a xs ds d ds', σ[j]? = some (some (.ref a)) ∧ H a = some (.lst xs) ∧ RepL K F ds xs ∧ k ds = some (d, ds') ∧ r = .val d ∧
      ∀ xs', RepL K F ds' xs' → SR K B e' F σ (upd H a (.lst xs')) ∧ Tr e σ F H e' σ F (upd H a (.lst xs')) := by
  obtain ⟨s, h1, h⟩ := obind h
  by_cases m : s.mt = true
  case neg => rw [if_neg m] at h; cases h
  rw [if_pos m] at h
  obtain ⟨d, h2, h⟩ := obind h
  obtain ⟨ds, h3, h⟩ := obind h
  obtain ⟨⟨r1, ds'⟩, h4, h⟩ := obind h
  cases h
  cases asL_eq h3
  obtain ⟨a, z, f, xs, hx, rl⟩ := slot_mt S h1 m h2
  exact ⟨a, xs, ds, r1, ds', z, hx, rl, h4, rfl, fun xs' r' => mut_ok S h1 m z ⟨xs', upd_same, r'⟩⟩
/-- a list that may be changed stands at slot j -/
@[simp] def isL (j : Nat) (e : Ev) : Bool := match e[j]? with
  | some (.own (.lst _)) => true
  | some (.io (.lst _)) => true
  | _ => false
theorem isL_ok {K : PySem.W.Frag} {B F H : Hp} {e : Ev} {σ : St} {j : Nat} (S : SR K B e F σ H) (h : isL j e = true) : ∃ a xs, σ[j]? = some (some (.ref a)) ∧ H a = some (.lst xs) := by
  unfold isL at h
  cases q : e[j]? with
  | none => rw [q] at h; cases h
  | some s =>
    rw [q] at h
    have z := S.slot j s q
    cases s with
    | own d =>
      cases d with
      | lst ds => obtain ⟨a, e1, ⟨_, xs, hx, _⟩, _⟩ := z; exact ⟨a, xs, e1, hx⟩
      | _ => cases h
    | io d =>
      cases d with
      | lst ds => obtain ⟨a, e1, _, xs, hx, _⟩ := z; exact ⟨a, xs, e1, hx⟩
      | _ => cases h
    | _ => cases h
@[simp] def dAppend (j : Nat) (d : DE) : DE := fun env => if isL j env = true then (dVal d env).bind fun (r, e) => (r.data e).bind fun y => onL j e fun ds => if ds.length < LN then some (.non, ds ++ [y]) else none else none
variable {x m : Str} {xp apos cpos : Pos} {a : Expr} {d : DE} {j : Nat}
theorem ped_append (hx : PE X (.Name x xp) (tVar j)) (hd : PE X a (rdE X.K d)) (hbase : attributeBase (.Name x xp) "append" X.env (eval (.Name x xp) X.env) = eval (.Name x xp) X.env := by rfl) (hline : (apos.endLine == cpos.line) = true := by rfl)
    (hs : starEach [a] X.env = (false, eval a X.env) :: starEach [] X.env := by rfl) (hplain : (backTo cpos (starEach [] X.env)).any (·.1) = false := by rfl)
    (hfew : ((backTo cpos (starEach [a] X.env)).all (fun x => !x.1) && (backToKw cpos (keywordEach [] X.env)).all (fun x => x.1.isSome) && decide ([a].length + ([] : List Keyword).length + (if ([] : List Keyword).isEmpty then 0 else 1) < 30)) = true := by rfl) :
    PE X (.Call (.Attribute (.Name x xp) "append" apos) [a] [] cpos) (rdE X.K (dAppend j d)) :=
  PE.conv (pe_bm PySem.F.plainAttrs_list PySem.F.slot_list_append PySem.F.type_list_append mt_append hx (pa_cons (ped_val hd) pa_nil hs) hbase hfew hline hs hplain) fun σ H Q ⟨B, env, F, r, env', S, hq, q⟩ => by
    have hq : (if isL j env = true then (dVal d env).bind fun (r, e) => (r.data e).bind fun y => onL j e fun ds => if ds.length < LN then some (.non, ds ++ [y]) else none else none) = some (r, env') := hq
    by_cases hL : isL j env = true
    case neg => rw [if_neg hL] at hq; cases hq
    rw [if_pos hL] at hq
    obtain ⟨⟨r1, e1⟩, h1, hq⟩ := obind hq
    obtain ⟨y, h2, hq⟩ := obind hq
    obtain ⟨y', rfl⟩ := dVal_shape h1
    cases h2
    obtain ⟨a, xs, za, ha⟩ := isL_ok S hL
    refine ⟨.ref a, za, .inl ⟨rfl, xs, SqL.of ha⟩, B, env, F, _, e1, S, h1, fun v F1 H1 S1 T1 R1 => ?_⟩
    obtain ⟨a', xs', ds, d', ds', z, hx', rl, hk, rfl, fin⟩ := onL_ok S1 hq
    rw [za] at z
    cases z
    by_cases hz : ds.length < LN
    case neg => rw [if_neg hz] at hk; cases hk
    rw [if_pos hz] at hk
    cases hk
    obtain ⟨S2, T2⟩ := fin (xs' ++ [v]) (rl.append (RepL.cons R1 RepL.nil))
    exact ⟨a, xs', v, rfl, rfl, hx', by rw [LN_eq, rl.length]; exact hz, q _ F1 _ S2 (T1.trans T2) rfl⟩
@[simp] def dPop (j : Nat) : DE := fun env => onL j env fun ds => (ds[ds.length - 1]?).bind fun d => some (d, ds.dropLast)
theorem RepL.dropLast {K : PySem.W.Frag} {F : Hp} {ds : List D} {xs : List V} (r : RepL K F ds xs) : RepL K F ds.dropLast xs.dropLast := by
  rw [List.dropLast_eq_take, List.dropLast_eq_take, r.length]
  exact r.take _
theorem ped_pop (hx : PE X (.Name x xp) (tVar j)) (hbase : attributeBase (.Name x xp) "pop" X.env (eval (.Name x xp) X.env) = eval (.Name x xp) X.env := by rfl) (hline : (apos.endLine == cpos.line) = true := by rfl) :
    PE X (.Call (.Attribute (.Name x xp) "pop" apos) [] [] cpos) (rdE X.K (dPop j)) :=
  PE.conv (pe_bm0 PySem.F.plainAttrs_list PySem.F.slot_list_pop PySem.F.type_list_pop mt_pop hx hbase hline) fun σ H Q ⟨B, env, F, r, env', S, hq, q⟩ => by
    obtain ⟨a, xs, ds, d, ds', z, hx', rl, hk, rfl, fin⟩ := onL_ok S hq
    obtain ⟨d', h1, hk⟩ := obind hk
    cases hk
    obtain ⟨v, hv, rv⟩ := rl.get h1
    obtain ⟨S2, T2⟩ := fin xs.dropLast rl.dropLast
    exact ⟨.ref a, z, .inl ⟨rfl, xs, SqL.of hx'⟩, a, xs, v, rfl, rfl, hx', by rw [rl.length]; exact hv, q v F _ S2 T2 rv⟩
@[simp] def dReverse (j : Nat) : DE := fun env => onL j env fun ds => some (.non, ds.reverse)
theorem ped_reverse (hx : PE X (.Name x xp) (tVar j)) (hbase : attributeBase (.Name x xp) "reverse" X.env (eval (.Name x xp) X.env) = eval (.Name x xp) X.env := by rfl) (hline : (apos.endLine == cpos.line) = true := by rfl) :
    PE X (.Call (.Attribute (.Name x xp) "reverse" apos) [] [] cpos) (rdE X.K (dReverse j)) :=
  PE.conv (pe_bm0 PySem.F.plainAttrs_list PySem.F.slot_list_reverse PySem.F.type_list_reverse mt_reverse hx hbase hline) fun σ H Q ⟨B, env, F, r, env', S, hq, q⟩ => by
    obtain ⟨a, xs, ds, d, ds', z, hx', rl, hk, rfl, fin⟩ := onL_ok S hq
    cases hk
    obtain ⟨S2, T2⟩ := fin xs.reverse rl.reverse
    exact ⟨.ref a, z, .inl ⟨rfl, xs, SqL.of hx'⟩, a, xs, rfl, rfl, hx', q .non F _ S2 T2 rfl⟩

/-! ### o[i] = v, o[i] op= v -/
@[simp] def intD : D → Option Int
  | .int i => some i
  | _ => none
theorem intD_eq {d : D} {i : Int} (h : intD d = some i) : d = .int i := by cases d <;> cases h; rfl
theorem ps_setIx {o i value : Expr} {to ti tv : TE} {t : TSet} {pos' : Pos} (ho : PE X o to) (hi : PE X i ti) (hv : PE X value tv) (ht : PSet X t) (hs : swapsWith value (some (.Subscript o i pos')) pos.line X.env = pure false) :
    PS X (.Assign [.Subscript o i pos'] value pos) (fun D σ H => tv σ H fun v H1 => to σ H1 fun x H2 => ti σ H2 fun y H3 => t x y v H3 fun H4 => D.nx σ H4) :=
  ⟨fun pins s σ H D I h => wpAny_Assign_Subscript (thn (hv.run pins s σ H _ I h) fun r s1 ⟨v, H1, I1, rv, q1⟩ => thn (ho.run pins s1 σ H1 _ I1 q1) fun u s2 ⟨x, H2, I2, rx, q2⟩ => thn (hi.run pins s2 σ H2 _ I2 q2) fun iv s3 ⟨y, H3, I3, ry, q3⟩ =>
    thn (ht pins s3 σ H3 x y v u iv r _ I3 rx ry rv q3) fun _ s4 ⟨H4, I4, q4⟩ => ⟨σ, H4, I4, q4⟩) hs⟩
/-- xs[i] = v -/
@[simp] def dSetL (j : Nat) (di d : DE) : DS := fun env => (dVal d env).bind fun (r, e) => (r.data e).bind fun y => if isL j e = true then (di e).bind fun (ri, e2) => (ri.data e2).bind fun i => (intD i).bind fun k => (onL j e2 fun ds => (ixN ds.length k).bind fun n => some (.non, ds.set n y)).bind fun (_, e3) => some (.nx e3) else none
variable {i value : Expr} {di : DE} {xq spos : Pos}
theorem psd_setL (hx : PE X (.Name x xp) (tVar j)) (hi : PE X i (rdE X.K di)) (hv : PE X value (rdE X.K d)) (hs : swapsWith value (some (.Subscript (.Name x xp) i spos)) pos.line X.env = pure false := by rfl) :
    PS X (.Assign [.Subscript (.Name x xp) i spos] value pos) (rdS X.K (dSetL j di d)) := PS.conv (ps_setIx hx hi (ped_val hv) set_list hs) fun D σ H ⟨B, env, F, o, S, hq, q⟩ => by
  obtain ⟨⟨r1, e1⟩, h1, hq⟩ := obind hq
  obtain ⟨y, h2, hq⟩ := obind hq
  obtain ⟨y', rfl⟩ := dVal_shape h1
  cases h2
  have hq : (if isL j e1 = true then (di e1).bind fun (ri, e2) => (ri.data e2).bind fun i => (intD i).bind fun k => (onL j e2 fun ds => (ixN ds.length k).bind fun n => some (.non, ds.set n y)).bind fun (_, e3) => some (.nx e3) else none) = some o := hq
  by_cases hL : isL j e1 = true
  case neg => rw [if_neg hL] at hq; cases hq
  rw [if_pos hL] at hq
  obtain ⟨⟨ri, e2⟩, h3, hq⟩ := obind hq
  obtain ⟨ix, h4, hq⟩ := obind hq
  obtain ⟨k, h5, hq⟩ := obind hq
  obtain ⟨⟨r6, e3⟩, h6, hq⟩ := obind hq
  cases hq
  cases intD_eq h5
  refine ⟨B, env, F, _, e1, S, h1, fun v F1 H1 S1 T1 R1 => ?_⟩
  obtain ⟨a, xs, za, ha⟩ := isL_ok S1 hL
  refine ⟨.ref a, za, B, e1, F1, ri, e2, S1, h3, fun u F2 H2 S2 T2 R2 => ?_⟩
  obtain ⟨a', xs', ds, d', ds', z, hx', rl, hk, rfl, fin⟩ := onL_ok S2 h6
  rw [za] at z
  cases z
  obtain ⟨n, hn, hk⟩ := obind hk
  cases hk
  have p := RR.pk S2 R2 h4
  obtain ⟨S3, T3⟩ := fin (xs'.set n v) (RepL.set (Rep.mono T2.mono _ R1) n rl)
  exact ⟨a, xs', k, n, rfl, p, hx', by rw [rl.length]; exact hn, q σ F2 _ S3 ((T1.trans T2).trans T3)⟩
/-- xs[i] read, whatever stands ahead -/
theorem pget_list : PGet X (rIxL X.K) := by
  intro pins s σ H o i ov iv Q I ro ri h
  obtain ⟨p, xs, k, z, rfl, rfl, hq, he, q⟩ := h
  cases ro
  obtain ⟨t, rfl⟩ := ri
  obtain ⟨its, r, pl, hz⟩ := I.list hq
  obtain ⟨j, h1, h2, h3, h4, h5⟩ := atI_get he
  obtain ⟨w, ew, rw'⟩ := r.get h2
  have hl := r.length
  have hn := line63
  have fin : EP X pins σ Q w s := ⟨z, H, I, rw', q⟩
  by_cases h0 : 0 ≤ k
  · have hj : k.toNat = j := by
      rw [seqIndex_of h0 h5] at h1
      exact Option.some.inj h1
    exact wpAny_getItem_list pl.isList h0 (by omega) (by rw [hj]; simpa using ew) fin
  · have hj : (k + (its.toArray.size : Int)).toNat = j := by
      rw [seqIndex_neg (by omega) h4] at h1
      rw [List.size_toArray, ← hl]
      exact Option.some.inj h1
    exact wpAny_getItem_list_neg pl.isList (by omega) (by rw [List.size_toArray] <;> omega) (by omega) (by rw [hj]; simpa using ew) fin
@[simp] def valR : Rs → Option D
  | .val d => some d
  | _ => none
theorem valR_eq {r : Rs} {d : D} (h : valR r = some d) : r = .val d := by cases r <;> cases h; rfl
/-- xs[i] op= v -/
def dAugL (sem : D → D → Option Rs) (j : Nat) (di d : DE) : DS := fun env => if isL j env = true then (di env).bind fun (ri, e2) => (ri.data e2).bind fun i => (intD i).bind fun k => (slotD e2 j).bind fun xs => (asL xs).bind fun ds0 => (atI ds0 k).bind fun old => (d e2).bind fun (r, e3) => (r.data e3).bind fun y => (sem old y).bind fun o => (valR o).bind fun z =>
  (onL j e3 fun ds => (ixN ds.length k).bind fun n => some (.non, ds.set n z)).bind fun (_, e4) => some (.nx e4) else none
theorem ixN_get {n : Nat} {i : Int} {j : Nat} {α : Type} {xs : List α} {v : α} (h : atI xs i = some v) (hn : n = xs.length) (hj : ixN n i = some j) : xs[j]? = some v := by
  unfold atI at h
  rw [← hn, hj] at h
  exact h
theorem psd_augL {op : Operator} {r : R2} {sem : D → D → Option Rs} (hx : PE X (.Name x xp) (tVar j)) (hi : PE X i (rdE X.K di)) (hv : PE X value (rdE X.K d)) (hop : OpR X (inplaceOp op) r) (hs : BinOK X.K r sem)
    (ha : ∀ ov iv new, augStore i ov iv new = (do holding [new, ov, iv] (setItem ov iv new); release [new, ov, iv] []; pure .next) := by intros; rfl) :
    PS X (.AugAssign (.Subscript (.Name x xp) i spos) op value pos) (rdS X.K (dAugL sem j di d)) := PS.conv (ps_augS hx hi pget_list hv hop set_list ha) fun D σ H ⟨B, env, F, o, S, hq, q⟩ => by
  by_cases hL : isL j env = true
  case neg => unfold dAugL at hq; rw [if_neg hL] at hq; cases hq
  unfold dAugL at hq
  rw [if_pos hL] at hq
  obtain ⟨⟨ri, e2⟩, h1, hq⟩ := obind hq
  obtain ⟨ix, h2, hq⟩ := obind hq
  obtain ⟨k, h3, hq⟩ := obind hq
  obtain ⟨xs0, h4, hq⟩ := obind hq
  obtain ⟨ds0, h5, hq⟩ := obind hq
  obtain ⟨old, h6, hq⟩ := obind hq
  obtain ⟨⟨rv, e3⟩, h7, hq⟩ := obind hq
  obtain ⟨y, h8, hq⟩ := obind hq
  obtain ⟨ov, h9, hq⟩ := obind hq
  obtain ⟨z, h10, hq⟩ := obind hq
  obtain ⟨⟨r11, e4⟩, h11, hq⟩ := obind hq
  cases hq
  cases intD_eq h3
  cases asL_eq h5
  cases valR_eq h10
  obtain ⟨a, xs, za, ha'⟩ := isL_ok S hL
  refine ⟨.ref a, za, B, env, F, ri, e2, S, h1, fun u F1 H1 S1 T1 R1 => ?_⟩
  have p := RR.pk S1 R1 h2
  obtain ⟨a1, ys, e5, sq, rl⟩ := RR.pk (r := .slot j) S1 (show RR X.K H e2 F1 σ H1 (.slot j) (.ref a) from za) h4
  cases e5
  unfold atI at h6
  obtain ⟨n, hn, hg⟩ := obind h6
  obtain ⟨w, hw, rw'⟩ := rl.get hg
  refine ⟨a, ys, k, w, rfl, p, SqL.of sq, ?_, B, e2, F1, rv, e3, S1, h7, fun v F2 H2 S2 T2 R2 => ?_⟩
  · unfold atI
    rw [rl.length, hn]
    exact hw
  · refine hs F2 H2 w v old y _ S2.sub (Rep.pk S2.sub (Rep.mono T2.mono _ rw')) (RR.pk S2 R2 h8) h9 _ fun v3 F3 H3 n3 nr => ?_
    have S3 := S2.new n3
    obtain ⟨a', xs', ds, d', ds', z', hx', rl', hk, er, fin⟩ := onL_ok S3 h11
    rw [za] at z'
    cases z'
    obtain ⟨m, hm, hk⟩ := obind hk
    cases hk
    obtain ⟨S4, T4⟩ := fin (xs'.set m v3) (RepL.set nr m rl')
    exact ⟨a, xs', k, m, rfl, p, hx', by rw [rl'.length]; exact hm, q σ F3 _ S4 (((T1.trans T2).trans n3.tr).trans T4)⟩
end
end VL
set_option Elab.async false
set_option linter.all false
set_option maxRecDepth 100000
/-! what operations give, on data -/
namespace VL
open PySem PySem.Spec L2

section
variable {K : PySem.W.Frag}
theorem same_val {F H : Hp} {d : D} {v : V} {Q : VK} (l : Le F H) (r : Rep K F d v) (q : ∀ v F' H', New F H F' H' → NR K H F' H' (.val d) v → Q v H') : Q v H := q v F H (New.refl l) r
theorem BinOK.or {r r' : R2} {sem sem' : D → D → Option Rs} (h : BinOK K r sem) (h' : BinOK K r' sem') : BinOK K (fun x y H Q => r x y H Q ∨ r' x y H Q) (fun a b => (sem a b).or (sem' a b)) := by
  intro F H x y d1 d2 o l p1 p2 e Q q
  have e : (sem d1 d2).or (sem' d1 d2) = some o := e
  cases e1 : sem d1 d2 with
  | some o1 =>
    rw [e1] at e
    cases e
    exact .inl (h F H x y d1 d2 _ l p1 p2 e1 Q q)
  | none =>
    rw [e1] at e
    exact .inr (h' F H x y d1 d2 _ l p1 p2 e Q q)
theorem BinOK.imp {r : R2} {sem sem' : D → D → Option Rs} (h : BinOK K r sem) (e : ∀ a b o, sem' a b = some o → sem a b = some o) : BinOK K r sem' := fun F H x y d1 d2 o l p1 p2 q => h F H x y d1 d2 o l p1 p2 (e _ _ _ q)

/-! ### two ints -/
@[simp] def binI (C : Int → Int → Bool) (g : Int → Int → D) : D → D → Option Rs
  | .int i, .int j => if C i j = true then some (.val (g i j)) else none
  | _, _ => none
theorem binI_ok {C : Int → Int → Bool} {CP : Int → Int → Prop} {g : Int → Int → D} {gv : Int → Int → V} (hC : ∀ i j, C i j = true → CP i j) (hg : ∀ F i j, Rep K F (g i j) (gv i j)) : BinOK K (rI CP gv) (binI C g) := by
  intro F H x y d1 d2 o l p1 p2 e Q q
  cases d1 with
  | int i =>
    cases d2 with
    | int j =>
      have e : (if C i j = true then some (Rs.val (g i j)) else none) = some o := e
      by_cases hc : C i j = true
      case neg => rw [if_neg hc] at e; cases e
      rw [if_pos hc] at e
      cases e
      exact ⟨i, j, p1, p2, hC i j hc, same_val l (hg F i j) q⟩
    | _ => cases e
  | _ => cases e
@[simp] def binI0 (g : Int → Int → D) : D → D → Option Rs
  | .int i, .int j => some (.val (g i j))
  | _, _ => none
theorem binI0_ok {g : Int → Int → D} {gv : Int → Int → V} (hg : ∀ F i j, Rep K F (g i j) (gv i j)) : BinOK K (rI0 gv) (binI0 g) := by
  intro F H x y d1 d2 o l p1 p2 e Q q
  cases d1 with
  | int i =>
    cases d2 with
    | int j => cases e; exact ⟨i, j, p1, p2, same_val l (hg F i j) q⟩
    | _ => cases e
  | _ => cases e
@[simp] def addI := binI0 fun i j => .int (i + j)
@[simp] def subI := binI0 fun i j => .int (i - j)
def cMul (i j : Int) : Bool := decide ((-(2 ^ 64) < i ∧ i < 2 ^ 64) ∨ (-(2 ^ 64) < j ∧ j < 2 ^ 64) ∨ i.natAbs.log2 + j.natAbs.log2 < 1000000)
def mulI := binI cMul fun i j => .int (i * j)
def cDiv (j : Int) : Bool := decide (0 < j ∧ (j < 1073741824 ∨ j.natAbs.log2 < 9000))
@[simp] def fdivI := binI (fun _ j => cDiv j) fun i j => .int (i / j)
@[simp] def modI := binI (fun _ j => decide (0 < j)) fun i j => .int (i % j)
def powI := binI (fun i j => decide (0 ≤ j ∧ j ≤ 1000000 ∧ i.natAbs < 2 ^ 64)) fun i j => .int (i ^ j.toNat)
def ltI := binI0 fun i j => .bl (decide (i < j))
def leI := binI0 fun i j => .bl (decide (i ≤ j))
def gtI := binI0 fun i j => .bl (decide (j < i))
def geI := binI0 fun i j => .bl (decide (j ≤ i))
def CMulA (i j : Int) : Prop := (-(2 ^ 64) < i ∧ i < 2 ^ 64) ∨ (-(2 ^ 64) < j ∧ j < 2 ^ 64) ∨ i.natAbs.log2 + j.natAbs.log2 < 1000000
def CDivA (_ j : Int) : Prop := 0 < j ∧ (j < 1073741824 ∨ j.natAbs.log2 < 9000)
variable {X : Cx}
theorem opI_of {f : Value → Value → Sem Value} {C C1 C2 : Int → Int → Prop} {g : Int → Int → V} (h1 : OpR X f (rI C1 g)) (h2 : OpR X f (rI C2 g)) (hC : ∀ i j, C i j → C1 i j ∨ C2 i j) : OpR X f (rI C g) := by
  intro pins s σ H x y v u Q I rx ry ⟨i, j, e1, e2, hc, q⟩
  rcases hC i j hc with h | h
  · exact h1 pins s σ H x y v u Q I rx ry ⟨i, j, e1, e2, h, q⟩
  · exact h2 pins s σ H x y v u Q I rx ry ⟨i, j, e1, e2, h, q⟩
theorem op_mulA : OpR X (binaryOp .Mult) (rI CMulA fun i j => .int (i * j)) := opI_of op_mul op_mulW fun i j h => by
  rcases h with h | h | h
  · exact .inl (.inl h)
  · exact .inl (.inr h)
  · exact .inr h
theorem op_fdivA : OpR X (binaryOp .FloorDiv) (rI CDivA fun i j => .int (i / j)) := opI_of op_fdiv op_fdivW fun i j h => h.2.elim (fun a => .inl ⟨h.1, a⟩) fun a => .inr ⟨h.1, a⟩
theorem iop_fdivA : OpR X (inplaceOp .FloorDiv) (rI CDivA fun i j => .int (i / j)) := opI_of iop_fdiv iop_fdivW fun i j h => h.2.elim (fun a => .inl ⟨h.1, a⟩) fun a => .inr ⟨h.1, a⟩
theorem addI_ok : BinOK K (rI0 fun i j => .int (i + j)) addI := binI0_ok fun _ _ _ => rfl
theorem subI_ok : BinOK K (rI0 fun i j => .int (i - j)) subI := binI0_ok fun _ _ _ => rfl
theorem mulI_ok : BinOK K (rI CMulA fun i j => .int (i * j)) mulI := binI_ok (fun i j h => by simpa [cMul, cDiv, CMulA, CDivA, CPow] using h) fun _ _ _ => rfl
theorem fdivI_ok : BinOK K (rI CDivA fun i j => .int (i / j)) fdivI := binI_ok (fun i j h => by simpa [cMul, cDiv, CMulA, CDivA, CPow] using h) fun _ _ _ => rfl
theorem modI_ok : BinOK K (rI (fun _ j => 0 < j) fun i j => .int (i % j)) modI := binI_ok (fun i j h => by simpa [cMul, cDiv, CMulA, CDivA, CPow] using h) fun _ _ _ => rfl
theorem powI_ok : BinOK K (rI CPow fun i j => .int (i ^ j.toNat)) powI := binI_ok (fun i j h => by simpa [cMul, cDiv, CMulA, CDivA, CPow] using h) fun _ _ _ => rfl
theorem ltI_ok : BinOK K (rI0 fun i j => .bl (decide (i < j))) ltI := binI0_ok fun _ _ _ => rfl
theorem leI_ok : BinOK K (rI0 fun i j => .bl (decide (i ≤ j))) leI := binI0_ok fun _ _ _ => rfl
theorem gtI_ok : BinOK K (rI0 fun i j => .bl (decide (j < i))) gtI := binI0_ok fun _ _ _ => rfl
theorem geI_ok : BinOK K (rI0 fun i j => .bl (decide (j ≤ i))) geI := binI0_ok fun _ _ _ => rfl
def negI : D → Option Rs
  | .int i => some (.val (.int (-i)))
  | _ => none
theorem negI_ok : UnOK K (rU fun i => .int (-i)) negI := by
  intro F H x d o l p e Q q
  cases d with
  | int i => cases e; exact ⟨i, p, same_val l (show Rep K F (.int (-i)) (.int (-i)) from rfl) q⟩
  | _ => cases e

/-! ### texts, lists, tuples laid together -/
theorem mkS_append (a b : Tx) : mkS a ++ mkS b = mkS (a ++ b) := by
  show Str.append ⟨a.toArray⟩ ⟨b.toArray⟩ = _
  simp [Str.append]
theorem mkS_len (a : Tx) : (mkS a).length = a.length := by simp [Str.length]
theorem okT_append {a b : Tx} (ha : okT a) (hb : okT b) (h : a.length + b.length ≤ LN) : okT (a ++ b) := ⟨by rw [List.length_append]; exact h, fun c hc => (List.mem_append.mp hc).elim (ha.2 c) (hb.2 c)⟩
theorem okT_sub {a b : Tx} (ha : okT a) (h : b.length ≤ a.length) (hs : ∀ c ∈ b, c ∈ a) : okT b := ⟨Nat.le_trans h ha.1, fun c hc => ha.2 c (hs c hc)⟩
def addS : D → D → Option Rs
  | .str a, .str b => if a.length + b.length ≤ LN then some (.val (.str (a ++ b))) else none
  | _, _ => none
theorem addS_ok : BinOK K (fun x y H Q => ∃ i j, x = .str i ∧ y = .str j ∧ i.length + j.length ≤ sizeLine ∧ Q (.str (i ++ j)) H) addS := by
  intro F H x y d1 d2 o l p1 p2 e Q q
  cases d1 with
  | str a =>
    cases d2 with
    | str b =>
      have e : (if a.length + b.length ≤ LN then some (Rs.val (.str (a ++ b))) else none) = some o := e
      by_cases hc : a.length + b.length ≤ LN
      case neg => rw [if_neg hc] at e; cases e
      rw [if_pos hc] at e
      cases e
      obtain ⟨rfl, oa⟩ := p1
      obtain ⟨rfl, ob⟩ := p2
      refine ⟨_, _, rfl, rfl, by rw [mkS_len, mkS_len, LN_eq]; exact hc, ?_⟩
      rw [mkS_append]
      exact same_val l (show Rep K F (.str (a ++ b)) _ from ⟨rfl, okT_append oa ob hc⟩) q
    | _ => cases e
  | _ => cases e
def addT : D → D → Option Rs
  | .tup a, .tup b => if a.length + b.length ≤ LN then some (.val (.tup (a ++ b))) else none
  | _, _ => none
theorem addT_ok : BinOK K (rCatA K) addT := by
  intro F H x y d1 d2 o l p1 p2 e Q q
  cases d1 with
  | tup a =>
    cases d2 with
    | tup b =>
      have e : (if a.length + b.length ≤ LN then some (Rs.val (.tup (a ++ b))) else none) = some o := e
      by_cases hc : a.length + b.length ≤ LN
      case neg => rw [if_neg hc] at e; cases e
      rw [if_pos hc] at e
      cases e
      obtain ⟨p, xs, rfl, sx, rx⟩ := p1
      obtain ⟨p', ys, rfl, sy, ry⟩ := p2
      refine ⟨p, p', xs, ys, rfl, rfl, l.sqT sx, l.sqT sy, by rw [rx.length, ry.length, LN_eq]; exact hc, fun h0 => ?_, fun _ h0 => ?_, fun _ _ n hn => ?_⟩
      · cases rx.nil_iff.mp h0
        exact same_val l (show Rep K F (.tup b) _ from ⟨p', ys, rfl, sy, ry⟩) q
      · cases ry.nil_iff.mp h0
        rw [List.append_nil] at q
        exact same_val l (show Rep K F (.tup a) _ from ⟨p, xs, rfl, sx, rx⟩) q
      · exact q _ _ _ (New.puts l hn) (NR.tuple l hn (rx.append ry))
    | _ => cases e
  | _ => cases e
def addL : D → D → Option Rs
  | .lst a, .lst b => if a.length + b.length ≤ LN then some (.fresh (.lst (a ++ b))) else none
  | _, _ => none
theorem addL_ok : BinOK K rCat addL := by
  intro F H x y d1 d2 o l p1 p2 e Q q
  cases d1 with
  | lst a =>
    cases d2 with
    | lst b =>
      have e : (if a.length + b.length ≤ LN then some (Rs.fresh (.lst (a ++ b))) else none) = some o := e
      by_cases hc : a.length + b.length ≤ LN
      case neg => rw [if_neg hc] at e; cases e
      rw [if_pos hc] at e
      cases e
      obtain ⟨p, xs, rfl, sx, rx⟩ := p1
      obtain ⟨p', ys, rfl, sy, ry⟩ := p2
      exact ⟨p, p', xs, ys, rfl, rfl, sx, sy, by rw [rx.length, ry.length, LN_eq]; exact hc, fun n hn => q _ F _ (New.put l hn) (NR.list l hn (rx.append ry))⟩
    | _ => cases e
  | _ => cases e
end
end VL
set_option Elab.async false
set_option linter.all false
set_option maxRecDepth 100000
/-! what operations give, on data: 2 -/
namespace VL
open PySem PySem.Spec L2

/-! ### data compared -/
mutual
def D.toP : D → PyData
  | .non => .none
  | .bl b => .bool b
  | .int i => .int i
  | .str l => .str (mkS l)
  | .tup xs => .tuple (D.toPs xs)
  | .lst xs => .list (D.toPs xs)
  | _ => .none
def D.toPs : List D → List PyData
  | [] => []
  | d :: ds => d.toP :: D.toPs ds
end
mutual
/-- plain data, not nested deeper than n -/
def D.pl : D → Nat → Bool
  | .tup xs, n + 1 => D.pls xs n
  | .lst xs, n + 1 => D.pls xs n
  | .tup _, 0 => false
  | .lst _, 0 => false
  | .scr _, _ => false
  | .dk _ _, _ => false
  | .dt _ _, _ => false
  | _, _ => true
def D.pls : List D → Nat → Bool
  | [], _ => true
  | d :: ds, n => d.pl n && D.pls ds n
end
mutual
def D.eqb : D → D → Bool
  | .non, .non => true
  | .bl a, .bl b => a == b
  | .bl a, .int j => (if a then 1 else 0) == j
  | .int i, .bl b => i == (if b then 1 else 0)
  | .int i, .int j => i == j
  | .str x, .str y => decide (x = y)
  | .lst xs, .lst ys => D.eqbs xs ys
  | .tup xs, .tup ys => D.eqbs xs ys
  | _, _ => false
def D.eqbs : List D → List D → Bool
  | [], [] => true
  | x :: xs, y :: ys => x.eqb y && D.eqbs xs ys
  | _, _ => false
end
theorem mkS_inj {a b : Tx} (h : mkS a = mkS b) : a = b := by
  have : a.toArray = b.toArray := Str.mk.inj h
  simpa using congrArg Array.toList this
mutual
theorem eqb_P : ∀ (a b : D) (n m : Nat), a.pl n = true → b.pl m = true → PyData.eqv a.toP b.toP = a.eqb b
  | .non, b, _, _, _, hb => by cases b <;> first | rfl | simp [D.pl] at hb | simp [D.toP, PyData.eqv, D.eqb]
  | .bl x, b, _, _, _, hb => by cases b <;> first | rfl | simp [D.pl] at hb | simp [D.toP, PyData.eqv, D.eqb]
  | .int i, b, _, _, _, hb => by cases b <;> first | rfl | simp [D.pl] at hb | simp [D.toP, PyData.eqv, D.eqb]
  | .str l, b, _, _, _, hb => by
    cases b with
    | str l' =>
      simp only [D.toP, PyData.eqv, D.eqb]
      rw [Bool.eq_iff_iff]
      simp only [beq_iff_eq, decide_eq_true_eq]
      exact ⟨mkS_inj, fun e => by rw [e]⟩
    | _ => first | rfl | simp [D.pl] at hb | simp [D.toP, PyData.eqv, D.eqb]
  | .tup xs, b, 0, _, ha, _ => by simp [D.pl] at ha
  | .tup xs, b, n + 1, m, ha, hb => by
    cases b with
    | tup ys =>
      cases m with
      | zero => simp [D.pl] at hb
      | succ m =>
        simp only [D.toP, PyData.eqv, D.eqb]
        exact eqbs_P xs ys n m (by simpa [D.pl] using ha) (by simpa [D.pl] using hb)
    | _ => first | rfl | simp [D.pl] at hb | simp [D.toP, PyData.eqv, D.eqb]
  | .lst xs, b, 0, _, ha, _ => by simp [D.pl] at ha
  | .lst xs, b, n + 1, m, ha, hb => by
    cases b with
    | lst ys =>
      cases m with
      | zero => simp [D.pl] at hb
      | succ m =>
        simp only [D.toP, PyData.eqv, D.eqb]
        exact eqbs_P xs ys n m (by simpa [D.pl] using ha) (by simpa [D.pl] using hb)
    | _ => first | rfl | simp [D.pl] at hb | simp [D.toP, PyData.eqv, D.eqb]
  | .scr _, _, _, _, ha, _ => by simp [D.pl] at ha
  | .dk _ _, _, _, _, ha, _ => by simp [D.pl] at ha
  | .dt _ _, _, _, _, ha, _ => by simp [D.pl] at ha
theorem eqbs_P : ∀ (a b : List D) (n m : Nat), D.pls a n = true → D.pls b m = true → PyData.eqvAll (D.toPs a) (D.toPs b) = D.eqbs a b
  | [], [], _, _, _, _ => by simp [D.toPs, PyData.eqvAll, D.eqbs]
  | [], _ :: _, _, _, _, _ => by simp [D.toPs, PyData.eqvAll, D.eqbs]
  | _ :: _, [], _, _, _, _ => by simp [D.toPs, PyData.eqvAll, D.eqbs]
  | x :: xs, y :: ys, n, m, ha, hb => by
    simp only [D.pls, Bool.and_eq_true] at ha hb
    simp only [D.toPs, PyData.eqvAll, D.eqbs]
    rw [eqb_P x y n m ha.1 hb.1, eqbs_P xs ys n m ha.2 hb.2]
end
section
variable {K : PySem.W.Frag} {F H : Hp}
mutual
theorem dp_of (l : Le F H) : ∀ (d : D) (n : Nat) {v : V}, Rep K F d v → d.pl n = true → Dp K H v d.toP ∧ d.toP.canLay0 = true ∧ d.toP.depth ≤ n
  | .non, n, v, r, _ => by cases r; exact ⟨by simp only [D.toP]; exact .non, by simp [D.toP, PyData.canLay0], by simp [D.toP, PyData.depth]⟩
  | .bl b, n, v, r, _ => by cases r; exact ⟨by simp only [D.toP]; exact .bl b, by simp [D.toP, PyData.canLay0], by simp [D.toP, PyData.depth]⟩
  | .int b, n, v, r, _ => by cases r; exact ⟨by simp only [D.toP]; exact .int b, by simp [D.toP, PyData.canLay0], by simp [D.toP, PyData.depth]⟩
  | .str b, n, v, r, _ => by
    obtain ⟨rfl, o⟩ := r
    refine ⟨by simp only [D.toP]; exact .str _, ?_, by simp [D.toP, PyData.depth]⟩
    simp only [D.toP, PyData.canLay0, PyData.strOk]
    rw [List.all_toArray, List.all_eq_true]
    exact fun c hc => decide_eq_true (o.2 c hc)
  | .tup xs, 0, v, r, h => by simp [D.pl] at h
  | .tup xs, n + 1, v, r, h => by
    obtain ⟨a, vs, rfl, s, r⟩ := r
    obtain ⟨a1, a2, a3⟩ := dps_of l xs n r (by simpa [D.pl] using h)
    refine ⟨by simp only [D.toP]; exact .tup (l.sqT s) a1, by simpa [D.toP, PyData.canLay0] using a2, ?_⟩
    simp only [D.toP, PyData.depth]
    omega
  | .lst xs, 0, v, r, h => by simp [D.pl] at h
  | .lst xs, n + 1, v, r, h => by
    obtain ⟨a, vs, rfl, s, r⟩ := r
    obtain ⟨a1, a2, a3⟩ := dps_of l xs n r (by simpa [D.pl] using h)
    refine ⟨by simp only [D.toP]; exact .lst (SqL.of (l _ _ s)) a1, by simpa [D.toP, PyData.canLay0] using a2, ?_⟩
    simp only [D.toP, PyData.depth]
    omega
  | .scr _, _, _, _, h => by simp [D.pl] at h
  | .dk _ _, _, _, _, h => by simp [D.pl] at h
  | .dt _ _, _, _, _, h => by simp [D.pl] at h
theorem dps_of (l : Le F H) : ∀ (ds : List D) (n : Nat) {vs : List V}, RepL K F ds vs → D.pls ds n = true → DpAll K H vs (D.toPs ds) ∧ PyData.canLayAll0 (D.toPs ds) = true ∧ PyData.depthAll (D.toPs ds) ≤ n
  | [], n, vs, r, _ => by cases r; exact ⟨by simp only [D.toPs]; exact .nil, by simp [D.toPs, PyData.canLayAll0], by simp [D.toPs, PyData.depthAll]⟩
  | d :: ds, n, vs, r, h => by
    obtain ⟨v, vr, rfl, r1, r2⟩ := r
    simp only [D.pls, Bool.and_eq_true] at h
    obtain ⟨a1, a2, a3⟩ := dp_of l d n r1 h.1
    obtain ⟨b1, b2, b3⟩ := dps_of l ds n r2 h.2
    refine ⟨by simp only [D.toPs]; exact .cons a1 b1, by simp [D.toPs, PyData.canLayAll0, a2, b2], ?_⟩
    simp only [D.toPs, PyData.depthAll]
    omega
end
/-- .. of what may be read now -/
theorem dpk_of (l : Le F H) {d : D} {n : Nat} {v : V} (p : Pk K F H d v) (h : d.pl n = true) : Dp K H v d.toP ∧ d.toP.canLay0 = true ∧ d.toP.depth ≤ n := by
  cases d with
  | lst xs =>
    obtain ⟨a, vs, rfl, s, r⟩ := p
    cases n with
    | zero => simp [D.pl] at h
    | succ n =>
      obtain ⟨a1, a2, a3⟩ := dps_of l xs n r (by simpa [D.pl] using h)
      refine ⟨by simp only [D.toP]; exact .lst (SqL.of s) a1, by simpa [D.toP, PyData.canLay0] using a2, ?_⟩
      simp only [D.toP, PyData.depth]
      omega
  | scr _ => simp [D.pl] at h
  | dk _ _ => simp [D.pl] at h
  | dt _ _ => simp [D.pl] at h
  | _ => exact dp_of l _ n p h
theorem shaped_of {d : D} {n : Nat} (h : d.toP.canLay0 = true ∧ d.toP.depth ≤ n) (hn : n ≤ 64) : SeqAt.shaped d.toP = true := by
  unfold SeqAt.shaped
  rw [h.1, decide_eq_true (Nat.le_trans h.2 hn)]
  rfl
@[simp] def semEq : D → D → Option Rs := fun a b => if a.pl 60 = true ∧ b.pl 60 = true then some (.val (.bl (a.eqb b))) else none
@[simp] def semNe : D → D → Option Rs := fun a b => if a.pl 60 = true ∧ b.pl 60 = true then some (.val (.bl (!a.eqb b))) else none
theorem semEq_ok : BinOK K (rEqD K) semEq := by
  intro F H x y d1 d2 o l p1 p2 e Q q
  unfold semEq at e
  by_cases hc : d1.pl 60 = true ∧ d2.pl 60 = true
  case neg => rw [if_neg hc] at e; cases e
  rw [if_pos hc] at e
  cases e
  obtain ⟨a1, a2⟩ := dpk_of l p1 hc.1
  obtain ⟨b1, b2⟩ := dpk_of l p2 hc.2
  refine ⟨_, _, a1, b1, shaped_of a2 (by omega), shaped_of b2 (by omega), ?_⟩
  rw [eqb_P _ _ _ _ hc.1 hc.2]
  exact same_val l (show Rep K F (.bl _) _ from rfl) q
theorem semNe_ok : BinOK K (rNeD K) semNe := by
  intro F H x y d1 d2 o l p1 p2 e Q q
  unfold semNe at e
  by_cases hc : d1.pl 60 = true ∧ d2.pl 60 = true
  case neg => rw [if_neg hc] at e; cases e
  rw [if_pos hc] at e
  cases e
  obtain ⟨a1, a2⟩ := dpk_of l p1 hc.1
  obtain ⟨b1, b2⟩ := dpk_of l p2 hc.2
  refine ⟨_, _, a1, b1, shaped_of a2 (by omega), shaped_of b2 (by omega), ?_⟩
  rw [eqb_P _ _ _ _ hc.1 hc.2]
  exact same_val l (show Rep K F (.bl _) _ from rfl) q

/-! ### is None, is of bools -/
@[simp] def isNon : D → Bool
  | .non => true
  | _ => false
theorem pk_non {d : D} {v : V} (p : Pk K F H d v) : decide (v = .non) = isNon d := by
  cases d with
  | non => cases p; rfl
  | bl b => cases p; rfl
  | int b => cases p; rfl
  | str b => obtain ⟨rfl, _⟩ := p; rfl
  | tup b => obtain ⟨a, xs, rfl, _⟩ := p; rfl
  | lst b => obtain ⟨a, xs, rfl, _⟩ := p; rfl
  | scr b => obtain ⟨a, xs, rfl, _⟩ := p; rfl
  | dk b c => obtain ⟨a, xs, rfl, _⟩ := p; rfl
  | dt b c => obtain ⟨a, xs, rfl, _⟩ := p; rfl
@[simp] def semIs : D → D → Option Rs
  | a, .non => some (.val (.bl (isNon a)))
  | .bl a, .bl b => some (.val (.bl (a == b)))
  | _, _ => none
@[simp] def semIsNot : D → D → Option Rs
  | a, .non => some (.val (.bl (!isNon a)))
  | .bl a, .bl b => some (.val (.bl (!(a == b))))
  | _, _ => none
theorem semIs_ok : BinOK K (fun x y H Q => (y = .non ∧ Q (.bl (decide (x = .non))) H) ∨ rIsB x y H Q) semIs := by
  intro F H x y d1 d2 o l p1 p2 e Q q
  cases d2 with
  | non =>
    have e : some (Rs.val (.bl (isNon d1))) = some o := by cases d1 <;> exact e
    cases e
    cases p2
    exact .inl ⟨rfl, by rw [pk_non p1]; exact same_val l (show Rep K F (.bl _) _ from rfl) q⟩
  | bl b =>
    cases d1 with
    | bl a =>
      cases e
      cases p1; cases p2
      exact .inr ⟨a, b, rfl, rfl, by rw [← Bool.beq_eq_decide_eq]; exact same_val l (show Rep K F (.bl _) _ from rfl) q⟩
    | _ => cases e
  | _ => cases d1 <;> cases e
theorem semIsNot_ok : BinOK K (fun x y H Q => (y = .non ∧ Q (.bl (!decide (x = .non))) H) ∨ rNotB x y H Q) semIsNot := by
  intro F H x y d1 d2 o l p1 p2 e Q q
  cases d2 with
  | non =>
    have e : some (Rs.val (.bl (!isNon d1))) = some o := by cases d1 <;> exact e
    cases e
    cases p2
    exact .inl ⟨rfl, by rw [pk_non p1]; exact same_val l (show Rep K F (.bl _) _ from rfl) q⟩
  | bl b =>
    cases d1 with
    | bl a =>
      cases e
      cases p1; cases p2
      exact .inr ⟨a, b, rfl, rfl, by rw [← Bool.beq_eq_decide_eq]; exact same_val l (show Rep K F (.bl _) _ from rfl) q⟩
    | _ => cases e
  | _ => cases d1 <;> cases e
theorem op_isA {X : Cx} : OpR X (compareOp .Is) (fun x y H Q => (y = .non ∧ Q (.bl (decide (x = .non))) H) ∨ rIsB x y H Q) := op_isN.or op_isBl
theorem op_isNotA {X : Cx} : OpR X (compareOp .IsNot) (fun x y H Q => (y = .non ∧ Q (.bl (!decide (x = .non))) H) ∨ rNotB x y H Q) := op_notN.or op_notBl

/-! ### x in xs -/
def rInA (K : PySem.W.Frag) (neg : Bool) : R2 := fun x y H Q => (∃ d ds, Dp K H x d ∧ (Dp K H y (.list ds) ∨ Dp K H y (.tuple ds)) ∧ SeqAt.shaped d = true ∧ SeqAt.shaped (.list ds) = true ∧ Q (.bl (if neg then !(ds.any fun z => PyData.eqv z d) else ds.any fun z => PyData.eqv z d)) H) ∨
  ∃ i j, x = .str i ∧ y = .str j ∧ Q (.bl (if neg then !(!(Builtin.Str.occurrences j i 0 j.length 1).isEmpty) else !(Builtin.Str.occurrences j i 0 j.length 1).isEmpty)) H
theorem room_in {A : Around} {d : PyData} {ds : List PyData} (sd : SeqAt.shaped d = true) (hu : A.units + 65 < cLine) : A.units + 1 + min (PyData.depthAll ds) d.depth < cLine := by
  have h1 := SeqAt.depth_of_shaped sd
  have h2 : min (PyData.depthAll ds) d.depth ≤ d.depth := Nat.min_le_right _ _
  omega
theorem op_inA {X : Cx} (hu : X.A.units + 65 < cLine) : OpR X (compareOp .In) (rInA X.K false) := by
  intro pins s σ H x y v u Q I rx ry h
  rcases h with ⟨d, ds, hd, he, sd, se, q⟩ | ⟨i, j, rfl, rfl, q⟩
  · obtain ⟨as, r1⟩ := Dp.reads I d x v hd rx
    rcases he with he | he
    · obtain ⟨bs, r2⟩ := Dp.reads I (.list ds) y u he ry
      exact SeqAt.in_list_reads r2 r1 (SeqAt.canLay_of_shaped se) (SeqAt.canLay_of_shaped sd) (room_in sd hu) ⟨.bl _, H, I, rfl, q⟩
    · obtain ⟨bs, r2⟩ := Dp.reads I (.tuple ds) y u he ry
      exact SeqAt.in_tuple_reads r2 r1 (SeqAt.canLay_of_shaped se) (SeqAt.canLay_of_shaped sd) (room_in sd hu) ⟨.bl _, H, I, rfl, q⟩
  · exact op_in_str pins s σ H _ _ v u Q I rx ry ⟨i, j, rfl, rfl, q⟩
theorem op_notInA {X : Cx} (hu : X.A.units + 65 < cLine) : OpR X (compareOp .NotIn) (rInA X.K true) := by
  intro pins s σ H x y v u Q I rx ry h
  rcases h with ⟨d, ds, hd, he, sd, se, q⟩ | ⟨i, j, rfl, rfl, q⟩
  · obtain ⟨as, r1⟩ := Dp.reads I d x v hd rx
    rcases he with he | he
    · obtain ⟨bs, r2⟩ := Dp.reads I (.list ds) y u he ry
      exact SeqAt.notIn_list_reads r2 r1 (SeqAt.canLay_of_shaped se) (SeqAt.canLay_of_shaped sd) (room_in sd hu) ⟨.bl _, H, I, rfl, q⟩
    · obtain ⟨bs, r2⟩ := Dp.reads I (.tuple ds) y u he ry
      exact SeqAt.notIn_tuple_reads r2 r1 (SeqAt.canLay_of_shaped se) (SeqAt.canLay_of_shaped sd) (room_in sd hu) ⟨.bl _, H, I, rfl, q⟩
  · exact op_notin_str pins s σ H _ _ v u Q I rx ry ⟨i, j, rfl, rfl, q⟩
/-- how often, and where, a text stands in a text -/
def inTx (x y : Tx) : Bool := !(Builtin.Str.occurrences (mkS y) (mkS x) 0 y.length 1).isEmpty
def hasD (x : D) (ys : List D) : Bool := ys.any fun z => z.eqb x
def inD : D → D → Option Bool
  | .str x, .str y => some (inTx x y)
  | x, .lst ys => if x.pl 60 = true ∧ D.pls ys 59 = true then some (hasD x ys) else none
  | x, .tup ys => if x.pl 60 = true ∧ D.pls ys 59 = true then some (hasD x ys) else none
  | _, _ => none
def semIn : D → D → Option Rs := fun a b => (inD a b).bind fun c => some (.val (.bl c))
def semNotIn : D → D → Option Rs := fun a b => (inD a b).bind fun c => some (.val (.bl (!c)))
theorem hasD_P (d : D) (hd : d.pl 60 = true) : ∀ (ys : List D), D.pls ys 59 = true → (D.toPs ys).any (fun z => PyData.eqv z d.toP) = hasD d ys
  | [], _ => by simp [D.toPs, hasD]
  | y :: ys, h => by
    simp only [D.pls, Bool.and_eq_true] at h
    have ih := hasD_P d hd ys h.2
    simp only [D.toPs, hasD, List.any_cons] at ih ⊢
    rw [ih, eqb_P y d 59 60 h.1 hd]
theorem inD_ok {neg : Bool} {F H : Hp} {x y : V} {d1 d2 : D} {c : Bool} (l : Le F H) (p1 : Pk K F H d1 x) (p2 : Pk K F H d2 y) (e : inD d1 d2 = some c) {Q : VK} (q : Q (.bl (if neg then !c else c)) H) : rInA K neg x y H Q := by
  have seq : ∀ ys : List D, (Dp K H y (.list (D.toPs ys)) ∨ Dp K H y (.tuple (D.toPs ys))) → PyData.canLayAll0 (D.toPs ys) = true → PyData.depthAll (D.toPs ys) ≤ 59 → D.pls ys 59 = true → d1.pl 60 = true → hasD d1 ys = c → rInA K neg x y H Q := fun ys hd a2 a3 h1 h2 hc => by
    obtain ⟨b1, b2⟩ := dpk_of l p1 h2
    refine .inl ⟨_, D.toPs ys, b1, hd, shaped_of b2 (by omega), ?_, ?_⟩
    · unfold SeqAt.shaped
      rw [show PyData.canLay0 (.list (D.toPs ys)) = true by simpa [PyData.canLay0] using a2, decide_eq_true (by simp only [PyData.depth]; omega)]
      rfl
    · rw [hasD_P d1 h2 ys h1, hc]; exact q
  have lst : ∀ ys : List D, d2 = .lst ys → (if d1.pl 60 = true ∧ D.pls ys 59 = true then some (hasD d1 ys) else none) = some c → rInA K neg x y H Q := fun ys e2 h3 => by
    subst e2
    by_cases hc : d1.pl 60 = true ∧ D.pls ys 59 = true
    case neg => rw [if_neg hc] at h3; cases h3
    rw [if_pos hc] at h3
    obtain ⟨a, vs, rfl, s, r⟩ := p2
    obtain ⟨a1, a2, a3⟩ := dps_of l ys 59 r hc.2
    exact seq ys (.inl (.lst (SqL.of s) a1)) a2 a3 hc.2 hc.1 (Option.some.inj h3)
  have tup : ∀ ys : List D, d2 = .tup ys → (if d1.pl 60 = true ∧ D.pls ys 59 = true then some (hasD d1 ys) else none) = some c → rInA K neg x y H Q := fun ys e2 h3 => by
    subst e2
    by_cases hc : d1.pl 60 = true ∧ D.pls ys 59 = true
    case neg => rw [if_neg hc] at h3; cases h3
    rw [if_pos hc] at h3
    obtain ⟨a, vs, rfl, s, r⟩ := p2
    obtain ⟨a1, a2, a3⟩ := dps_of l ys 59 r hc.2
    exact seq ys (.inr (.tup (l.sqT s) a1)) a2 a3 hc.2 hc.1 (Option.some.inj h3)
  cases d2 with
  | lst ys => exact lst ys rfl (by cases d1 <;> exact e)
  | tup ys => exact tup ys rfl (by cases d1 <;> exact e)
  | str l' =>
    cases d1 with
    | str l1 =>
      cases e
      obtain ⟨rfl, _⟩ := p1
      obtain ⟨rfl, _⟩ := p2
      refine .inr ⟨_, _, rfl, rfl, ?_⟩
      rw [mkS_len]
      exact q
    | _ => cases e
  | _ => cases d1 <;> cases e
theorem semIn_ok : BinOK K (rInA K false) semIn := by
  intro F H x y d1 d2 o l p1 p2 e Q q
  obtain ⟨c, h1, e⟩ := obind e
  cases e
  exact inD_ok l p1 p2 h1 (same_val l (show Rep K F (.bl _) _ from rfl) q)
theorem semNotIn_ok : BinOK K (rInA K true) semNotIn := by
  intro F H x y d1 d2 o l p1 p2 e Q q
  obtain ⟨c, h1, e⟩ := obind e
  cases e
  exact inD_ok l p1 p2 h1 (same_val l (show Rep K F (.bl _) _ from rfl) q)
end
end VL
set_option Elab.async false
set_option linter.all false
set_option maxRecDepth 100000
/-! what operations give, on data: 3 -/
namespace VL
open PySem PySem.Spec L2

section
variable {K : PySem.W.Frag} {X : Cx}
/-! ### + and * of any kind -/
@[simp] def semAdd : D → D → Option Rs
  | .int i, .int j => some (.val (.int (i + j)))
  | .str a, .str b => if a.length + b.length ≤ LN then some (.val (.str (a ++ b))) else none
  | .tup a, .tup b => if a.length + b.length ≤ LN then some (.val (.tup (a ++ b))) else none
  | .lst a, .lst b => if a.length + b.length ≤ LN then some (.fresh (.lst (a ++ b))) else none
  | _, _ => none
abbrev rAddA (K : PySem.W.Frag) : R2 := fun x y H Q => rI0 (fun i j => .int (i + j)) x y H Q ∨ (∃ i j, x = .str i ∧ y = .str j ∧ i.length + j.length ≤ sizeLine ∧ Q (.str (i ++ j)) H) ∨ rCatA K x y H Q ∨ rCat x y H Q
theorem op_addA : OpR X (binaryOp .Add) (rAddA X.K) := op_add.or (op_add_str.or (op_catA.or op_cat))
theorem semAdd_ok : BinOK K (rAddA K) semAdd := BinOK.imp (addI_ok.or (addS_ok.or (addT_ok.or addL_ok))) fun a b o h => by
  cases a with
  | int i => cases b with
    | int j => exact h
    | _ => cases h
  | str x => cases b with
    | str y =>
      show (none : Option Rs).or ((addS (.str x) (.str y)).or _) = some o
      rw [show addS (.str x) (.str y) = some o from h]
      rfl
    | _ => cases h
  | tup x => cases b with
    | tup y =>
      show (none : Option Rs).or ((none : Option Rs).or ((addT (.tup x) (.tup y)).or _)) = some o
      rw [show addT (.tup x) (.tup y) = some o from h]
      rfl
    | _ => cases h
  | lst x => cases b with
    | lst y => exact h
    | _ => cases h
  | _ => cases h
def semMul : D → D → Option Rs
  | .int i, .int j => if cMul i j = true then some (.val (.int (i * j))) else none
  | .lst a, .int k => if k < 2 ^ 24 ∧ -(2 ^ 24) < k ∧ a.length * k.toNat ≤ LN then some (.fresh (.lst (List.replicate k.toNat a).flatten)) else none
  | .str a, .int k => if k < 2 ^ 24 ∧ -(2 ^ 24) < k ∧ a.length * k.toNat ≤ LN then some (.val (.str (List.replicate k.toNat a).flatten)) else none
  | _, _ => none
def rMulS : R2 := fun x y H Q => ∃ (a : Tx) (k : Int), x = .str (mkS a) ∧ y = .int k ∧ k < 2 ^ 24 ∧ -(2 ^ 24) < k ∧ a.length * k.toNat ≤ LN ∧ Q (.str (mkS (List.replicate k.toNat a).flatten)) H
theorem foldl_rep (x : Array Nat) : ∀ (n : Nat) (z : Array Nat), List.foldl (fun a b => a ++ b) z (List.replicate n x) = z ++ ((List.replicate n x.toList).flatten).toArray := by
  intro n
  induction n with
  | zero => intro z; simp
  | succ n ih =>
    intro z
    rw [List.replicate_succ, List.foldl_cons, ih, List.replicate_succ, List.flatten_cons]
    apply Array.ext'
    simp
abbrev rMulA : R2 := fun x y H Q => rI CMulA (fun i j => .int (i * j)) x y H Q ∨ rRep x y H Q ∨ rMulS x y H Q
theorem rep_ok {F : Hp} {ds : List D} {xs : List V} (r : RepL K F ds xs) : ∀ n : Nat, RepL K F (List.replicate n ds).flatten (List.replicate n xs).flatten
  | 0 => RepL.nil
  | n + 1 => by
    rw [List.replicate_succ, List.replicate_succ, List.flatten_cons, List.flatten_cons]
    exact r.append (rep_ok r n)
theorem semMul_ok : BinOK K rMulA semMul := by
  intro F H x y d1 d2 o l p1 p2 e Q q
  cases d2 with
  | int k =>
    cases d1 with
    | int i => exact .inl (mulI_ok F H x y (.int i) (.int k) o l p1 p2 e Q q)
    | lst a =>
      have e : (if k < 2 ^ 24 ∧ -(2 ^ 24) < k ∧ a.length * k.toNat ≤ LN then some (Rs.fresh (.lst (List.replicate k.toNat a).flatten)) else none) = some o := e
      by_cases hc : k < 2 ^ 24 ∧ -(2 ^ 24) < k ∧ a.length * k.toNat ≤ LN
      case neg => rw [if_neg hc] at e; cases e
      rw [if_pos hc] at e
      cases e
      obtain ⟨p, xs, rfl, sx, rx⟩ := p1
      cases p2
      refine .inr (.inl ⟨p, k, xs, rfl, rfl, sx, by omega, by omega, by rw [rx.length, LN_eq]; exact hc.2.2, fun n hn => q _ F _ (New.put l hn) (NR.list l hn (rep_ok rx _))⟩)
    | str a =>
      have e : (if k < 2 ^ 24 ∧ -(2 ^ 24) < k ∧ a.length * k.toNat ≤ LN then some (Rs.val (.str (List.replicate k.toNat a).flatten)) else none) = some o := e
      by_cases hc : k < 2 ^ 24 ∧ -(2 ^ 24) < k ∧ a.length * k.toNat ≤ LN
      case neg => rw [if_neg hc] at e; cases e
      rw [if_pos hc] at e
      cases e
      obtain ⟨rfl, oa⟩ := p1
      cases p2
      refine .inr (.inr ⟨a, k, rfl, rfl, hc.1, hc.2.1, hc.2.2, same_val l (show Rep K F (.str _) _ from ⟨rfl, ?_, ?_⟩) q⟩)
      · rw [List.length_flatten, List.map_replicate, List.sum_replicate_nat, Nat.mul_comm]; exact hc.2.2
      · intro c hc'
        obtain ⟨z, hz, hcz⟩ := List.mem_flatten.mp hc'
        rw [(List.mem_replicate.mp hz).2] at hcz
        exact oa.2 c hcz
    | _ => cases e
  | _ => cases d1 <;> cases e
theorem op_mulS : OpR X (binaryOp .Mult) rMulS := by
  intro pins s σ H x y v u Q I rx ry h
  obtain ⟨a, k, rfl, rfl, h1, h2, h3, q⟩ := h
  obtain ⟨t, rfl⟩ := rx
  obtain ⟨t', rfl⟩ := ry
  have hz : (2 : Int) ^ 24 = 16777216 := by decide
  have hz63 : (2 : Int) ^ 63 = 9223372036854775808 := by decide
  refine SB.mul (x := mkS a) (n := k) ⟨?_, fun n1 n2 => ?_, fun n1 n2 => ?_⟩ fun t2 tk => ?_
  · rw [decide_eq_false (by omega), decide_eq_false (by omega)]; rfl
  · rw [mkS_len]
    have hk : 0 < k := by omega
    have : (a.length : Int) * k ≤ 16777216 := by
      have h6 : ((a.length * k.toNat : Nat) : Int) ≤ 16777216 := Int.ofNat_le.mpr h3
      rw [Int.natCast_mul, Int.toNat_of_nonneg (by omega)] at h6
      exact h6
    intro hgt
    have h4 : (2 ^ 63 - 1) / k < (a.length : Int) := hgt
    have h5 : (2 : Int) ^ 63 - 1 < a.length * k := by
      have := (Int.ediv_lt_iff_lt_mul hk).mp h4
      omega
    omega
  · rw [mkS_len]
    have : ¬ (a.length * k.toNat > sizeLine) := by rw [LN_eq]; omega
    exact decide_eq_false this
  · have e : Txt.mul (mkS a) k = mkS (List.replicate k.toNat a).flatten := by
      unfold Txt.mul
      by_cases hk : k < 1
      · rw [if_pos hk]
        have : k.toNat = 0 := by omega
        rw [this]
        rfl
      · rw [if_neg hk, mkS_len]
        by_cases h1 : (k == 1 || a.length == 0) = true
        · rw [if_pos h1]
          rcases (Bool.or_eq_true _ _).mp h1 with e1 | e1
          · have e2 : k = 1 := by simpa using e1
            subst e2
            simp
          · have e2 : a = [] := by simpa using e1
            subst e2
            congr 1
            rw [show (List.replicate k.toNat ([] : List Nat)).flatten = [] by
              rw [List.flatten_eq_nil_iff]
              intro l hl
              exact (List.mem_replicate.mp hl).2]
        · rw [if_neg h1]
          congr 1
          rw [foldl_rep]
          simp
    rw [e]
    exact ⟨.str _, H, I.tok _, ⟨_, rfl⟩, q⟩
theorem op_mulAny : OpR X (binaryOp .Mult) rMulA := op_mulA.or (op_rep.or op_mulS)
end
end VL
set_option Elab.async false
set_option linter.all false
set_option maxRecDepth 100000
/-! what operations give, on data: 4 -/
namespace VL
open PySem PySem.Spec L2

section
variable {K : PySem.W.Frag} {X : Cx}
/-! ### order of ints and of texts -/
@[simp] def cmpD (fi : Int → Int → Bool) (fs : Tx → Tx → Bool) : D → D → Option Rs
  | .int i, .int j => some (.val (.bl (fi i j)))
  | .str a, .str b => some (.val (.bl (fs a b)))
  | _, _ => none
@[simp] def semLt := cmpD (fun i j => decide (i < j)) fun a b => decide (a < b)
@[simp] def semLe := cmpD (fun i j => decide (i ≤ j)) fun a b => !decide (b < a)
@[simp] def semGt := cmpD (fun i j => decide (j < i)) fun a b => decide (b < a)
@[simp] def semGe := cmpD (fun i j => decide (j ≤ i)) fun a b => !decide (a < b)
def rCmp (fi : Int → Int → Bool) (fs : Tx → Tx → Bool) : R2 := fun x y H Q => rI0 (fun i j => .bl (fi i j)) x y H Q ∨ ∃ i j, x = .str i ∧ y = .str j ∧ Q (.bl (fs i.cps.toList j.cps.toList)) H
theorem cmpD_ok {fi : Int → Int → Bool} {fs : Tx → Tx → Bool} : BinOK K (rCmp fi fs) (cmpD fi fs) := by
  intro F H x y d1 d2 o l p1 p2 e Q q
  cases d1 with
  | int i =>
    cases d2 with
    | int j => cases e; exact .inl ⟨i, j, p1, p2, same_val l (show Rep K F (.bl _) _ from rfl) q⟩
    | _ => cases e
  | str a =>
    cases d2 with
    | str b => cases e; exact .inr ⟨_, _, p1.1, p2.1, same_val l (show Rep K F (.bl _) _ from rfl) q⟩
    | _ => cases e
  | _ => cases e
theorem op_ltA : OpR X (compareOp .Lt) (rCmp (fun i j => decide (i < j)) fun a b => decide (a < b)) := op_lt.or op_lt_str
theorem op_leA : OpR X (compareOp .LtE) (rCmp (fun i j => decide (i ≤ j)) fun a b => !decide (b < a)) := op_le.or op_le_str
theorem op_gtA : OpR X (compareOp .Gt) (rCmp (fun i j => decide (j < i)) fun a b => decide (b < a)) := op_gt.or op_gt_str
theorem op_geA : OpR X (compareOp .GtE) (rCmp (fun i j => decide (j ≤ i)) fun a b => !decide (a < b)) := op_ge.or op_ge_str

/-! ### a < b < c -/
variable {a b c : Expr} {da db dc : DE} {pos : Pos}
def dChain (s1 s2 : D → D → Option Rs) (da db dc : DE) : DE := fun env => (da env).bind fun (r1, e1) => (db e1).bind fun (r2, e2) => (r1.data e2).bind fun d1 => (r2.data e2).bind fun d2 => (s1 d1 d2).bind fun o => (valR o).bind fun z => (bOf z).bind fun t =>
  if t = true then (dc e2).bind fun (r3, e3) => (r2.data e3).bind fun d2' => (r3.data e3).bind fun d3 => (s2 d2' d3).bind fun o' => some (o', e3) else some (.val (.bl false), e2)
theorem chain_ok {K : PySem.W.Frag} {r r' : R2} {s1 s2 : D → D → Option Rs} (h1 : BinOK K r s1) (h2 : BinOK K r' s2) {σ : St} {H : Hp} {Q : VK} (h : rdE K (dChain s1 s2 da db dc) σ H Q) : tChain r r' (rdE K da) (rdE K db) (rdE K dc) σ H Q := by
  obtain ⟨B, env, F, o, env', S, hd, q⟩ := h
  obtain ⟨⟨r1, e1⟩, g1, hd⟩ := obind hd
  obtain ⟨⟨r2, e2⟩, g2, hd⟩ := obind hd
  obtain ⟨d1, g3, hd⟩ := obind hd
  obtain ⟨d2, g4, hd⟩ := obind hd
  obtain ⟨o1, g5, hd⟩ := obind hd
  obtain ⟨z, g6, hd⟩ := obind hd
  obtain ⟨t, g7, hd⟩ := obind hd
  cases valR_eq g6
  refine ⟨B, env, F, r1, e1, S, g1, fun v F1 H1 S1 T1 R1 => ⟨B, e1, F1, r2, e2, S1, g2, fun u F2 H2 S2 T2 R2 => ?_⟩⟩
  refine h1 F2 H2 v u d1 d2 _ S2.sub (RR.pk S2 (R1.step T2) g3) (RR.pk S2 R2 g4) g5 _ fun w F3 H3 n nr => ?_
  have T := (T1.trans T2).trans (n.tr (env := e2) (σ := σ))
  have hz : z = .bl t := by cases z <;> cases g7; rfl
  subst hz
  cases nr
  refine ⟨t, rfl, ?_⟩
  have S3 := S2.new n
  cases t with
  | false =>
    have hd : some (Rs.val (.bl false), e2) = some (o, env') := hd
    cases hd
    exact q _ F3 H3 S3 T rfl
  | true =>
    obtain ⟨⟨r3, e3⟩, k1, hd⟩ := obind (show (dc e2).bind _ = some (o, env') from hd)
    obtain ⟨d2', k2, hd⟩ := obind hd
    obtain ⟨d3, k3, hd⟩ := obind hd
    obtain ⟨o2, k4, hd⟩ := obind hd
    cases hd
    refine ⟨B, e2, F3, r3, env', S3, k1, fun w F4 H4 S4 T4 R4 => ?_⟩
    refine h2 F4 H4 u w d2' d3 o S4.sub (RR.pk S4 ((R2.step n.tr).step T4) k2) (RR.pk S4 R4 k3) k4 Q fun w5 F5 H5 n5 nr5 => ?_
    have T5 := T.trans T4
    exact q w5 F5 H5 (S4.new n5) (T5.trans n5.tr) ((nr5.rr S4).back fun a z => T5.dom' z)
theorem ped_chain {op op' : CmpOp} {r r' : R2} {s1 s2 : D → D → Option Rs} (ho : OpR X (compareOp op) r) (h1 : BinOK X.K r s1) (ho' : OpR X (compareOp op') r') (h2 : BinOK X.K r' s2) (ha : PE X a (rdE X.K da)) (hb : PE X b (rdE X.K db)) (hc : PE X c (rdE X.K dc))
    (hm : lastMarks [op, op'] [b, c] = false := by with_unfolding_all rfl) : PE X (.Compare a [op, op'] [b, c] pos) (rdE X.K (dChain s1 s2 da db dc)) := PE.conv (pe_chain ho ho' ha hb hc hm) fun _ _ _ h => chain_ok h1 h2 h
theorem ptd_chain {op op' : CmpOp} {r r' : R2} {s1 s2 : D → D → Option Rs} (ho : OpR X (compareOp op) r) (h1 : BinOK X.K r s1) (ho' : OpR X (compareOp op') r') (h2 : BinOK X.K r' s2) (ha : PE X a (rdE X.K da)) (hb : PE X b (rdE X.K db)) (hc : PE X c (rdE X.K dc))
    (hm : lastMarks [op, op'] [b, c] = false := by with_unfolding_all rfl) : PT X (.Compare a [op, op'] [b, c] pos) (rdT X.K (dTest (dChain s1 s2 da db dc))) := PT.conv (pt_chain ho ho' ha hb hc hm) fun _ _ _ h => chain_ok h1 h2 (test_ok h)

/-! ### xs[i] -/
def semIx : D → D → Option Rs
  | .lst xs, .int i => (atI xs i).bind fun d => some (.val d)
  | .tup xs, .int i => (atI xs i).bind fun d => some (.val d)
  | .scr xs, .int i => (atI xs i).bind fun d => some (.val d)
  | .str l, .int i => (atI l i).bind fun c => some (.val (.str [c]))
  | _, _ => none
theorem atI_rep {F : Hp} {ds : List D} {xs : List V} {i : Int} {d : D} (r : RepL K F ds xs) (h : atI ds i = some d) : ∃ v, atI xs i = some v ∧ Rep K F d v := by
  unfold atI at h ⊢
  obtain ⟨j, h1, h2⟩ := obind h
  obtain ⟨v, h3, h4⟩ := r.get h2
  exact ⟨v, by rw [r.length, h1]; exact h3, h4⟩
theorem atI_mem {α : Type} {xs : List α} {i : Int} {v : α} (h : atI xs i = some v) : v ∈ xs := by
  unfold atI at h
  obtain ⟨j, _, h2⟩ := obind h
  exact List.mem_of_getElem? h2
theorem semIx_ok : BinOK K (rIx K) semIx := by
  intro F H x y d1 d2 o l p1 p2 e Q q
  cases d2 with
  | int i =>
    cases p2
    cases d1 with
    | lst ds =>
      obtain ⟨d, h1, e⟩ := obind e
      cases e
      obtain ⟨a, xs, rfl, s, r⟩ := p1
      obtain ⟨v, h2, h3⟩ := atI_rep r h1
      exact .inl ⟨a, xs, i, v, rfl, rfl, SqL.of s, h2, same_val l h3 q⟩
    | scr ds =>
      obtain ⟨d, h1, e⟩ := obind e
      cases e
      obtain ⟨a, xs, rfl, s, r⟩ := p1
      obtain ⟨v, h2, h3⟩ := atI_rep r h1
      exact .inl ⟨a, xs, i, v, rfl, rfl, s, h2, same_val l h3 q⟩
    | tup ds =>
      obtain ⟨d, h1, e⟩ := obind e
      cases e
      obtain ⟨a, xs, rfl, s, r⟩ := p1
      obtain ⟨v, h2, h3⟩ := atI_rep r h1
      exact .inr (.inl ⟨a, xs, i, v, rfl, rfl, l.sqT s, h2, same_val l h3 q⟩)
    | str z =>
      obtain ⟨c, h1, e⟩ := obind e
      cases e
      obtain ⟨rfl, oz⟩ := p1
      refine .inr (.inr ⟨mkS z, i, c, rfl, rfl, by rw [mkS_len, LN_eq]; exact oz.1, h1, same_val l (show Rep K F (.str [c]) _ from ⟨rfl, ?_⟩) q⟩)
      exact ⟨by show 1 ≤ LN; decide, fun b hb => by rw [List.mem_singleton.mp hb]; exact oz.2 c (atI_mem h1)⟩
    | _ => cases e
  | _ => cases d1 <;> cases e

/-! ### xs[a:b] -/
abbrev DO := Ev → Option (Option Int × Ev)
def rdO (K : PySem.W.Frag) (d : DO) : TO := fun σ H Q => ∃ B env F r env', SR K B env F σ H ∧ d env = some (r, env') ∧ ∀ F' H', SR K B env' F' σ H' → Tr env σ F H env' σ F' H' → Q r H'
theorem PO.conv {X : Cx} {e : Option Expr} {t u : TO} (h : PO X e t) (c : ∀ σ H Q, u σ H Q → t σ H Q) : PO X e u := ⟨fun pins s σ H Q I q => h.run pins s σ H Q I (c σ H Q q)⟩
@[simp] def dNoP : DO := fun e => some (none, e)
@[simp] def dPart (d : DE) : DO := fun env => (d env).bind fun (r, e) => (r.data e).bind fun x => (intD x).bind fun i => some (some i, e)
theorem pod_none : PO X none (rdO X.K dNoP) := PO.conv po_none fun σ H Q ⟨B, env, F, r, env', S, hd, q⟩ => by cases hd; exact q F H S Tr.refl
theorem pod_some {e : Expr} {d : DE} (h : PE X e (rdE X.K d)) : PO X (some e) (rdO X.K (dPart d)) := PO.conv (po_some h) fun σ H Q ⟨B, env, F, r, env', S, hd, q⟩ => by
  obtain ⟨⟨r1, e1⟩, h1, hd⟩ := obind hd
  obtain ⟨x, h2, hd⟩ := obind hd
  obtain ⟨i, h3, hd⟩ := obind hd
  cases hd
  cases intD_eq h3
  exact ⟨B, env, F, r1, env', S, h1, fun v F1 H1 S1 T1 R1 => ⟨i, RR.pk S1 R1 h2, q F1 H1 S1 T1⟩⟩
def cutL {α : Type} (xs : List α) (lo hi : Option Int) : List α := (xs.drop (HT.sIx xs.length 0 lo)).take (HT.sIx xs.length xs.length hi - HT.sIx xs.length 0 lo)
@[simp] def semCut : D → Option Int → Option Int → Option Rs
  | .lst xs, lo, hi => some (.fresh (.lst (cutL xs lo hi)))
  | .tup xs, lo, hi => some (.val (.tup (cutL xs lo hi)))
  | .str l, lo, hi => some (.val (.str (cutL l lo hi)))
  | _, _, _ => none
theorem cut_rep {F : Hp} {ds : List D} {xs : List V} (r : RepL K F ds xs) (lo hi : Option Int) : RepL K F (cutL ds lo hi) (cutV xs lo hi) := by
  unfold cutL cutV
  rw [r.length]
  exact (r.drop _).take _
theorem cutL_len {α : Type} (xs : List α) (lo hi : Option Int) : (cutL xs lo hi).length ≤ xs.length := by
  unfold cutL
  rw [List.length_take, List.length_drop]
  omega
theorem cutL_mem {α : Type} {xs : List α} {lo hi : Option Int} {c : α} (h : c ∈ cutL xs lo hi) : c ∈ xs := List.mem_of_mem_drop (List.mem_of_mem_take h)
theorem cutL_all {α : Type} {xs : List α} {lo hi : Option Int} (h : HT.sIx xs.length 0 lo = 0 ∧ HT.sIx xs.length xs.length hi = xs.length) : cutL xs lo hi = xs := by
  unfold cutL
  rw [h.1, h.2, List.drop_zero, Nat.sub_zero, List.take_length]
abbrev rCut (K : PySem.W.Frag) : V → Option Int → Option Int → Hp → VK → Prop := fun x lo hi H Q => rSlL K x lo hi H Q ∨ rSlA K x lo hi H Q ∨ rSlS x lo hi H Q
theorem sl_any : SlR X (rCut X.K) := sl_list.or (sl_tupA.or sl_str)
@[simp] def dCut (da : DE) (dl du : DO) : DE := fun env => (da env).bind fun (r1, e1) => (dl e1).bind fun (lo, e2) => (du e2).bind fun (hi, e3) => (r1.data e3).bind fun d => (semCut d lo hi).bind fun o => some (o, e3)
theorem ped_cut {lo hi : Option Expr} {dl du : DO} {p2 : Pos} (ha : PE X a (rdE X.K da)) (hl : PO X lo (rdO X.K dl)) (hu : PO X hi (rdO X.K du)) : PE X (.Subscript a (.Slice lo hi none p2) pos) (rdE X.K (dCut da dl du)) :=
  PE.conv (pe_slice sl_any ha hl hu) fun σ H Q ⟨B, env, F, o, env', S, hd, q⟩ => by
    obtain ⟨⟨r1, e1⟩, g1, hd⟩ := obind hd
    obtain ⟨⟨lo, e2⟩, g2, hd⟩ := obind hd
    obtain ⟨⟨hi, e3⟩, g3, hd⟩ := obind hd
    obtain ⟨d, g4, hd⟩ := obind hd
    obtain ⟨o1, g5, hd⟩ := obind hd
    cases hd
    refine ⟨B, env, F, r1, e1, S, g1, fun v F1 H1 S1 T1 R1 => ⟨B, e1, F1, lo, e2, S1, g2, fun F2 H2 S2 T2 => ⟨B, e2, F2, hi, env', S2, g3, fun F3 H3 S3 T3 => ?_⟩⟩⟩
    have p := RR.pk S3 ((R1.step T2).step T3) g4
    have T := (T1.trans T2).trans T3
    have fin : ∀ w F' H', New F3 H3 F' H' → NR X.K H3 F' H' o w → Q w H' := fun w F' H' n nr => q w F' H' (S3.new n) (T.trans n.tr) ((nr.rr S3).back fun a z => T.dom' z)
    cases d with
    | lst ds =>
      cases g5
      obtain ⟨a, xs, rfl, s, r⟩ := p
      exact .inl ⟨a, xs, rfl, SqL.of s, fun n hn => fin _ F3 _ (New.put S3.sub hn) (NR.list S3.sub hn (cut_rep r lo hi))⟩
    | tup ds =>
      cases g5
      obtain ⟨a, xs, rfl, s, r⟩ := p
      refine .inr (.inl ⟨a, xs, rfl, S3.sub.sqT s, fun hw => ?_, fun _ n hn => fin _ _ _ (New.puts S3.sub hn) (NR.tuple S3.sub hn (cut_rep r lo hi))⟩)
      rw [r.length] at hw
      rw [cutL_all hw] at fin
      exact fin _ F3 H3 (New.refl S3.sub) ⟨a, xs, rfl, s, r⟩
    | str l =>
      cases g5
      obtain ⟨rfl, ol⟩ := p
      refine .inr (.inr ⟨mkS l, rfl, by rw [mkS_len, LN_eq]; exact ol.1, ?_⟩)
      have e : cutS (mkS l) lo hi = mkS (cutL l lo hi) := by
        unfold cutS cutL
        rw [mkS_len]
      rw [e]
      exact fin _ F3 H3 (New.refl S3.sub) ⟨rfl, okT_sub ol (cutL_len l lo hi) fun c hc => cutL_mem hc⟩
    | _ => cases g5
/-- xs[::-1] -/
def semRev : D → Option Rs
  | .lst xs => some (.fresh (.lst xs.reverse))
  | _ => none
theorem ped_rev {k : Nat} {p1 p2 p3 : Pos} (ha : PE X a (rdE X.K da)) : PE X (.Subscript a (.Slice none none (some (.UnaryOp .USub (.Constant (.int 1) k p1) p2)) p3) pos) (rdE X.K (dUn semRev da)) :=
  PE.conv (pe_revL ha) fun σ H Q h => un_ok (r := fun x H1 Q => ∃ a xs, x = .ref a ∧ SqL X.K H1 a xs ∧ ∀ p, H1 p = none → Q (.ref p) (upd H1 p (.lst xs.reverse))) (fun F H x d o l p e Q q => by
    cases d with
    | lst ds =>
      cases e
      obtain ⟨a, xs, rfl, s, r⟩ := p
      exact ⟨a, xs, rfl, SqL.of s, fun n hn => q _ F _ (New.put l hn) (NR.list l hn r.reverse)⟩
    | _ => cases e) h
end
end VL
set_option Elab.async false
set_option linter.all false
set_option maxRecDepth 100000
/-! built-in functions -/
namespace VL
open PySem PySem.Spec L2

section
variable {K : PySem.W.Frag} {X : Cx}
theorem CallOK.or {r r' : List V → Hp → VK → Prop} {sem sem' : List D → Option Rs} (h : CallOK K r sem) (h' : CallOK K r' sem') : CallOK K (fun xs H Q => r xs H Q ∨ r' xs H Q) (fun a => (sem a).or (sem' a)) := by
  intro F H xs ds o l p e Q q
  have e : (sem ds).or (sem' ds) = some o := e
  cases e1 : sem ds with
  | some o1 =>
    rw [e1] at e
    cases e
    exact .inl (h F H xs ds _ l p e1 Q q)
  | none =>
    rw [e1] at e
    exact .inr (h' F H xs ds _ l p e Q q)
theorem CallOK.imp {r : List V → Hp → VK → Prop} {sem sem' : List D → Option Rs} (h : CallOK K r sem) (e : ∀ a o, sem' a = some o → sem a = some o) : CallOK K r sem' := fun F H x d o l p q => h F H x d o l p (e _ _ q)
theorem PkL.one {F H : Hp} {d : D} {vs : List V} (p : PkL K F H [d] vs) : ∃ v, vs = [v] ∧ Pk K F H d v := by
  cases p with
  | cons h t => cases t; exact ⟨_, rfl, h⟩
theorem PkL.two {F H : Hp} {d e : D} {vs : List V} (p : PkL K F H [d, e] vs) : ∃ v u, vs = [v, u] ∧ Pk K F H d v ∧ Pk K F H e u := by
  cases p with
  | cons h t => cases t with
    | cons h2 t2 => cases t2; exact ⟨_, _, rfl, h, h2⟩

/-! ### len -/
@[simp] def lenD : D → Option Nat
  | .str l => some l.length
  | .tup xs => some xs.length
  | .lst xs => some xs.length
  | .scr xs => some xs.length
  | _ => none
@[simp] def semLen : List D → Option Rs
  | [d] => (lenD d).bind fun n => some (.val (.int n))
  | _ => none
theorem semLen_ok : CallOK K (fun xs H Q => ∃ x n, xs = [x] ∧ LenV K x H n ∧ Q (.int n) H) semLen := by
  intro F H xs ds o l p e Q q
  match ds, e with
  | [d], e =>
    obtain ⟨v, e0, pp⟩ := p.one; subst e0; clear p; have p := pp; clear pp
    obtain ⟨n, h1, e⟩ := obind e
    cases e
    refine ⟨v, n, rfl, ?_, same_val l (show Rep K F (.int n) _ from rfl) q⟩
    cases d with
    | str z => cases h1; obtain ⟨rfl, oz⟩ := p; exact ⟨by rw [mkS_len, LN_eq]; exact oz.1, (mkS_len z).symm⟩
    | tup z => cases h1; obtain ⟨a, vs, rfl, s, r⟩ := p; exact .inr ⟨vs, l.sqT s, r.length.symm⟩
    | lst z => cases h1; obtain ⟨a, vs, rfl, s, r⟩ := p; exact .inl ⟨vs, SqL.of s, r.length.symm⟩
    | scr z => cases h1; obtain ⟨a, vs, rfl, s, r⟩ := p; exact .inl ⟨vs, s, r.length.symm⟩
    | _ => cases h1

/-! ### abs, min, max of two -/
@[simp] def semAbs : List D → Option Rs
  | [.int i] => some (.val (.int (if i < 0 then -i else i)))
  | _ => none
theorem semAbs_ok : CallOK K (fun xs H Q => ∃ i, xs = [.int i] ∧ Q (.int (if i < 0 then -i else i)) H) semAbs := by
  intro F H xs ds o l p e Q q
  match ds, e with
  | [.int i], e =>
    obtain ⟨v, e0, pp⟩ := p.one; subst e0; clear p; have p := pp; clear pp
    cases e; cases p
    exact ⟨i, rfl, same_val l (show Rep K F (.int _) _ from rfl) q⟩
def intsOf : List D → Option (List Int)
  | [] => some []
  | .int i :: ds => (intsOf ds).bind fun is => some (i :: is)
  | _ => none
theorem intsOf_eq : ∀ {ds : List D} {is : List Int}, intsOf ds = some is → ds = is.map .int
  | [], _, h => by cases h; rfl
  | d :: ds, _, h => by
    cases d with
    | int i => obtain ⟨is', h1, h⟩ := obind h; cases h; rw [intsOf_eq h1]; rfl
    | _ => cases h
theorem rep_ints {F : Hp} : ∀ {is : List Int} {xs : List V}, RepL K F (is.map .int) xs → xs = is.map V.int
  | [], _, r => by cases r; rfl
  | i :: is, _, r => by
    obtain ⟨v, vr, rfl, r1, r2⟩ := r
    cases r1
    rw [rep_ints r2]
    rfl
def maxL : List Int → Option Int
  | [] => none
  | i :: is => some (is.foldl (fun a b => if b > a then b else a) i)
def minL : List Int → Option Int
  | [] => none
  | i :: is => some (is.foldl (fun a b => if b < a then b else a) i)
theorem fold_max : ∀ (is : List Int) (i : Int), (is.foldl (fun a b => if b > a then b else a) i) ∈ i :: is ∧ ∀ y ∈ i :: is, y ≤ is.foldl (fun a b => if b > a then b else a) i
  | [], i => by simp
  | j :: is, i => by
    rw [List.foldl_cons]
    obtain ⟨h1, h2⟩ := fold_max is (if j > i then j else i)
    refine ⟨?_, fun y hy => ?_⟩
    · rcases List.mem_cons.mp h1 with h | h
      · rw [h]; split <;> simp
      · exact List.mem_cons_of_mem _ (List.mem_cons_of_mem _ h)
    · have h3 := h2 (if j > i then j else i) List.mem_cons_self
      rcases List.mem_cons.mp hy with rfl | hy
      · refine Int.le_trans ?_ h3; split <;> omega
      · rcases List.mem_cons.mp hy with rfl | hy
        · refine Int.le_trans ?_ h3; split <;> omega
        · exact h2 y (List.mem_cons_of_mem _ hy)
theorem fold_min : ∀ (is : List Int) (i : Int), (is.foldl (fun a b => if b < a then b else a) i) ∈ i :: is ∧ ∀ y ∈ i :: is, is.foldl (fun a b => if b < a then b else a) i ≤ y
  | [], i => by simp
  | j :: is, i => by
    rw [List.foldl_cons]
    obtain ⟨h1, h2⟩ := fold_min is (if j < i then j else i)
    refine ⟨?_, fun y hy => ?_⟩
    · rcases List.mem_cons.mp h1 with h | h
      · rw [h]; split <;> simp
      · exact List.mem_cons_of_mem _ (List.mem_cons_of_mem _ h)
    · have h3 := h2 (if j < i then j else i) List.mem_cons_self
      rcases List.mem_cons.mp hy with rfl | hy
      · refine Int.le_trans h3 ?_; split <;> omega
      · rcases List.mem_cons.mp hy with rfl | hy
        · refine Int.le_trans h3 ?_; split <;> omega
        · exact h2 y (List.mem_cons_of_mem _ hy)
theorem maxL_spec {is : List Int} {m : Int} (h : maxL is = some m) : m ∈ is ∧ ∀ y ∈ is, y ≤ m := by
  cases is with
  | nil => cases h
  | cons i is => cases h; exact fold_max is i
theorem minL_spec {is : List Int} {m : Int} (h : minL is = some m) : m ∈ is ∧ ∀ y ∈ is, m ≤ y := by
  cases is with
  | nil => cases h
  | cons i is => cases h; exact fold_min is i
def semMax : List D → Option Rs
  | [.int i, .int j] => some (.val (.int (if j > i then j else i)))
  | [.lst ds] => (intsOf ds).bind fun is => (maxL is).bind fun m => some (.val (.int m))
  | _ => none
def semMin : List D → Option Rs
  | [.int i, .int j] => some (.val (.int (if j < i then j else i)))
  | [.lst ds] => (intsOf ds).bind fun is => (minL is).bind fun m => some (.val (.int m))
  | _ => none
theorem semMax_ok : CallOK K (fun xs H Q => (∃ i j, xs = [.int i, .int j] ∧ Q (.int (if j > i then j else i)) H) ∨ rMax K xs H Q) semMax := by
  intro F H xs ds o l p e Q q
  match ds, e with
  | [.int i, .int j], e =>
    obtain ⟨v, u, e0, p1, p2⟩ := p.two; subst e0; clear p
    cases e; cases p1; cases p2
    exact .inl ⟨i, j, rfl, same_val l (show Rep K F (.int _) _ from rfl) q⟩
  | [.lst ds], e =>
    obtain ⟨v, e0, pp⟩ := p.one; subst e0; clear p; have p := pp; clear pp
    obtain ⟨is, h1, e⟩ := obind e
    obtain ⟨m, h2, e⟩ := obind e
    cases e
    obtain ⟨a, vs, rfl, s, r⟩ := p
    cases intsOf_eq h1
    cases rep_ints r
    obtain ⟨hm, hle⟩ := maxL_spec h2
    refine .inr ⟨a, is, rfl, SqL.of s, List.length_pos_of_mem hm, fun m' hm' hle' => ?_⟩
    have : m' = m := Int.le_antisymm (hle m' hm') (hle' m hm)
    subst this
    exact same_val l (show Rep K F (.int _) _ from rfl) q
theorem semMin_ok : CallOK K (fun xs H Q => (∃ i j, xs = [.int i, .int j] ∧ Q (.int (if j < i then j else i)) H) ∨ rMin K xs H Q) semMin := by
  intro F H xs ds o l p e Q q
  match ds, e with
  | [.int i, .int j], e =>
    obtain ⟨v, u, e0, p1, p2⟩ := p.two; subst e0; clear p
    cases e; cases p1; cases p2
    exact .inl ⟨i, j, rfl, same_val l (show Rep K F (.int _) _ from rfl) q⟩
  | [.lst ds], e =>
    obtain ⟨v, e0, pp⟩ := p.one; subst e0; clear p; have p := pp; clear pp
    obtain ⟨is, h1, e⟩ := obind e
    obtain ⟨m, h2, e⟩ := obind e
    cases e
    obtain ⟨a, vs, rfl, s, r⟩ := p
    cases intsOf_eq h1
    cases rep_ints r
    obtain ⟨hm, hle⟩ := minL_spec h2
    refine .inr ⟨a, is, rfl, SqL.of s, List.length_pos_of_mem hm, fun m' hm' hle' => ?_⟩
    have : m' = m := Int.le_antisymm (hle' m hm) (hle m' hm')
    subst this
    exact same_val l (show Rep K F (.int _) _ from rfl) q
theorem call_maxA (hc : X.calm = true) : CallR X (.builtin "max") (fun xs H Q => (∃ i j, xs = [.int i, .int j] ∧ Q (.int (if j > i then j else i)) H) ∨ rMax X.K xs H Q) := (call_max2 hc).or (cr_max hc)
theorem call_minA (hc : X.calm = true) : CallR X (.builtin "min") (fun xs H Q => (∃ i j, xs = [.int i, .int j] ∧ Q (.int (if j < i then j else i)) H) ∨ rMin X.K xs H Q) := (call_min2 hc).or (cr_min hc)

/-! ### sum, all, any, sorted of ints -/
def semSum : List D → Option Rs
  | [.lst ds] => (intsOf ds).bind fun is => some (.val (.int is.sum))
  | _ => none
theorem semSum_ok : CallOK K (rSum K) semSum := by
  intro F H xs ds o l p e Q q
  match ds, e with
  | [.lst ds], e =>
    obtain ⟨v, e0, pp⟩ := p.one; subst e0; clear p; have p := pp; clear pp
    obtain ⟨is, h1, e⟩ := obind e
    cases e
    obtain ⟨a, vs, rfl, s, r⟩ := p
    cases intsOf_eq h1
    cases rep_ints r
    exact ⟨a, is, rfl, SqL.of s, same_val l (show Rep K F (.int _) _ from rfl) q⟩
def blsOf : List D → Option (List Bool)
  | [] => some []
  | .bl i :: ds => (blsOf ds).bind fun is => some (i :: is)
  | _ => none
theorem blsOf_eq : ∀ {ds : List D} {is : List Bool}, blsOf ds = some is → ds = is.map .bl
  | [], _, h => by cases h; rfl
  | d :: ds, _, h => by
    cases d with
    | bl i => obtain ⟨is', h1, h⟩ := obind h; cases h; rw [blsOf_eq h1]; rfl
    | _ => cases h
theorem rep_bls {F : Hp} : ∀ {is : List Bool} {xs : List V}, RepL K F (is.map .bl) xs → xs = is.map V.bl
  | [], _, r => by cases r; rfl
  | i :: is, _, r => by
    obtain ⟨v, vr, rfl, r1, r2⟩ := r
    cases r1
    rw [rep_bls r2]
    rfl
def semAll : List D → Option Rs
  | [.lst ds] => (blsOf ds).bind fun is => some (.val (.bl (is.all id)))
  | _ => none
def semAny : List D → Option Rs
  | [.lst ds] => (blsOf ds).bind fun is => some (.val (.bl (is.any id)))
  | _ => none
theorem semAll_ok : CallOK K (rAll K) semAll := by
  intro F H xs ds o l p e Q q
  match ds, e with
  | [.lst ds], e =>
    obtain ⟨v, e0, pp⟩ := p.one; subst e0; clear p; have p := pp; clear pp
    obtain ⟨is, h1, e⟩ := obind e
    cases e
    obtain ⟨a, vs, rfl, s, r⟩ := p
    cases blsOf_eq h1
    cases rep_bls r
    exact ⟨a, is, rfl, SqL.of s, same_val l (show Rep K F (.bl _) _ from rfl) q⟩
theorem semAny_ok : CallOK K (rAny K) semAny := by
  intro F H xs ds o l p e Q q
  match ds, e with
  | [.lst ds], e =>
    obtain ⟨v, e0, pp⟩ := p.one; subst e0; clear p; have p := pp; clear pp
    obtain ⟨is, h1, e⟩ := obind e
    cases e
    obtain ⟨a, vs, rfl, s, r⟩ := p
    cases blsOf_eq h1
    cases rep_bls r
    exact ⟨a, is, rfl, SqL.of s, same_val l (show Rep K F (.bl _) _ from rfl) q⟩

/-! ### int, str, tuple, list -/
@[simp] def semInt : List D → Option Rs
  | [.int i] => some (.val (.int i))
  | [.bl b] => some (.val (.int (if b then 1 else 0)))
  | [.str l] => (intText? (mkS l)).bind fun n => if l.length ≤ 640 then some (.val (.int n)) else none
  | _ => none
abbrev rIntA : List V → Hp → VK → Prop := fun xs H Q => ((∃ i, xs = [.int i] ∧ Q (.int i) H) ∨ ∃ k, xs = [.bl k] ∧ Q (.int (if k then 1 else 0)) H) ∨ ∃ a n, xs = [.str a] ∧ PySem.intText? a = some n ∧ a.length ≤ 640 ∧ Q (.int n) H
theorem call_intA : CallR X (.type "int") rIntA := call_int1.or call_int_str
theorem semInt_ok : CallOK K rIntA semInt := by
  intro F H xs ds o l p e Q q
  match ds, e with
  | [.int i], e =>
    obtain ⟨v, e0, pp⟩ := p.one; subst e0; clear p; have p := pp; clear pp
    cases e; cases p
    exact .inl (.inl ⟨i, rfl, same_val l (show Rep K F (.int _) _ from rfl) q⟩)
  | [.bl i], e =>
    obtain ⟨v, e0, pp⟩ := p.one; subst e0; clear p; have p := pp; clear pp
    cases e; cases p
    exact .inl (.inr ⟨i, rfl, same_val l (show Rep K F (.int _) _ from rfl) q⟩)
  | [.str z], e =>
    obtain ⟨v, e0, pp⟩ := p.one; subst e0; clear p; have p := pp; clear pp
    obtain ⟨n, h1, e⟩ := obind e
    by_cases hz : z.length ≤ 640
    case neg => rw [if_neg hz] at e; cases e
    rw [if_pos hz] at e
    cases e
    obtain ⟨rfl, oz⟩ := p
    exact .inr ⟨mkS z, n, rfl, h1, by rw [mkS_len]; exact hz, same_val l (show Rep K F (.int _) _ from rfl) q⟩
/-- a number's signs -/
def numT (i : Int) : Tx := (toString i).toList.map Char.toNat
def semStr : List D → Option Rs
  | [.int i] => if i.natAbs.log2 < 1920 ∧ okT (numT i) then some (.val (.str (numT i))) else none
  | _ => none
theorem semStr_ok : CallOK K (fun xs H Q => ∃ i, xs = [.int i] ∧ i.natAbs.log2 < 1920 ∧ Q (.str (toString i)) H) semStr := by
  intro F H xs ds o l p e Q q
  match ds, e with
  | [.int i], e =>
    obtain ⟨v, e0, pp⟩ := p.one; subst e0; clear p; have p := pp; clear pp
    have e : (if i.natAbs.log2 < 1920 ∧ okT (numT i) then some (Rs.val (.str (numT i))) else none) = some o := e
    by_cases hz : i.natAbs.log2 < 1920 ∧ okT (numT i)
    case neg => rw [if_neg hz] at e; cases e
    rw [if_pos hz] at e
    cases e; cases p
    refine ⟨i, rfl, hz.1, ?_⟩
    have e : Str.ofString (toString i) = mkS (numT i) := Str.ofString_eq_toList _
    rw [e]
    exact same_val l (show Rep K F (.str _) _ from ⟨rfl, hz.2⟩) q
@[simp] def semTuple : List D → Option Rs
  | [.tup xs] => some (.val (.tup xs))
  | [.lst xs] => some (.val (.tup xs))
  | [.scr xs] => some (.val (.tup xs))
  | _ => none
@[simp] def semList : List D → Option Rs
  | [.tup xs] => some (.fresh (.lst xs))
  | [.lst xs] => some (.fresh (.lst xs))
  | [.scr xs] => some (.fresh (.lst xs))
  | _ => none
theorem semTuple_ok : CallOK K (fun xs H Q => ∃ p ys, xs = [.ref p] ∧ ((SqL K H p ys ∧ ∀ l, H l = none → Q (.ref l) (upd H l (.tup ys))) ∨ (SqT K H p ys ∧ Q (.ref p) H))) semTuple := by
  intro F H xs ds o l p e Q q
  match ds, e with
  | [.tup z], e =>
    obtain ⟨v, e0, pp⟩ := p.one; subst e0; clear p; have p := pp; clear pp
    cases e
    obtain ⟨a, vs, rfl, s, r⟩ := p
    exact ⟨a, vs, rfl, .inr ⟨l.sqT s, same_val l (show Rep K F (.tup z) _ from ⟨a, vs, rfl, s, r⟩) q⟩⟩
  | [.lst z], e =>
    obtain ⟨v, e0, pp⟩ := p.one; subst e0; clear p; have p := pp; clear pp
    cases e
    obtain ⟨a, vs, rfl, s, r⟩ := p
    exact ⟨a, vs, rfl, .inl ⟨SqL.of s, fun n hn => q _ _ _ (New.puts l hn) (NR.tuple l hn r)⟩⟩
  | [.scr z], e =>
    obtain ⟨v, e0, pp⟩ := p.one; subst e0; clear p; have p := pp; clear pp
    cases e
    obtain ⟨a, vs, rfl, s, r⟩ := p
    exact ⟨a, vs, rfl, .inl ⟨s, fun n hn => q _ _ _ (New.puts l hn) (NR.tuple l hn r)⟩⟩
theorem semList_ok : CallOK K (fun xs H Q => ∃ p ys, xs = [.ref p] ∧ (SqL K H p ys ∨ SqT K H p ys) ∧ ∀ l, H l = none → Q (.ref l) (upd H l (.lst ys))) semList := by
  intro F H xs ds o l p e Q q
  match ds, e with
  | [.tup z], e =>
    obtain ⟨v, e0, pp⟩ := p.one; subst e0; clear p; have p := pp; clear pp
    cases e
    obtain ⟨a, vs, rfl, s, r⟩ := p
    exact ⟨a, vs, rfl, .inr (l.sqT s), fun n hn => q _ F _ (New.put l hn) (NR.list l hn r)⟩
  | [.lst z], e =>
    obtain ⟨v, e0, pp⟩ := p.one; subst e0; clear p; have p := pp; clear pp
    cases e
    obtain ⟨a, vs, rfl, s, r⟩ := p
    exact ⟨a, vs, rfl, .inl (SqL.of s), fun n hn => q _ F _ (New.put l hn) (NR.list l hn r)⟩
  | [.scr z], e =>
    obtain ⟨v, e0, pp⟩ := p.one; subst e0; clear p; have p := pp; clear pp
    cases e
    obtain ⟨a, vs, rfl, s, r⟩ := p
    exact ⟨a, vs, rfl, .inl s, fun n hn => q _ F _ (New.put l hn) (NR.list l hn r)⟩

/-! ### isinstance -/
def tyN : D → String
  | .non => "NoneType"
  | .bl _ => "bool"
  | .int _ => "int"
  | .str _ => "str"
  | .tup _ => "tuple"
  | .lst _ => "list"
  | .scr _ => "list"
  | .dk _ _ => "dict"
  | .dt _ _ => "dict"
@[simp] def isD (T : String) (d : D) : Option Bool := match d with
  | .non => if T = "NoneType" then some true else if T ∈ ["bool", "int", "str", "tuple", "list"] then some false else none
  | .bl _ => if T ∈ ["bool", "int"] then some true else if T ∈ ["str", "tuple", "list"] then some false else none
  | .int _ => if T = "int" then some true else if T ∈ ["bool", "str", "tuple", "list"] then some false else none
  | .str _ => if T = "str" then some true else if T ∈ ["bool", "int", "tuple", "list"] then some false else none
  | .tup _ => if T = "tuple" then some true else if T ∈ ["bool", "int", "str", "list"] then some false else none
  | .lst _ => if T = "list" then some true else if T ∈ ["bool", "int", "str", "tuple"] then some false else none
  | .scr _ => if T = "list" then some true else if T ∈ ["bool", "int", "str", "tuple"] then some false else none
  | _ => none
@[simp] def dIsi (T : String) (d : DE) : DE := fun env => (d env).bind fun (r, e) => (r.data e).bind fun x => (isD T x).bind fun b => some (.val (.bl b), e)
theorem kitall : ∀ T ∈ (["bool", "int", "str", "tuple", "list"] : List String), ∀ t ∈ (["NoneType", "bool", "int", "str", "tuple", "list"] : List String), kitB t T = some (t == T || (t == "bool" && T == "int")) := by decide +kernel
theorem tyX_of {F H : Hp} {d : D} {v : V} (l : Le F H) (p : Pk K F H d v) (h : d.nd = true) : TyX K H v (.type (tyN d)) := by
  cases d with
  | non => cases p; exact .base .non
  | bl b => cases p; exact .base (.bl b)
  | int b => cases p; exact .base (.int b)
  | str b => obtain ⟨rfl, _⟩ := p; exact .base (.str _)
  | tup b =>
    obtain ⟨a, xs, rfl, s, _⟩ := p
    rcases l.sqT s with (s | ⟨o, s⟩) | ⟨o, its, n, k1, k2, _⟩
    · exact .base (.tup s)
    · exact .fTuple s
    · exact .kTuple k1 k2
  | lst b => obtain ⟨a, xs, rfl, s, _⟩ := p; exact .base (.lst s)
  | scr b =>
    obtain ⟨a, xs, rfl, s, _⟩ := p
    rcases s with (s | ⟨o, s⟩) | ⟨o, its, n, k1, k2, _⟩
    · exact .base (.lst s)
    · exact .base (.frz s)
    · exact .kList k1 k2
  | _ => cases h
theorem isD_kit {T : String} {d : D} {b : Bool} (hT : T ∈ (["bool", "int", "str", "tuple", "list"] : List String)) (h : isD T d = some b) : d.nd = true ∧ kitB (tyN d) T = some b := by
  have hd : d.nd = true := by cases d <;> first | rfl | cases h
  refine ⟨hd, ?_⟩
  have ht : tyN d ∈ (["NoneType", "bool", "int", "str", "tuple", "list"] : List String) := by cases d <;> first | (simp [tyN]; done) | cases hd
  rw [kitall T hT _ ht]
  have key : ∀ T ∈ (["bool", "int", "str", "tuple", "list"] : List String), isD T d = some (tyN d == T || (tyN d == "bool" && T == "int")) := by
    cases d with
    | non => decide
    | bl x => intro T hT; revert T; simp only [isD, tyN]; decide
    | int x => intro T hT; revert T; simp only [isD, tyN]; decide
    | str x => intro T hT; revert T; simp only [isD, tyN]; decide
    | tup x => intro T hT; revert T; simp only [isD, tyN]; decide
    | lst x => intro T hT; revert T; simp only [isD, tyN]; decide
    | scr x => intro T hT; revert T; simp only [isD, tyN]; decide
    | _ => cases hd
  rw [key T hT] at h
  exact h
theorem ped_isi {e : Expr} {d : DE} {x : Str} {p p2 pos : Pos} (T : String) (hT : T ∈ (["bool", "int", "str", "tuple", "list"] : List String)) (hg : Gl X "isinstance") (hm : X.mg "isinstance" = none) (he : PE X e (rdE X.K d)) (hty : PE X (.Name x p2) (tC (.ty T)))
    (h1 : starEach [e, .Name x p2] X.env = (false, eval e X.env) :: starEach [.Name x p2] X.env := by rfl) (h2 : starEach [.Name x p2] X.env = (false, eval (.Name x p2) X.env) :: starEach [] X.env := by rfl) (hpl : (backTo pos (starEach [.Name x p2] X.env)).any (·.1) = false := by rfl) :
    PE X (.Call (.Name "isinstance" p) [e, .Name x p2] [] pos) (rdE X.K (dIsi T d)) :=
  PE.conv (pe_callB call_isi hg hm (by decide +kernel) (pa_cons he (pa_cons hty pa_nil h2) h1) (by decide) (by decide) h1 hpl) fun σ H Q ⟨B, env, F, r, env', S, hd, q⟩ => by
    obtain ⟨⟨r1, e1⟩, g1, hd⟩ := obind hd
    obtain ⟨y, g2, hd⟩ := obind hd
    obtain ⟨b, g3, hd⟩ := obind hd
    cases hd
    refine ⟨B, env, F, r1, env', S, g1, fun v F1 H1 S1 T1 R1 => ?_⟩
    obtain ⟨nd, k⟩ := isD_kit hT g3
    exact ⟨v, .ty T, .type (tyN y), .type T, b, rfl, ClsV.ty T, tyX_of S1.sub (RR.pk S1 R1 g2) nd, kit_ty k, q _ F1 H1 S1 T1 rfl⟩
end
end VL
set_option Elab.async false
set_option linter.all false
set_option maxRecDepth 100000
/-! what a loop walks -/
namespace VL
open PySem PySem.Spec L2

section
variable {X : Cx} {tg : Expr}
theorem PI.conv {e : Expr} {t u : TI} (h : PI X tg e t) (c : ∀ σ H R, u σ H R → t σ H R) : PI X tg e u := ⟨fun pins s σ H R I q => h.run pins s σ H R I (c σ H R q)⟩
theorem PI.or {e : Expr} {t u : TI} (h : PI X tg e t) (k : PI X tg e u) : PI X tg e (fun σ H R => t σ H R ∨ u σ H R) := ⟨fun pins s σ H R I q => by
  rcases q with q | q
  · exact h.run pins s σ H R I q
  · exact k.run pins s σ H R I q⟩
end

/-- the items of a thing that stands still -/
@[simp] def sqV : D → Option (List D)
  | .tup xs => some xs
  | .lst xs => some xs
  | .scr xs => some xs
  | .str l => some (l.map fun c => .str [c])
  | _ => none
@[simp] def iSeq (d : DE) : DI := fun env => (dVal d env).bind fun (r, e) => (r.data e).bind fun x => (sqV x).bind fun ds => some (ds, e, none)
@[simp] def iVar (j : Nat) : DI := fun env => match env[j]? with
  | some (.val d) => (sqV d).bind fun ds => some (ds, env, none)
  | some (.own (.lst ds)) => some (ds, env, some j)
  | some (.io (.lst ds)) => some (ds, env, some j)
  | some (.lk (.lst ds)) => some (ds, env, some j)
  | _ => none
def rgs (lo : Int) (n : Nat) : List D := (List.range n).map fun (i : Nat) => D.int (lo + (i : Int))
def smallI (i : Int) : Prop := -4611686018427387904 ≤ i ∧ i < 4611686018427387904
instance (i : Int) : Decidable (smallI i) := by unfold smallI; exact inferInstance
def iRg1 (d : DE) : DI := fun env => (d env).bind fun (r, e) => (r.data e).bind fun x => (intD x).bind fun n => if smallI n then some (rgs 0 n.toNat, e, none) else none
def iRg2 (a b : DE) : DI := fun env => (a env).bind fun (r, e) => (r.data e).bind fun x => (intD x).bind fun m => (b e).bind fun (r2, e2) => (r2.data e2).bind fun y => (intD y).bind fun n => if smallI m ∧ smallI n then some (rgs m (n - m).toNat, e2, none) else none

section
variable {K : PySem.W.Frag} {B F H : Hp} {e0 : Ev} {σ : St}
theorem ItOK.seqL {u : Option Nat} {a : Addr} {F1 : Hp} {ds : List D} {xs : List V} (s : SqL K F1 a xs) (r : RepL K F1 ds xs) : ItOK K B u e0 σ (Itl K a) F1 ds := fun e' σ' F' H' S l _ => by
  have q : SqL K H' a xs := (l.trans S.sub).sqL s
  refine ⟨fun i hi => ?_, ⟨xs, q, by rw [r.length]; exact Nat.le_refl _⟩⟩
  obtain ⟨v, hv, rv⟩ := (RepL.mono l _ r).get (i := i) (List.getElem?_eq_getElem hi)
  refine ⟨⟨xs, v, q, hv⟩, fun x H'' ⟨e, y⟩ => ?_⟩
  subst e
  have := y xs q
  rw [hv] at this
  cases this
  exact ⟨_, F', List.getElem?_eq_getElem hi, New.refl S.sub, rv⟩
theorem ItOK.seqT {u : Option Nat} {a : Addr} {F1 : Hp} {ds : List D} {xs : List V} (s : SqT K F1 a xs) (r : RepL K F1 ds xs) : ItOK K B u e0 σ (Itt K a) F1 ds := fun e' σ' F' H' S l _ => by
  have q : SqT K H' a xs := (l.trans S.sub).sqT s
  refine ⟨fun i hi => ?_, ⟨xs, q, by rw [r.length]; exact Nat.le_refl _⟩⟩
  obtain ⟨v, hv, rv⟩ := (RepL.mono l _ r).get (i := i) (List.getElem?_eq_getElem hi)
  refine ⟨⟨xs, v, q, hv⟩, fun x H'' ⟨e, y⟩ => ?_⟩
  subst e
  have := y xs q
  rw [hv] at this
  cases this
  exact ⟨_, F', List.getElem?_eq_getElem hi, New.refl S.sub, rv⟩
theorem ItOK.text {u : Option Nat} {F1 : Hp} {l : Tx} (ol : okT l) : ItOK K B u e0 σ (Its (mkS l)) F1 (l.map fun c => .str [c]) := fun e' σ' F' H' S _ _ => by
  have sz : (mkS l).cps.size = l.length := rfl
  refine ⟨fun i hi => ?_, ?_⟩
  · rw [List.length_map] at hi
    refine ⟨by show i < (mkS l).cps.size; rw [sz]; exact hi, fun x H'' ⟨e, c, hc, ex⟩ => ?_⟩
    subst e ex
    have hc' : l[i]? = some c := by simpa using hc
    refine ⟨.str [c], F', by rw [List.getElem?_map, hc']; rfl, New.refl S.sub, rfl, ?_, ?_⟩
    · show 1 ≤ LN; decide
    · intro z hz
      rw [List.mem_singleton] at hz
      subst hz
      exact ol.2 _ (List.mem_of_getElem? hc')
  · show (mkS l).cps.size ≤ _
    rw [List.length_map]; exact Nat.le_refl _
theorem ItOK.range {u : Option Nat} {F1 : Hp} {lo : Int} {n : Nat} : ItOK K B u e0 σ (Itr lo n) F1 (rgs lo n) := fun e' σ' F' H' S _ _ => by
  have len : (rgs lo n).length = n := by simp [rgs]
  refine ⟨fun i hi => ?_, by rw [len]; exact Nat.le_refl n⟩
  rw [len] at hi
  refine ⟨hi, fun x H'' ⟨e, ex⟩ => ?_⟩
  subst e ex
  refine ⟨.int (lo + (i : Int)), F', ?_, New.refl S.sub, rfl⟩
  simp [rgs, hi]
theorem ItOK.slot {j : Nat} {a : Addr} {F1 : Hp} {ds : List D} (he : e0[j]? = some (.lk (.lst ds))) (hσ : σ[j]? = some (some (.ref a))) : ItOK K B (some j) e0 σ (Itl K a) F1 ds := fun e' σ' F' H' S l h => by
  obtain ⟨h1, h2⟩ := h j rfl
  obtain ⟨b, eb, _, xs, hx, r⟩ := S.slot j _ (h1.trans he)
  rw [h2, hσ] at eb
  cases eb
  have q : SqL K H' a xs := SqL.of hx
  refine ⟨fun i hi => ?_, ⟨xs, q, by rw [r.length]; exact Nat.le_refl _⟩⟩
  obtain ⟨v, hv, rv⟩ := r.get (i := i) (List.getElem?_eq_getElem hi)
  refine ⟨⟨xs, v, q, hv⟩, fun x H'' ⟨e, y⟩ => ?_⟩
  subst e
  have := y xs q
  rw [hv] at this
  cases this
  exact ⟨_, F', List.getElem?_eq_getElem hi, New.refl S.sub, rv⟩
end

section
variable {X : Cx} {tg e a b : Expr} {p pos : Pos} {d da db : DE}
/-- a walk over what stands still -/
theorem pid_seq (he : PE X e (rdE X.K d)) : PI X tg e (rdI X.K (iSeq d)) :=
  PI.conv (PI.or (pi_list (tg := tg) (ped_val he)) (PI.or (pi_tup (ped_val he)) (pi_str (ped_val he)))) fun σ H R ⟨B, env, F, ds, e0, u, S, hd, q⟩ => by
    obtain ⟨⟨r, e1⟩, h1, hd⟩ := obind hd
    obtain ⟨x, h2, hd⟩ := obind hd
    obtain ⟨ds1, h3, hd⟩ := obind hd
    cases hd
    obtain ⟨y', rfl⟩ := dVal_shape h1
    cases h2
    cases x with
    | tup z => cases h3; exact .inr (.inl ⟨B, env, F, _, e0, S, h1, fun v F1 H1 S1 T1 ⟨a, xs, e, s, r⟩ => ⟨a, e, ⟨xs, S1.sub.sqT s⟩, q _ F1 H1 S1 T1 (ItOK.seqT s r)⟩⟩)
    | lst z => cases h3; exact .inl ⟨B, env, F, _, e0, S, h1, fun v F1 H1 S1 T1 ⟨a, xs, e, s, r⟩ => ⟨a, e, ⟨xs, S1.sub.sqL (SqL.of s)⟩, q _ F1 H1 S1 T1 (ItOK.seqL (SqL.of s) r)⟩⟩
    | scr z => cases h3; exact .inl ⟨B, env, F, _, e0, S, h1, fun v F1 H1 S1 T1 ⟨a, xs, e, s, r⟩ => ⟨a, e, ⟨xs, S1.sub.sqL s⟩, q _ F1 H1 S1 T1 (ItOK.seqL s r)⟩⟩
    | str z => cases h3; exact .inr (.inr ⟨B, env, F, _, e0, S, h1, fun v F1 H1 S1 T1 ⟨e, oz⟩ => ⟨_, e, q _ F1 H1 S1 T1 (ItOK.text oz)⟩⟩)
    | _ => cases h3
theorem lk_seq : LkOK (iSeq d) := fun env ds e0 u h j hj => by
  obtain ⟨⟨r, e1⟩, h1, h⟩ := obind h
  obtain ⟨x, h2, h⟩ := obind h
  obtain ⟨ds1, h3, h⟩ := obind h
  cases h
  cases hj
theorem hj_seq {vs : List Nat} : ∀ env ds e0 j, iSeq d env = some (ds, e0, some j) → j ∉ vs := fun env ds e0 j h => by
  obtain ⟨⟨r, e1⟩, h1, h⟩ := obind h
  obtain ⟨x, h2, h⟩ := obind h
  obtain ⟨ds1, h3, h⟩ := obind h
  cases h
/-- a walk over what a name holds -/
theorem pid_var (j : Nat) {x : Str} (h : PE X (.Name x pos) (tVar j)) : PI X tg (.Name x pos) (rdI X.K (iVar j)) :=
  PI.conv (PI.or (pi_list (tg := tg) h) (PI.or (pi_tup h) (pi_str h))) fun σ H R ⟨B, env, F, ds, e0, u, S, hd, q⟩ => by
    unfold iVar at hd
    cases e : env[j]? with
    | none => rw [e] at hd; cases hd
    | some s =>
      rw [e] at hd
      have z := S.slot j s e
      have hl : j < env.length := (List.getElem?_eq_some_iff.mp e).1
      have go : ∀ {ds' : List D} {a : Addr}, (lockE (some j) env)[j]? = some (.lk (.lst ds')) → σ[j]? = some (some (.ref a)) → Live X.K F H (.lst ds') a → (ds', env, some j) = (ds, e0, u) → iList X.K (tVar j) σ H R := fun {ds' a} hk z1 L eq => by
        cases eq
        obtain ⟨_, xs, hx, r⟩ := L
        exact ⟨_, z1, a, rfl, ⟨xs, SqL.of hx⟩, q _ F H S Tr.refl (ItOK.slot hk z1)⟩
      cases s with
      | un => cases hd
      | val d =>
        obtain ⟨ds', h1, hd⟩ := obind (show (sqV d).bind _ = some (ds, e0, u) from hd)
        cases hd
        obtain ⟨v, z1, r⟩ := z
        cases d with
        | tup w => cases h1; obtain ⟨a, xs, rfl, s, r⟩ := r; exact .inr (.inl ⟨_, z1, a, rfl, ⟨xs, S.sub.sqT s⟩, q _ F H S Tr.refl (ItOK.seqT s r)⟩)
        | lst w => cases h1; obtain ⟨a, xs, rfl, s, r⟩ := r; exact .inl ⟨_, z1, a, rfl, ⟨xs, S.sub.sqL (SqL.of s)⟩, q _ F H S Tr.refl (ItOK.seqL (SqL.of s) r)⟩
        | scr w => cases h1; obtain ⟨a, xs, rfl, s, r⟩ := r; exact .inl ⟨_, z1, a, rfl, ⟨xs, S.sub.sqL s⟩, q _ F H S Tr.refl (ItOK.seqL s r)⟩
        | str w => cases h1; obtain ⟨rfl, oz⟩ := r; exact .inr (.inr ⟨_, z1, _, rfl, q _ F H S Tr.refl (ItOK.text oz)⟩)
        | _ => cases h1
      | own d =>
        cases d with
        | lst w => obtain ⟨a, z1, L, _⟩ := z; exact .inl (go (by simp only [lockE, e]; rw [List.getElem?_set_self hl]) z1 L (Option.some.inj hd))
        | _ => cases hd
      | io d =>
        cases d with
        | lst w => obtain ⟨a, z1, L⟩ := z; exact .inl (go (by simp only [lockE, e]; rw [List.getElem?_set_self hl]) z1 L (Option.some.inj hd))
        | _ => cases hd
      | lk d =>
        cases d with
        | lst w => obtain ⟨a, z1, L⟩ := z; exact .inl (go (by simp only [lockE, e]) z1 L (Option.some.inj hd))
        | _ => cases hd
theorem iVar_slot {j : Nat} {env : Ev} {ds : List D} {e0 : Ev} {i : Nat} (h : iVar j env = some (ds, e0, some i)) : i = j ∧ e0 = env ∧ (env[j]? = some (.own (.lst ds)) ∨ env[j]? = some (.io (.lst ds)) ∨ env[j]? = some (.lk (.lst ds))) := by
  unfold iVar at h
  cases e : env[j]? with
  | none => rw [e] at h; cases h
  | some s =>
    rw [e] at h
    cases s with
    | un => cases h
    | val d => obtain ⟨ds', h1, h⟩ := obind (show (sqV d).bind _ = some (ds, e0, some i) from h); cases h
    | own d => cases d <;> first | (cases h; exact ⟨rfl, rfl, .inl rfl⟩) | cases h
    | io d => cases d <;> first | (cases h; exact ⟨rfl, rfl, .inr (.inl rfl)⟩) | cases h
    | lk d => cases d <;> first | (cases h; exact ⟨rfl, rfl, .inr (.inr rfl)⟩) | cases h
theorem lk_var {j : Nat} : LkOK (iVar j) := fun env ds e0 u h i hi => by
  subst hi
  obtain ⟨rfl, rfl, h⟩ := iVar_slot h
  rcases h with h | h | h
  · have hl := (List.getElem?_eq_some_iff.mp h).1
    exact ⟨.lst ds, by simp only [lockE, h]; rw [List.getElem?_set_self hl]⟩
  · have hl := (List.getElem?_eq_some_iff.mp h).1
    exact ⟨.lst ds, by simp only [lockE, h]; rw [List.getElem?_set_self hl]⟩
  · exact ⟨.lst ds, by simp only [lockE, h]⟩
theorem hj_var {j : Nat} {vs : List Nat} (n : j ∉ vs) : ∀ env ds e0 i, iVar j env = some (ds, e0, some i) → i ∉ vs := fun env ds e0 i h => by
  obtain ⟨rfl, _⟩ := iVar_slot h
  exact n
theorem pid_rg1 (hg : Gl X "range") (hm : X.mg "range" = none) (ha : PE X a (rdE X.K da)) (hs : starEach [a] X.env = (false, eval a X.env) :: starEach [] X.env := by rfl) (hs1 : starEach [a] X.env = [(false, eval a X.env)] := by rfl) : PI X tg (.Call (.Name "range" p) [a] [] pos) (rdI X.K (iRg1 da)) :=
  PI.conv (pi_range1 hg hm (pa_cons ha pa_nil hs) hs1) fun σ H R ⟨B, env, F, ds, e0, u, S, hd, q⟩ => by
    obtain ⟨⟨r, e1⟩, h1, hd⟩ := obind hd
    obtain ⟨x, h2, hd⟩ := obind hd
    obtain ⟨n, h3, hd⟩ := obind hd
    by_cases hz : smallI n
    case neg => rw [if_neg hz] at hd; cases hd
    rw [if_pos hz] at hd
    cases hd
    cases intD_eq h3
    exact ⟨B, env, F, r, e0, S, h1, fun v F1 H1 S1 T1 R1 => ⟨n, by cases RR.pk S1 R1 h2; rfl, hz.1, hz.2, q _ F1 H1 S1 T1 ItOK.range⟩⟩
theorem lk_rg1 : LkOK (iRg1 d) := fun env ds e0 u h j hj => by
  obtain ⟨⟨r, e1⟩, h1, h⟩ := obind h
  obtain ⟨x, h2, h⟩ := obind h
  obtain ⟨n, h3, h⟩ := obind h
  split at h
  · cases h; cases hj
  · cases h
theorem hj_rg1 {vs : List Nat} : ∀ env ds e0 j, iRg1 d env = some (ds, e0, some j) → j ∉ vs := fun env ds e0 j h => by
  obtain ⟨⟨r, e1⟩, h1, h⟩ := obind h
  obtain ⟨x, h2, h⟩ := obind h
  obtain ⟨n, h3, h⟩ := obind h
  split at h <;> cases h
theorem pid_rg2 (hg : Gl X "range") (hm : X.mg "range" = none) (ha : PE X a (rdE X.K da)) (hb : PE X b (rdE X.K db)) (hs : starEach [a, b] X.env = (false, eval a X.env) :: starEach [b] X.env := by rfl) (hs0 : starEach [b] X.env = (false, eval b X.env) :: starEach [] X.env := by rfl) (hs1 : starEach [a, b] X.env = [(false, eval a X.env), (false, eval b X.env)] := by rfl) (hs2 : starEach [b] X.env = [(false, eval b X.env)] := by rfl) :
    PI X tg (.Call (.Name "range" p) [a, b] [] pos) (rdI X.K (iRg2 da db)) :=
  PI.conv (pi_range2 hg hm (pa_cons ha (pa_cons hb pa_nil hs0) hs) hs1 hs2) fun σ H R ⟨B, env, F, ds, e0, u, S, hd, q⟩ => by
    obtain ⟨⟨r, e1⟩, h1, hd⟩ := obind hd
    obtain ⟨x, h2, hd⟩ := obind hd
    obtain ⟨m, h3, hd⟩ := obind hd
    obtain ⟨⟨r2, e2⟩, h4, hd⟩ := obind hd
    obtain ⟨y, h5, hd⟩ := obind hd
    obtain ⟨n, h6, hd⟩ := obind hd
    by_cases hz : smallI m ∧ smallI n
    case neg => rw [if_neg hz] at hd; cases hd
    rw [if_pos hz] at hd
    cases hd
    cases intD_eq h3
    cases intD_eq h6
    refine ⟨B, env, F, r, e1, S, h1, fun v F1 H1 S1 T1 R1 => ⟨B, e1, F1, r2, e0, S1, h4, fun u F2 H2 S2 T2 R2 => ⟨m, n, ?_, ⟨hz.1.1, hz.1.2, hz.2.1, hz.2.2⟩, q _ F2 H2 S2 (T1.trans T2) ItOK.range⟩⟩⟩
    cases RR.pk S1 R1 h2
    cases RR.pk S2 R2 h5
    rfl
theorem lk_rg2 : LkOK (iRg2 da db) := fun env ds e0 u h j hj => by
  obtain ⟨⟨r, e1⟩, h1, h⟩ := obind h
  obtain ⟨x, h2, h⟩ := obind h
  obtain ⟨n, h3, h⟩ := obind h
  obtain ⟨⟨r2, e2⟩, h4, h⟩ := obind h
  obtain ⟨y, h5, h⟩ := obind h
  obtain ⟨m, h6, h⟩ := obind h
  split at h
  · cases h; cases hj
  · cases h
theorem hj_rg2 {vs : List Nat} : ∀ env ds e0 j, iRg2 da db env = some (ds, e0, some j) → j ∉ vs := fun env ds e0 j h => by
  obtain ⟨⟨r, e1⟩, h1, h⟩ := obind h
  obtain ⟨x, h2, h⟩ := obind h
  obtain ⟨n, h3, h⟩ := obind h
  obtain ⟨⟨r2, e2⟩, h4, h⟩ := obind h
  obtain ⟨y, h5, h⟩ := obind h
  obtain ⟨m, h6, h⟩ := obind h
  split at h <;> cases h
end

/-! ### two clauses: the rules -/
section
variable {X : Cx}
def dLc2 (di : DI) (vs : List Nat) (t : Tg) (dt : DT) (di1 : DI) (vs1 : List Nat) (t1 : Tg) (dt1 : DT) (de : DE) : DE := lcR di vs t (stp2 dt di1 vs1 t1 dt1 de)
theorem ped_lc2 {elt tg iter tg1 iter1 : Expr} {ifs ifs1 : List Expr} {scope : Scope} {own : List (Str × Nat)} {vs1 : List Nat} {pos : Pos} {di di1 : DI} {t t1 : Tg} {dt dt1 : DT} {de : DE} (hc : X.calm = true) (hN : X.N.Nodup) (hi : PI X tg iter (rdI X.K di)) (lk : LkOK di) (hj : ∀ env ds e0 j, di env = some (ds, e0, some j) → j ∉ own.map (·.2))
    (ok : BlkOk X.N X.env.scope scope own) (hv : ∀ i ∈ vs1, i ∈ own.map (·.2)) (ha : ∀ i ∈ t.all, i ∈ own.map (·.2)) (ha1 : ∀ i ∈ t1.all, i ∈ vs1) (hg : AllB X scope fun Y => PG Y tg (rdG X.K t)) (ht : AllB X scope fun Y => PTs Y ifs (rdT X.K dt))
    (hi1 : AllB X scope fun Y => PI Y tg1 iter1 (rdI X.K di1)) (hg1 : AllB X scope fun Y => PG Y tg1 (rdG X.K t1)) (ht1 : AllB X scope fun Y => PTs Y ifs1 (rdT X.K dt1)) (he : AllB X scope fun Y => PE Y elt (rdE X.K de))
    (hs : ∀ x, foldedSetIterable iter X.env x = pure x := by intro _; rfl) (hs1 : ∀ env x, foldedSetIterable iter1 env x = pure x := by intro _ _; rfl) : PE X (.ListComp elt [⟨tg, iter, ifs, 0⟩, ⟨tg1, iter1, ifs1, 0⟩] scope pos) (rdE X.K (dLc2 di (own.map (·.2)) t dt di1 vs1 t1 dt1 de)) :=
  PE.conv (pe_lc2 hc hN hi ok hv hg ht hi1 hg1 ht1 (fun s H C cl fp => ped_val (he s H C cl fp)) hs hs1) fun σ H Q h => lcR_ok (stp2_ok hv ha1) ha lk hj h
theorem psd_setLc2 {i : Nat} {y : Str} {py spos : Pos} {elt tg iter tg1 iter1 : Expr} {ifs ifs1 : List Expr} {scope : Scope} {own : List (Str × Nat)} {vs1 : List Nat} {pos : Pos} {di di1 : DI} {t t1 : Tg} {dt dt1 : DT} {de : DE} (hc : X.calm = true) (hN : X.N.Nodup) (hy : X.N[i]? = some y) (hyl : X.env.scope.names.lookup y = some .local)
    (hsw : swapsWith (.ListComp elt [⟨tg, iter, ifs, 0⟩, ⟨tg1, iter1, ifs1, 0⟩] scope pos) (some (.Name y py)) spos.line X.env = pure true) (hi : PI X tg iter (rdI X.K di)) (lk : LkOK di) (hj : ∀ env ds e0 j, di env = some (ds, e0, some j) → j ∉ own.map (·.2))
    (ok : BlkOk X.N X.env.scope scope own) (hv : ∀ i ∈ vs1, i ∈ own.map (·.2)) (ha : ∀ i ∈ t.all, i ∈ own.map (·.2)) (ha1 : ∀ i ∈ t1.all, i ∈ vs1) (hg : AllB X scope fun Y => PG Y tg (rdG X.K t)) (ht : AllB X scope fun Y => PTs Y ifs (rdT X.K dt))
    (hi1 : AllB X scope fun Y => PI Y tg1 iter1 (rdI X.K di1)) (hg1 : AllB X scope fun Y => PG Y tg1 (rdG X.K t1)) (ht1 : AllB X scope fun Y => PTs Y ifs1 (rdT X.K dt1)) (he : AllB X scope fun Y => PE Y elt (rdE X.K de))
    (hs : ∀ x, foldedSetIterable iter X.env x = pure x := by intro _; rfl) (hs1 : ∀ env x, foldedSetIterable iter1 env x = pure x := by intro _ _; rfl) : PS X (.Assign [.Name y py] (.ListComp elt [⟨tg, iter, ifs, 0⟩, ⟨tg1, iter1, ifs1, 0⟩] scope pos) spos) (rdS X.K (dAsg i (dLc2 di (own.map (·.2)) t dt di1 vs1 t1 dt1 de))) :=
  PS.conv (ps_setLc2 hc hN hy hyl hsw hi ok hv hg ht hi1 hg1 ht1 (fun s H C cl fp => ped_val (he s H C cl fp)) hs hs1) fun D σ H h => lcR_ok (stp2_ok hv ha1) ha lk hj (asg_ok h)
end
end VL
set_option Elab.async false
set_option linter.all false
set_option maxRecDepth 100000
/-! stores, pairs of names, t += u, ranges as lists, count, sorted -/
namespace VL
open PySem PySem.Spec L2

/-! ### t += u -/
section
open PyProof.Rows HT
theorem noI_tup : typeLookup (.type "tuple") (dunderI "add") = pure none := by rw [typeLookup_type, builtinLookup_eq_fast]; kernel_rfl
section
variable {prog : Program} {w : World} {A : Around} {E : Value → Shared → Prop} {s : Shared}
theorem plus_tup {t b : Addr} {vs ws : List Value} {Q : Value → Shared → Prop} (ht : IsTup s.heap t vs.toArray) (hb : IsTup s.heap b ws.toArray) (h0 : vs = [] → Q (.ref b) s)
    (h1 : vs ≠ [] → ws = [] → Q (.ref t) s) (h2 : vs ≠ [] → ws ≠ [] → Q (.ref s.heap.objs.size) { s with heap := s.heap.push { cls := .type "tuple", data := .seq (vs ++ ws).toArray } })
    (hz : vs.length + ws.length ≤ sizeLine) : wpAny (model prog w) A (inplaceOp .Add (.ref t) (.ref b)) Q E s := by
  obtain ⟨⟨c1, d1, t1, l1⟩, g1, k1, n1, e1⟩ := id ht
  obtain ⟨⟨c2, d2, t2, l2⟩, g2, k2, n2, e2⟩ := id hb
  simp only at k1 e1 k2 e2
  subst k1 e1 k2 e2
  refine inplaceOp_concat ⟨_, g1, rfl⟩ ⟨_, g2, rfl⟩ noI_tup noFill_tuple_add seq_tuple_add ?_
  by_cases hv : vs = []
  · exact call_meets PySem.F.slot_tuple_add ⟨_, g1, rfl⟩ PySem.F.entry_tuple_add (PySem.F.args_tuple_add_2 _ _) (tuple_addW0 t b vs.toArray ws.toArray n1 n2 d1 d2 l1 l2 (by simp [hv])) ⟨g1, g2, h0 hv⟩
  · by_cases hw : ws = []
    · exact call_meets PySem.F.slot_tuple_add ⟨_, g1, rfl⟩ PySem.F.entry_tuple_add (PySem.F.args_tuple_add_2 _ _) (tuple_addW1 t b vs.toArray ws.toArray n1 n2 d1 d2 l1 l2 (by simpa using hv) (by simp [hw])) ⟨g1, g2, h1 hv hw⟩
    · refine call_meets PySem.F.slot_tuple_add ⟨_, g1, rfl⟩ PySem.F.entry_tuple_add (PySem.F.args_tuple_add_2 _ _) (tuple_addW2 t b vs.toArray ws.toArray n1 n2 d1 d2 l1 l2 (by simpa using hv) (by simpa using hw) (by rw [List.size_toArray, List.size_toArray]; exact hz)) ⟨g1, g2, ?_⟩
      rw [show vs.toArray ++ ws.toArray = (vs ++ ws).toArray by simp]
      exact h2 hv hw
end
theorem iop_tup {X : Cx} : OpR X (inplaceOp .Add) (rCatA X.K) := by
  intro pins s σ H x y v u Q I rx ry h
  obtain ⟨a, b, xs, ys, rfl, rfl, ha, hb, hz, q0, q1, q2⟩ := h
  cases rx
  cases ry
  obtain ⟨its, r1, p1, _⟩ := I.tuple ha
  obtain ⟨its2, r2, p2, _⟩ := I.tuple hb
  refine plus_tup p1 p2 (fun z => ⟨.ref b, H, I, rfl, q0 (r1.nil_iff.mp z)⟩) (fun z1 z2 => ⟨.ref a, H, I, rfl, q1 (fun w => z1 (r1.nil_iff.mpr w)) (r2.nil_iff.mp z2)⟩) (fun z1 z2 => ?_) (by rw [← r1.length, ← r2.length]; exact hz)
  refine ⟨.ref s.heap.objs.size, _, I.laid (t' := s.toks) (o := .tup (xs ++ ys)) (fun c ob q => Heap.get?_push_of_some _ q) (Nat.le_refl _) ?_, rfl, q2 (fun w => z1 (r1.nil_iff.mpr w)) (fun w => z2 (r2.nil_iff.mpr w)) _ (I.hok.fresh (Nat.le_refl _))⟩
  exact ⟨by rw [List.length_append]; exact hz, _, r1.append r2, IsTup.new _ _⟩
end

section
variable {K : PySem.W.Frag} {X : Cx}
/-- x += y on ints, texts, tuples -/
def rAugA (K : PySem.W.Frag) : R2 := fun x y H Q => rI0 (fun i j => .int (i + j)) x y H Q ∨ (∃ i j, x = .str i ∧ y = .str j ∧ i.length + j.length ≤ sizeLine ∧ Q (.str (i ++ j)) H) ∨ rCatA K x y H Q
@[simp] def semAug : D → D → Option Rs
  | .int i, .int j => addI (.int i) (.int j)
  | .str a, .str b => addS (.str a) (.str b)
  | .tup a, .tup b => addT (.tup a) (.tup b)
  | _, _ => none
theorem iop_addA : OpR X (inplaceOp .Add) (rAugA X.K) := by
  intro pins s σ H x y v u Q I rx ry h
  rcases h with h | h | h
  · exact iop_add pins s σ H x y v u Q I rx ry h
  · exact iop_add_str pins s σ H x y v u Q I rx ry h
  · exact iop_tup pins s σ H x y v u Q I rx ry h
theorem semAug_ok : BinOK K (rAugA K) semAug := by
  intro F H x y d1 d2 o l p1 p2 e Q q
  cases d1 with
  | int i => cases d2 with
    | int j => exact .inl (addI_ok F H x y _ _ o l p1 p2 e Q q)
    | _ => cases e
  | str i => cases d2 with
    | str j => exact .inr (.inl (addS_ok F H x y _ _ o l p1 p2 e Q q))
    | _ => cases e
  | tup i => cases d2 with
    | tup j => exact .inr (.inr (addT_ok F H x y _ _ o l p1 p2 e Q q))
    | _ => cases e
  | _ => cases e

/-! ### a, b = x, y with names of the frame's own -/
@[simp] def putNs : List Nat → List Rs → Ev → Option Ev
  | [], [], e => some e
  | i :: is, r :: rs, e => if noSlot r = true then (put i r e).bind fun e' => putNs is rs e' else none
  | _, _, _ => none
def setNs : List Nat → List V → St → St
  | i :: is, v :: vs, σ => setNs is vs (σ.set i (some v))
  | _, _, σ => σ
theorem put_same {B : Hp} {F H : Hp} {env : Ev} {σ : St} {e0 : Ev} {σ0 : St} {F0 H0 : Hp} {i : Nat} {r : Rs} {v : V} {env' : Ev} (S : SR K B env F σ H) (hB : ∀ a, H0 a = none → B a = none) (t : Tr e0 σ0 F0 H0 env σ F H) (q : RR K H0 env F σ H r v) (ns : noSlot r = true) (h : put i r env = some env') :
    SR K B env' F (σ.set i (some v)) H ∧ Tr e0 σ0 F0 H0 env' (σ.set i (some v)) F H ∧ ∀ a, Held env' (σ.set i (some v)) a → Held env σ a ∨ ((∃ d, r = .fresh d) ∧ v = .ref a) := by
  have held : ∀ {s : Sl}, i < env.length → (∀ a, Held (env.set i s) (σ.set i (some v)) a → Held env σ a ∨ (s.held = true ∧ v = .ref a)) := fun {s} hi a ⟨j, s', e, m, z⟩ => by
    by_cases ij : i = j
    · subst ij
      rw [List.getElem?_set_self hi] at e
      rw [List.getElem?_set_self (by rw [← S.len]; exact hi)] at z
      cases e; cases z
      exact .inr ⟨m, rfl⟩
    · rw [List.getElem?_set_ne ij] at e z
      exact .inl ⟨j, s', e, m, z⟩
  cases r with
  | val d =>
    obtain ⟨s, h1, h⟩ := obind h
    by_cases hf : s.free = true
    · rw [if_pos hf] at h
      cases h
      have hi := (List.getElem?_eq_some_iff.mp h1).1
      refine ⟨S.set hi ⟨v, rfl, q⟩ (fun z => nomatch z), t.set S h1 hf rfl (fun z => nomatch z), fun a w => ?_⟩
      rcases held hi a w with w | ⟨w, _⟩
      · exact .inl w
      · cases w
    · rw [if_neg hf] at h; cases h
  | fresh d =>
    obtain ⟨s, h1, h⟩ := obind h
    by_cases hf : s.free = true
    · rw [if_pos hf] at h
      cases h
      have hi := (List.getElem?_eq_some_iff.mp h1).1
      obtain ⟨a, e, n, nh, l⟩ := q
      subst e
      refine ⟨S.set hi ⟨a, rfl, l, hB a n⟩ (fun _ b e => by cases e; exact nh), t.set S h1 hf rfl (fun _ b e => by cases e; exact n), fun b w => ?_⟩
      rcases held hi b w with w | ⟨_, w⟩
      · exact .inl w
      · exact .inr ⟨⟨d, rfl⟩, w⟩
    · rw [if_neg hf] at h; cases h
  | slot j => cases ns
theorem RRs.put {H0 : Hp} {F H : Hp} {env env' : Ev} {σ σ' : St} {r : Rs} {v : V} (hh : ∀ a, Held env' σ' a → Held env σ a ∨ ((∃ d, r = .fresh d) ∧ v = .ref a)) : ∀ {rs : List Rs} {vs : List V}, RRs K H0 env F σ H rs vs → (∀ r' ∈ rs, noSlot r' = true) → (∀ d, r = .fresh d → ∀ (k : Nat) (d' : D), rs[k]? = some (.fresh d') → vs[k]? ≠ some v) → RRs K H0 env' F σ' H rs vs
  | _, _, .nil, _, _ => .nil
  | r1 :: rs, v1 :: vs, .cons h t n, ns, ap => by
    refine .cons ?_ (RRs.put hh t (fun r' hm => ns r' (List.mem_cons_of_mem _ hm)) fun d e k d' h1 => ?_) n
    · cases r1 with
      | val d => exact h
      | slot j => exact absurd (ns _ List.mem_cons_self) (by intro z; cases z)
      | fresh d =>
        obtain ⟨a, e, nn, nh, l⟩ := h
        refine ⟨a, e, nn, fun w => ?_, l⟩
        rcases hh a w with w | ⟨⟨d0, e0⟩, w⟩
        · exact nh w
        · exact ap d0 e0 0 d rfl (by rw [e, w]; rfl)
    · have := ap d e (k + 1) d' (by simpa using h1)
      simpa using this
theorem putNs_ns : ∀ {is : List Nat} {rs : List Rs} {e e' : Ev}, putNs is rs e = some e' → ∀ r ∈ rs, noSlot r = true
  | [], [], _, _, _, r, hr => by cases hr
  | [], _ :: _, _, _, h, _, _ => by cases h
  | _ :: _, [], _, _, h, _, _ => by cases h
  | i :: is, r :: rs, e, e', h, r', hr => by
    have h : (if noSlot r = true then (put i r e).bind fun e' => putNs is rs e' else none) = some e' := h
    by_cases ns : noSlot r = true
    case neg => rw [if_neg ns] at h; cases h
    rw [if_pos ns] at h
    obtain ⟨e1, h1, h⟩ := obind h
    rcases List.mem_cons.mp hr with rfl | hr
    · exact ns
    · exact putNs_ns h r' hr
theorem putNs_ok {B : Hp} {F H : Hp} {e0 : Ev} {σ0 : St} {F0 H0 : Hp} (hB : ∀ a, H0 a = none → B a = none) : ∀ {is : List Nat} {rs : List Rs} {vs : List V} {env env' : Ev} {σ : St}, SR K B env F σ H → Tr e0 σ0 F0 H0 env σ F H → RRs K H0 env F σ H rs vs → putNs is rs env = some env' →
    SR K B env' F (setNs is vs σ) H ∧ Tr e0 σ0 F0 H0 env' (setNs is vs σ) F H
  | [], [], _, env, env', σ, S, t, .nil, h => by cases h; exact ⟨S, t⟩
  | [], _ :: _, _, _, _, _, _, _, _, h => by cases h
  | _ :: _, [], _, _, _, _, _, _, _, h => by cases h
  | i :: is, r :: rs, v :: vs, env, env', σ, S, t, .cons q qs n, h => by
    have h : (if noSlot r = true then (put i r env).bind fun e' => putNs is rs e' else none) = some env' := h
    by_cases ns : noSlot r = true
    case neg => rw [if_neg ns] at h; cases h
    rw [if_pos ns] at h
    obtain ⟨e1, h1, h⟩ := obind h
    obtain ⟨S1, t1, hh⟩ := put_same S hB t q ns h1
    have w := putNs_ok hB S1 t1 (RRs.put hh qs (putNs_ns h) n) h
    exact w
@[simp] def dPar (is : List Nat) (da : DA) : DS := fun env => (da env).bind fun (rs, e) => (putNs is rs e).bind fun e' => some (.nx e')
theorem par_ok {is : List Nat} {da : DA} {D : Ends} {σ : St} {H : Hp} (h : rdS K (dPar is da) D σ H) : rdA K da σ H fun vs H1 => vs.length = is.length ∧ D.nx (setNs is vs σ) H1 := by
  obtain ⟨B, env, F, o, S, hd, q⟩ := h
  obtain ⟨⟨rs, e1⟩, h1, hd⟩ := obind hd
  obtain ⟨e2, h2, hd⟩ := obind hd
  cases hd
  refine ⟨B, env, F, rs, e1, S, h1, fun vs F1 H1 S1 T1 R1 => ⟨?_, ?_⟩⟩
  · have aux : ∀ {is : List Nat} {rs : List Rs} {e e' : Ev}, putNs is rs e = some e' → rs.length = is.length := by
      intro is
      induction is with
      | nil => intro rs e e' h; cases rs with
        | nil => rfl
        | cons _ _ => cases h
      | cons i is ih => intro rs e e' h; cases rs with
        | nil => cases h
        | cons r rs =>
          have h : (if noSlot r = true then (put i r e).bind fun e' => putNs is rs e' else none) = some e' := h
          split at h
          · obtain ⟨e3, _, h⟩ := obind h; rw [List.length_cons, List.length_cons, ih h]
          · cases h
    rw [R1.length]; exact aux h2
  · obtain ⟨S2, T2⟩ := putNs_ok S.old S1 T1 R1 h2
    exact q _ F1 H1 S2 T2
theorem psd_par2 {i j : Nat} {x y : Str} {a b : Expr} {da : DA} {px py pt pos : Pos} {kt k2 pt2} (hc : X.calm = true) (hN : X.N.Nodup) (hi : X.N[i]? = some x) (hj : X.N[j]? = some y) (hij : i ≠ j)
    (hx : X.env.scope.names.lookup x = some .local) (hy : X.env.scope.names.lookup y = some .local) (ha : PA X [a, b] (rdA X.K da))
    (hw : swappedStores [.Tuple [.Name x px, .Name y py] kt pt] (.Tuple [a, b] k2 pt2) X.env = pure (some [x, y]))
    (hs : swapsWithSole [.Tuple [.Name x px, .Name y py] kt pt] (.Tuple [a, b] k2 pt2) pos.line X.env = pure false := by rfl) :
    PS X (.Assign [.Tuple [.Name x px, .Name y py] kt pt] (.Tuple [a, b] k2 pt2) pos) (rdS X.K (dPar [i, j] da)) :=
  PS.conv (ps_par hc hN hi hj hij hx hy ha hw hs) fun D σ H h => by
    obtain ⟨B, env, F, rs, e', S, h1, k⟩ := par_ok h
    refine ⟨B, env, F, rs, e', S, h1, fun vs F' H' S' T' R' => ?_⟩
    obtain ⟨hl, q⟩ := k vs F' H' S' T' R'
    match vs, hl with
    | [v, w], _ => exact ⟨v, w, rfl, q⟩
theorem psd_par3 {i j l : Nat} {x y z : Str} {a b c : Expr} {da : DA} {px py pz pt pos : Pos} {kt k2 pt2} (hc : X.calm = true) (hN : X.N.Nodup) (hi : X.N[i]? = some x) (hj : X.N[j]? = some y) (hl : X.N[l]? = some z) (hij : i ≠ j) (hil : i ≠ l) (hjl : j ≠ l)
    (hx : X.env.scope.names.lookup x = some .local) (hy : X.env.scope.names.lookup y = some .local) (hz : X.env.scope.names.lookup z = some .local) (ha : PA X [a, b, c] (rdA X.K da))
    (hw : swappedStores [.Tuple [.Name x px, .Name y py, .Name z pz] kt pt] (.Tuple [a, b, c] k2 pt2) X.env = pure (some [x, y, z]))
    (hs : swapsWithSole [.Tuple [.Name x px, .Name y py, .Name z pz] kt pt] (.Tuple [a, b, c] k2 pt2) pos.line X.env = pure false := by rfl) :
    PS X (.Assign [.Tuple [.Name x px, .Name y py, .Name z pz] kt pt] (.Tuple [a, b, c] k2 pt2) pos) (rdS X.K (dPar [i, j, l] da)) :=
  PS.conv (ps_par3 hc hN hi hj hl hij hil hjl hx hy hz ha hw hs) fun D σ H h => by
    obtain ⟨B, env, F, rs, e', S, h1, k⟩ := par_ok h
    refine ⟨B, env, F, rs, e', S, h1, fun vs F' H' S' T' R' => ?_⟩
    obtain ⟨hl, q⟩ := k vs F' H' S' T' R'
    match vs, hl with
    | [u, v, w], _ => exact ⟨u, v, w, rfl, q⟩

/-! ### list(range(..)), tuple(range(..)) -/
def rgOk (a b : Int) : Prop := smallI a ∧ smallI b ∧ (b - a).toNat ≤ 16777216
instance (a b : Int) : Decidable (rgOk a b) := by unfold rgOk; exact inferInstance
abbrev DR := Ev → Option (Int × Int × Ev)
def rdR (K : PySem.W.Frag) (d : DR) : St → Hp → (Int → Int → Hp → Prop) → Prop := fun σ H Q => ∃ B env F m n env', SR K B env F σ H ∧ d env = some (m, n, env') ∧ ∀ F' H', SR K B env' F' σ H' → Tr env σ F H env' σ F' H' → Q m n H'
@[simp] def dR1 (d : DE) : DR := fun env => (d env).bind fun (r, e) => (r.data e).bind fun x => (intD x).bind fun n => some (0, n, e)
@[simp] def dR2 (a b : DE) : DR := fun env => (a env).bind fun (r, e) => (r.data e).bind fun x => (intD x).bind fun m => (b e).bind fun (r2, e2) => (r2.data e2).bind fun y => (intD y).bind fun n => some (m, n, e2)
variable {a b e : Expr} {da db : DE} {p pos : Pos}
theorem prd_1 (hg : Gl X "range") (hm : X.mg "range" = none) (ha : PE X a (rdE X.K da)) (na : starEach [a] X.env = (false, eval a X.env) :: starEach [] X.env := by rfl) : PRg X (.Call (.Name "range" p) [a] [] pos) (rdR X.K (dR1 da)) := fun pins s σ H Q I ⟨B, env, F, m, n, env', S, hd, q⟩ => by
  obtain ⟨⟨r, e1⟩, h1, hd⟩ := obind hd
  obtain ⟨x, h2, hd⟩ := obind hd
  obtain ⟨k, h3, hd⟩ := obind hd
  cases hd
  cases intD_eq h3
  exact prg_1 hg hm ha na pins s σ H Q I ⟨B, env, F, r, env', S, h1, fun v F1 H1 S1 T1 R1 => ⟨n, RR.pk S1 R1 h2, q F1 H1 S1 T1⟩⟩
theorem prd_2 (hg : Gl X "range") (hm : X.mg "range" = none) (ha : PE X a (rdE X.K da)) (hb : PE X b (rdE X.K db)) (na : starEach [a, b] X.env = (false, eval a X.env) :: starEach [b] X.env := by rfl)
    (nb : starEach [b] X.env = (false, eval b X.env) :: starEach [] X.env := by rfl) (hp : (backTo pos (starEach [b] X.env)).any (·.1) = false := by rfl) : PRg X (.Call (.Name "range" p) [a, b] [] pos) (rdR X.K (dR2 da db)) := fun pins s σ H Q I ⟨B, env, F, m, n, env', S, hd, q⟩ => by
  obtain ⟨⟨r, e1⟩, h1, hd⟩ := obind hd
  obtain ⟨x, h2, hd⟩ := obind hd
  obtain ⟨k, h3, hd⟩ := obind hd
  obtain ⟨⟨r2, e2⟩, h4, hd⟩ := obind hd
  obtain ⟨y, h5, hd⟩ := obind hd
  obtain ⟨k2, h6, hd⟩ := obind hd
  cases hd
  cases intD_eq h3
  cases intD_eq h6
  exact prg_2 hg hm ha hb na nb hp pins s σ H Q I ⟨B, env, F, r, e1, S, h1, fun v F1 H1 S1 T1 R1 => ⟨B, e1, F1, r2, env', S1, h4, fun u F2 H2 S2 T2 R2 => ⟨m, n, RR.pk S1 R1 h2, RR.pk S2 R2 h5, q F2 H2 S2 (T1.trans T2)⟩⟩⟩
theorem rep_rgs {F : Hp} (m n : Int) : RepL K F (rgs m (n - m).toNat) (rgV m n) := by
  unfold rgs rgV
  generalize List.range (n - m).toNat = l
  induction l with
  | nil => exact RepL.nil
  | cons i l ih => exact RepL.cons (show Rep K F (.int _) _ from rfl) ih
@[simp] def dListR (d : DR) : DE := fun env => (d env).bind fun (m, n, e) => if rgOk m n then some (.fresh (.lst (rgs m (n - m).toNat)), e) else none
@[simp] def dTupR (d : DR) : DE := fun env => (d env).bind fun (m, n, e) => if rgOk m n then some (.val (.tup (rgs m (n - m).toNat)), e) else none
theorem ped_listR {dr : DR} (hc : X.calm = true) (hg : Gl X "list") (hm : X.mg "list" = none) (he : PRg X e (rdR X.K dr)) (na : starEach [e] X.env = (false, eval e X.env) :: starEach [] X.env := by rfl) : PE X (.Call (.Name "list" p) [e] [] pos) (rdE X.K (dListR dr)) :=
  PE.conv (pe_listRg hc hg hm he na) fun σ H Q ⟨B, env, F, r, env', S, hd, q⟩ => by
    obtain ⟨⟨m, n, e1⟩, h1, hd⟩ := obind hd
    have hd : (if rgOk m n then some (Rs.fresh (.lst (rgs m (n - m).toNat)), e1) else none) = some (r, env') := hd
    by_cases hz : rgOk m n
    case neg => rw [if_neg hz] at hd; cases hd
    rw [if_pos hz] at hd
    cases hd
    refine ⟨B, env, F, m, n, env', S, h1, fun F1 H1 S1 T1 => ⟨⟨hz.1.1, hz.1.2, hz.2.1.1, hz.2.1.2, hz.2.2⟩, fun l hl => ?_⟩⟩
    have nw := New.put (o := .lst (rgV m n)) S1.sub hl
    exact q _ _ _ (S1.new nw) (T1.trans nw.tr) ((NR.rr S1 (NR.list S1.sub hl (rep_rgs m n))).back fun a z => T1.dom' z)
theorem ped_tupR {dr : DR} (hc : X.calm = true) (hg : Gl X "tuple") (hm : X.mg "tuple" = none) (he : PRg X e (rdR X.K dr)) (na : starEach [e] X.env = (false, eval e X.env) :: starEach [] X.env := by rfl) : PE X (.Call (.Name "tuple" p) [e] [] pos) (rdE X.K (dTupR dr)) :=
  PE.conv (pe_tupRg hc hg hm he na) fun σ H Q ⟨B, env, F, r, env', S, hd, q⟩ => by
    obtain ⟨⟨m, n, e1⟩, h1, hd⟩ := obind hd
    have hd : (if rgOk m n then some (Rs.val (.tup (rgs m (n - m).toNat)), e1) else none) = some (r, env') := hd
    by_cases hz : rgOk m n
    case neg => rw [if_neg hz] at hd; cases hd
    rw [if_pos hz] at hd
    cases hd
    refine ⟨B, env, F, m, n, env', S, h1, fun F1 H1 S1 T1 => ⟨⟨hz.1.1, hz.1.2, hz.2.1.1, hz.2.1.2, hz.2.2⟩, fun l hl => ?_⟩⟩
    have nw := New.puts (o := .tup (rgV m n)) S1.sub hl
    exact q _ _ _ (S1.new nw) (T1.trans nw.tr) (NR.tuple S1.sub hl (rep_rgs m n))
end
end VL
set_option Elab.async false
set_option linter.all false
set_option maxRecDepth 100000
/-! sorted: ints, pairs of ints; sorted(set(..)) of ints -/
namespace VL
open PySem PySem.Spec L2

def prD (p : Int × Int) : D := .tup [.int p.1, .int p.2]
/-- p not behind q -/
def lexLe (p q : Int × Int) : Bool := decide (p.1 < q.1 ∨ (p.1 = q.1 ∧ p.2 ≤ q.2))
theorem lexLe_iff {p q : Int × Int} : lexLe p q = true ↔ p.1 < q.1 ∨ (p.1 = q.1 ∧ p.2 ≤ q.2) := decide_eq_true_iff
theorem lexLe_trans (a b c : Int × Int) (h1 : lexLe a b = true) (h2 : lexLe b c = true) : lexLe a c = true := by
  rw [lexLe_iff] at *; omega
theorem lexLe_total (a b : Int × Int) : (lexLe a b || lexLe b a) = true := by
  rw [Bool.or_eq_true, lexLe_iff, lexLe_iff]; omega
theorem lexLe_anti {a b : Int × Int} (h1 : lexLe a b = true) (h2 : lexLe b a = true) : a = b := by
  rw [lexLe_iff] at *
  exact Prod.ext (by omega) (by omega)
theorem sort_pr {l m : List (Int × Int)} (h : l.Perm m) (s : l.Pairwise fun x y => lexLe x y = true) : l = m.mergeSort lexLe :=
  List.Perm.eq_of_pairwise (fun a b _ _ h1 h2 => lexLe_anti h1 h2) s (List.pairwise_mergeSort lexLe_trans lexLe_total m) (h.trans (List.mergeSort_perm m lexLe).symm)
def leZ (a b : Int) : Bool := decide (a ≤ b)
theorem sort_int {l m : List Int} (h : l.Perm m) (s : l.Pairwise (· ≤ ·)) : l = m.mergeSort leZ := by
  refine List.Perm.eq_of_pairwise (le := fun a b => leZ a b = true) (fun a b _ _ h1 h2 => ?_) (s.imp fun h => decide_eq_true h) (List.pairwise_mergeSort (fun a b c h1 h2 => ?_) (fun a b => ?_) m) (h.trans (List.mergeSort_perm m leZ).symm)
  · have := of_decide_eq_true h1; have := of_decide_eq_true h2; omega
  · have := of_decide_eq_true h1; have := of_decide_eq_true h2; exact decide_eq_true (by omega)
  · rw [Bool.or_eq_true]
    rcases Int.le_total a b with h | h
    · exact .inl (decide_eq_true h)
    · exact .inr (decide_eq_true h)

section
variable {K : PySem.W.Frag} {X : Cx}
theorem RepL.mem {F : Hp} : ∀ {ds : List D} {xs : List V} {x : V}, RepL K F ds xs → x ∈ xs → ∃ d ∈ ds, Rep K F d x
  | [], _, _, r, h => by cases r; cases h
  | d :: ds, _, x, r, h => by
    obtain ⟨y, rr, rfl, r1, r2⟩ := r
    rcases List.mem_cons.mp h with rfl | h
    · exact ⟨d, List.mem_cons_self, r1⟩
    · obtain ⟨d', m, r'⟩ := r2.mem h
      exact ⟨d', List.mem_cons_of_mem _ m, r'⟩
/-- sorted(xs), pairs of ints -/
def rSortPr (K : PySem.W.Frag) : List V → Hp → VK → Prop := fun vs H Q => ∃ (F : Hp) (a : Addr) (xs : List V) (ps : List (Int × Int)), Le F H ∧ vs = [V.ref a] ∧ SqL K H a xs ∧ RepL K F (ps.map prD) xs ∧
  ∀ ys p, RepL K F ((ps.mergeSort lexLe).map prD) ys → H p = none → Q (.ref p) (upd H p (.lst ys))
open Classical in
theorem cr_sortPr : CallR X (.builtin "sorted") (rSortPr X.K) := by
  intro pins s σ H vs us Q I r h
  obtain ⟨F, a, xs, ps, l, rfl, hs, hp, q⟩ := h
  obtain ⟨its, rv, hl, hz⟩ := I.list hs
  have uniq : ∀ {x : V} {p p' : Int × Int}, Rep X.K F (prD p) x → Rep X.K F (prD p') x → p = p' := fun {x p p'} h h' => by
    obtain ⟨t, ys, rfl, s1, r1⟩ := h
    obtain ⟨t', ys', e, s2, r2⟩ := h'
    cases e
    have e2 := I.tuple_inj (l.sqT s1) (l.sqT s2)
    subst e2
    obtain ⟨v1, w1, rfl, a1, v2, w2, e3, a2, e4⟩ := r1
    obtain ⟨u1, z1, e5, b1, u2, z2, e6, b2, e7⟩ := r2
    subst e3
    cases e5
    cases e6
    cases a1; cases a2
    have b1 : V.int p.1 = V.int p'.1 := b1
    have b2 : V.int p.2 = V.int p'.2 := b2
    cases p; cases p'
    cases b1; cases b2
    rfl
  let k : V → Int × Int := fun x => if h : ∃ p, Rep X.K F (prD p) x then h.choose else (0, 0)
  have hk : ∀ {x : V} {p : Int × Int}, Rep X.K F (prD p) x → k x = p := fun {x p} h => by
    have ex : ∃ p, Rep X.K F (prD p) x := ⟨p, h⟩
    show (if h : ∃ p, Rep X.K F (prD p) x then h.choose else (0, 0)) = p
    rw [dif_pos ex]
    exact uniq ex.choose_spec h
  have mapk : ∀ {ps : List (Int × Int)} {xs : List V}, RepL X.K F (ps.map prD) xs → xs.map k = ps := by
    intro ps
    induction ps with
    | nil => intro xs r; cases r; rfl
    | cons p ps ih =>
      intro xs r
      obtain ⟨y, rr, rfl, r1, r2⟩ := r
      rw [List.map_cons, hk r1, ih r2]
  have back : ∀ {ys : List V}, (∀ y ∈ ys, y ∈ xs) → RepL X.K F ((ys.map k).map prD) ys := by
    intro ys
    induction ys with
    | nil => intro _; rfl
    | cons y ys ih =>
      intro h
      obtain ⟨d, md, rd⟩ := RepL.mem hp (h y List.mem_cons_self)
      obtain ⟨p, _, rfl⟩ := List.mem_map.mp md
      rw [List.map_cons, List.map_cons, hk rd]
      exact RepL.cons rd (ih fun z hz => h z (List.mem_cons_of_mem _ hz))
  obtain ⟨u, rfl, ru⟩ := vals1 r
  obtain rfl : u = Value.ref a := ru
  obtain ⟨e1, e2⟩ := refs_back rv fun x m => by
    obtain ⟨d, md, rd⟩ := RepL.mem hp m
    obtain ⟨p, _, rfl⟩ := List.mem_map.mp md
    obtain ⟨t, _, e, _⟩ := rd
    exact ⟨t, e⟩
  refine SrtO.sorted_pairsO (k := fun u => k (backV u)) hl.isList (by rw [← rv.length]; exact hz) (fun v hv => ?_) fun h' d out h1 h2 kp hd hn => ?_
  · obtain ⟨t, rfl⟩ := e2 v hv
    have hm : V.ref t ∈ xs := by rw [e1]; exact List.mem_map.mpr ⟨_, hv, rfl⟩
    obtain ⟨d, md, rd⟩ := RepL.mem hp hm
    obtain ⟨p, _, rfl⟩ := List.mem_map.mp md
    show Srt.IsPair s.heap (Value.ref t) (k (V.ref t)).1 (k (V.ref t)).2
    rw [hk rd]
    obtain ⟨t', ys, e, sq, r2⟩ := rd
    cases e
    obtain ⟨v1, w1, rfl, a1, v2, w2, e3, a2, e4⟩ := r2
    subst e3 e4
    cases a1; cases a2
    obtain ⟨its2, r2, ⟨o, ho, hc, n, hd⟩, _⟩ := I.tuple (l.sqT sq)
    obtain ⟨u1, u2, rfl, ri, rj⟩ := vals2 r2
    obtain ⟨t1, rfl⟩ := ri
    obtain ⟨t2, rfl⟩ := rj
    exact ⟨t, o, t1, t2, n, rfl, ho, hc, hd⟩
  · have h3 : ∀ u ∈ out, ∃ a, u = Value.ref a := fun u hu => e2 u (h2.perm.mem_iff.mp hu)
    obtain ⟨n, hn⟩ := hn
    have pm : (out.map backV).Perm xs := by rw [e1]; exact h2.perm.map backV
    have ss : ((out.map backV).map k).Pairwise fun x y => lexLe x y = true := by
      rw [List.map_map]
      refine List.pairwise_map.mpr (h1.imp fun {x y} h => ?_)
      have h := SrtO.lexB_no.mp h
      rw [lexLe_iff]
      show (k (backV x)).1 < (k (backV y)).1 ∨ _
      simp only [Function.comp_apply]
      omega
    have pk : ((out.map backV).map k).Perm ps := by
      have := pm.map k
      rw [mapk hp] at this
      exact this
    refine ⟨.ref d, upd H d (.lst (out.map backV)), I.laid (t' := s.toks) kp hd ⟨by rw [pm.length_eq]; exact hz, out, n, vals_back h3, hn⟩, rfl, q _ d ?_ (I.hok.fresh hd)⟩
    rw [← sort_pr pk ss]
    exact back fun y hy => pm.mem_iff.mp hy
def prOf : D → Option (Int × Int)
  | .tup [.int i, .int j] => some (i, j)
  | _ => none
theorem prOf_eq {d : D} {p : Int × Int} (h : prOf d = some p) : d = prD p := by
  unfold prOf at h
  split at h
  · cases h; rfl
  · cases h
def prsOf : List D → Option (List (Int × Int))
  | [] => some []
  | d :: ds => (prOf d).bind fun p => (prsOf ds).bind fun ps => some (p :: ps)
theorem prsOf_eq : ∀ {ds : List D} {ps : List (Int × Int)}, prsOf ds = some ps → ds = ps.map prD
  | [], _, h => by cases h; rfl
  | d :: ds, _, h => by
    obtain ⟨p, h1, h⟩ := obind h
    obtain ⟨ps', h2, h⟩ := obind h
    cases h
    rw [prOf_eq h1, prsOf_eq h2]
    rfl
def seqD : D → Option (List D)
  | .lst ds => some ds
  | .scr ds => some ds
  | _ => none
theorem seqD_pk {F H : Hp} {d : D} {ds : List D} {v : V} (h : seqD d = some ds) (p : Pk K F H d v) : ∃ a xs, v = .ref a ∧ SqL K H a xs ∧ RepL K F ds xs := by
  cases d with
  | lst z => cases h; obtain ⟨a, xs, e, s, r⟩ := p; exact ⟨a, xs, e, SqL.of s, r⟩
  | scr z => cases h; exact p
  | _ => cases h
def semSort : List D → Option Rs
  | [d] => (seqD d).bind fun ds => match intsOf ds with
    | some is => some (.fresh (.lst ((is.mergeSort leZ).map .int)))
    | none => (prsOf ds).bind fun ps => some (.fresh (.lst ((ps.mergeSort lexLe).map prD)))
  | _ => none
theorem rep_mapI {F : Hp} : ∀ is : List Int, RepL K F (is.map .int) (is.map V.int)
  | [] => rfl
  | i :: is => RepL.cons (show Rep K F (.int i) _ from rfl) (rep_mapI is)
abbrev rSortA (K : PySem.W.Frag) : List V → Hp → VK → Prop := fun xs H Q => rSortedI K xs H Q ∨ rSortPr K xs H Q
theorem cr_sortA : CallR X (.builtin "sorted") (rSortA X.K) := cr_sortedI.or cr_sortPr
theorem semSort_ok : CallOK K (rSortA K) semSort := by
  intro F H xs ds o l p e Q q
  match ds, e with
  | [d], e =>
    obtain ⟨v, e0, pp⟩ := p.one
    subst e0
    obtain ⟨es, h1, e⟩ := obind e
    obtain ⟨a, ys, rfl, sq, rl⟩ := seqD_pk h1 pp
    cases h2 : intsOf es with
    | some is =>
      have e : (match intsOf es with
        | some is => some (Rs.fresh (.lst ((is.mergeSort leZ).map .int)))
        | none => (prsOf es).bind fun ps => some (.fresh (.lst ((ps.mergeSort lexLe).map prD)))) = some o := e
      rw [h2] at e
      cases e
      cases intsOf_eq h2
      cases rep_ints rl
      refine .inl ⟨a, is, rfl, sq, fun ns n hp hs hn => ?_⟩
      rw [sort_int hp hs]
      exact q _ F _ (New.put l hn) (NR.list l hn (rep_mapI _))
    | none =>
      have e : (match intsOf es with
        | some is => some (Rs.fresh (.lst ((is.mergeSort leZ).map .int)))
        | none => (prsOf es).bind fun ps => some (.fresh (.lst ((ps.mergeSort lexLe).map prD)))) = some o := e
      rw [h2] at e
      obtain ⟨ps, h3, e⟩ := obind e
      cases e
      cases prsOf_eq h3
      exact .inr ⟨F, a, ys, ps, l, rfl, sq, rl, fun zs n r hn => q _ F _ (New.put l hn) (NR.list l hn r)⟩
end
end VL
set_option Elab.async false
set_option linter.all false
set_option maxRecDepth 100000
/-! defs of a program by name; the law's end -/
namespace VL
open PySem PySem.Spec L2

/-- a def that the top has made -/
structure Raw (K : PySem.W.Frag) (mg : Str → Option Value) (x : Str) (st : Stmt) (ps : List Str) : Prop where
  ex : ∃ f fd, FunD K x x (defArgs st) (defBody st) (defScope st) [] [] f fd ∧ mg x = some (.ref f) ∧ Binds K fd ps []
/-- a def that does what fn says -/
structure Kn (P : Program) (w : World) (K : PySem.W.Frag) (mg : Str → Option Value) (base : Heap) (x : Str) (ps : List Str) (d : Nat) (fn : Fn) : Prop where
  ex : ∃ f fd, mg x = some (.ref f) ∧ PySem.W.keepIn K (.ref f) = true ∧ Binds K fd ps [] ∧ FnOk P w K mg base CX0 d f fd ps (spD K ps.length fn)
section
variable {P : Program} {w : World} {K : PySem.W.Frag} {mg : Str → Option Value} {base : Heap} {x : Str} {st : Stmt} {ps N : List Str} {d : Nat} {fn fn' : Fn} {body : DS}
theorem Raw.kn (R : Raw K mg x st ps) (S : FnScope N ps (defScope st)) (hn : ps.length ≤ N.length)
    (hbody : ∀ (f : Addr) (cdv : Value) (A : Around) (outer : List PySem.Env) (s : Shared) (H : Hp) (E : XK), Room d (A.deeper (PyProof.Rows.envOfC x (defScope st) s.heap.objs.size f cdv)) →
      PSs (cxOf CX0 P w K mg base N x (defScope st) f cdv A outer s H E).nox (defBody st) (rdS K body)) : Kn P w K mg base x ps (d + 1) (runF N.length body) := by
  obtain ⟨f, fd, FF, hm, hb⟩ := R.ex
  exact ⟨f, fd, hm, FF.kp, hb, FF.ok S (fun vs H Q E h => by obtain ⟨F, as, r, outs, hl, _⟩ := h; exact hl) fun cdv A outer s H vs Q E hr h => by
    obtain ⟨F, as, r, outs, hl, l, ra, nd, hf, q⟩ := h
    exact ⟨_, (hbody f cdv A outer s H E hr).nox, body_ok l ra nd (by rw [← ra.length, hl]; exact hn) hf q⟩⟩
theorem fn_okF {f : Addr} {fd : FuncData} (FF : FunD K x x (defArgs st) (defBody st) (defScope st) [] [] f fd) (S : FnScope N ps (defScope st)) (hn : ps.length ≤ N.length)
    (hbody : ∀ (cdv : Value) (A : Around) (outer : List PySem.Env) (s : Shared) (H : Hp) (E : XK), Room d (A.deeper (PyProof.Rows.envOfC x (defScope st) s.heap.objs.size f cdv)) →
      PSs (cxOf CX0 P w K mg base N x (defScope st) f cdv A outer s H E).nox (defBody st) (rdS K body)) : FnOk P w K mg base CX0 (d + 1) f fd ps (spD K ps.length (runF N.length body)) :=
  FF.ok S (fun vs H Q E h => by obtain ⟨F, as, r, outs, hl, _⟩ := h; exact hl) fun cdv A outer s H vs Q E hr h => by
    obtain ⟨F, as, r, outs, hl, l, ra, nd, hf, q⟩ := h
    exact ⟨_, (hbody cdv A outer s H E hr).nox, body_ok l ra nd (by rw [← ra.length, hl]; exact hn) hf q⟩
theorem Raw.none (R : Raw K mg x st ps) : Kn P w K mg base x ps d (fun _ => none) := by
  obtain ⟨f, fd, FF, hm, hb⟩ := R.ex
  exact ⟨f, fd, hm, FF.kp, hb, ⟨fun vs H Q E ⟨F, as, r, outs, _, _, _, _, hf, _⟩ => (nomatch hf), fun A outer s H args us vs Q E _ _ _ _ ⟨F, as, r, outs, _, _, _, _, hf, _⟩ => (nomatch hf)⟩⟩
theorem Kn.imp (G : Kn P w K mg base x ps d fn) (h : ∀ as r, fn' as = some r → fn as = some r) : Kn P w K mg base x ps d fn' := by
  obtain ⟨f, fd, hm, hk, hb, G⟩ := G.ex
  exact ⟨f, fd, hm, hk, hb, fn_imp G h⟩
theorem Kn.up {d' : Nat} (G : Kn P w K mg base x ps d fn) (h : d ≤ d') : Kn P w K mg base x ps d' fn := by
  obtain ⟨f, fd, hm, hk, hb, G⟩ := G.ex
  exact ⟨f, fd, hm, hk, hb, G.mono h⟩
end
section
variable {X : Cx} {k d : Nat} {ps : List Str} {fn : Fn} {x : Str} {p pos : Pos} {e : Expr} {es : List Expr} {da : DA}
theorem ped_callD (C : Kn X.prog X.w X.K X.mg X.base x ps d fn) (hr : Room k X.A) (hk : d ≤ k) (hg : Gl X x) (ha : PA X (e :: es) (rdA X.K da)) (hl : LenA da ps.length)
    (hdb : (x == ("__debug__" : Str)) = false := by decide) (he : starEach (e :: es) X.env = (false, eval e X.env) :: starEach es X.env := by rfl) (hpl : (backTo pos (starEach es X.env)).any (·.1) = false := by rfl) : PE X (.Call (.Name x p) (e :: es) [] pos) (rdE X.K (dCall fn da)) := by
  obtain ⟨f, fd, hm, hkp, hb, G⟩ := C.ex
  exact ped_call G (hr.mono hk) hg hm hkp hb ha hl hdb he hpl
end
/-- the law's promise from what its function gives -/
theorem law_end {K : PySem.W.Frag} {fn : Fn} (h : ∀ ns : List Int, ns.length ≤ 63 → fn [.val (.scr (ns.map .int))] = some (.val (.bl true), [])) (H : Hp) (a : Addr) (ns : List Int) (hl : ns.length ≤ 63) (hS : SqL K H a (ns.map V.int)) :
    spD K 1 fn [.ref a] H (fun v _ => v = .bl true) fun _ _ _ => False :=
  ⟨H, [.val (.scr (ns.map .int))], _, _, rfl, Le.refl H, ⟨_, _, rfl, ⟨a, _, rfl, hS, rep_mapI ns⟩, rfl⟩, List.nodup_nil, h ns hl, fun v F' H' P => P.res⟩
end VL
set_option Elab.async false
set_option linter.all false
set_option maxRecDepth 100000
/-! the built-in names called -/
namespace VL
open PySem PySem.Spec L2
section
theorem bt_len : bootBuiltins "len" = some (.builtin "len") := by decide +kernel
theorem bt_abs : bootBuiltins "abs" = some (.builtin "abs") := by decide +kernel
theorem bt_sum : bootBuiltins "sum" = some (.builtin "sum") := by decide +kernel
theorem bt_all : bootBuiltins "all" = some (.builtin "all") := by decide +kernel
theorem bt_any : bootBuiltins "any" = some (.builtin "any") := by decide +kernel
theorem bt_max : bootBuiltins "max" = some (.builtin "max") := by decide +kernel
theorem bt_min : bootBuiltins "min" = some (.builtin "min") := by decide +kernel
theorem bt_sorted : bootBuiltins "sorted" = some (.builtin "sorted") := by decide +kernel
theorem bt_int : bootBuiltins "int" = some (.type "int") := by decide +kernel
theorem bt_str : bootBuiltins "str" = some (.type "str") := by decide +kernel
theorem bt_tuple : bootBuiltins "tuple" = some (.type "tuple") := by decide +kernel
theorem bt_list : bootBuiltins "list" = some (.type "list") := by decide +kernel
theorem bt_bool : bootBuiltins "bool" = some (.type "bool") := by decide +kernel
variable {X : Cx} {e e2 : Expr} {p pos p2 : Pos} {d d2 : DE}
@[simp] def dF1 (sem : List D → Option Rs) (d : DE) : DE := dApp sem (dCons d dNil)
@[simp] def dF2 (sem : List D → Option Rs) (d d2 : DE) : DE := dApp sem (dCons d (dCons d2 dNil))
abbrev SE (X : Cx) (e : Expr) : Prop := starEach [e] X.env = (false, eval e X.env) :: starEach [] X.env
abbrev SE2 (X : Cx) (e e2 : Expr) : Prop := starEach [e, e2] X.env = (false, eval e X.env) :: starEach [e2] X.env
theorem ped_len (hg : Gl X "len") (hm : X.mg "len" = none) (h : PE X e (rdE X.K d)) (hs : SE X e := by rfl) : PE X (.Call (.Name "len" p) [e] [] pos) (rdE X.K (dF1 semLen d)) := ped_callB call_len semLen_ok hg hm bt_len (pad_cons h pad_nil hs) (he := hs)
theorem ped_abs (hg : Gl X "abs") (hm : X.mg "abs" = none) (h : PE X e (rdE X.K d)) (hs : SE X e := by rfl) : PE X (.Call (.Name "abs" p) [e] [] pos) (rdE X.K (dF1 semAbs d)) := ped_callB call_abs semAbs_ok hg hm bt_abs (pad_cons h pad_nil hs) (he := hs)
theorem ped_sum (hc : X.calm = true) (hg : Gl X "sum") (hm : X.mg "sum" = none) (h : PE X e (rdE X.K d)) (hs : SE X e := by rfl) : PE X (.Call (.Name "sum" p) [e] [] pos) (rdE X.K (dF1 semSum d)) := ped_callB (cr_sum hc) semSum_ok hg hm bt_sum (pad_cons h pad_nil hs) (he := hs)
theorem ped_all (hc : X.calm = true) (hg : Gl X "all") (hm : X.mg "all" = none) (h : PE X e (rdE X.K d)) (hs : SE X e := by rfl) : PE X (.Call (.Name "all" p) [e] [] pos) (rdE X.K (dF1 semAll d)) := ped_callB (cr_all hc) semAll_ok hg hm bt_all (pad_cons h pad_nil hs) (he := hs)
theorem ped_any (hc : X.calm = true) (hg : Gl X "any") (hm : X.mg "any" = none) (h : PE X e (rdE X.K d)) (hs : SE X e := by rfl) : PE X (.Call (.Name "any" p) [e] [] pos) (rdE X.K (dF1 semAny d)) := ped_callB (cr_any hc) semAny_ok hg hm bt_any (pad_cons h pad_nil hs) (he := hs)
theorem ped_max (hc : X.calm = true) (hg : Gl X "max") (hm : X.mg "max" = none) (h : PE X e (rdE X.K d)) (hs : SE X e := by rfl) : PE X (.Call (.Name "max" p) [e] [] pos) (rdE X.K (dF1 semMax d)) := ped_callB (call_maxA hc) semMax_ok hg hm bt_max (pad_cons h pad_nil hs) (he := hs)
theorem ped_min (hc : X.calm = true) (hg : Gl X "min") (hm : X.mg "min" = none) (h : PE X e (rdE X.K d)) (hs : SE X e := by rfl) : PE X (.Call (.Name "min" p) [e] [] pos) (rdE X.K (dF1 semMin d)) := ped_callB (call_minA hc) semMin_ok hg hm bt_min (pad_cons h pad_nil hs) (he := hs)
theorem ped_max2 (hc : X.calm = true) (hg : Gl X "max") (hm : X.mg "max" = none) (h : PE X e (rdE X.K d)) (h2 : PE X e2 (rdE X.K d2)) (hs : SE2 X e e2 := by rfl) (hs2 : SE X e2 := by rfl) (hpl : (backTo pos (starEach [e2] X.env)).any (·.1) = false := by rfl) : PE X (.Call (.Name "max" p) [e, e2] [] pos) (rdE X.K (dF2 semMax d d2)) := ped_callB (call_maxA hc) semMax_ok hg hm bt_max (pad_cons h (pad_cons h2 pad_nil hs2) hs) (he := hs) (hpl := hpl)
theorem ped_min2 (hc : X.calm = true) (hg : Gl X "min") (hm : X.mg "min" = none) (h : PE X e (rdE X.K d)) (h2 : PE X e2 (rdE X.K d2)) (hs : SE2 X e e2 := by rfl) (hs2 : SE X e2 := by rfl) (hpl : (backTo pos (starEach [e2] X.env)).any (·.1) = false := by rfl) : PE X (.Call (.Name "min" p) [e, e2] [] pos) (rdE X.K (dF2 semMin d d2)) := ped_callB (call_minA hc) semMin_ok hg hm bt_min (pad_cons h (pad_cons h2 pad_nil hs2) hs) (he := hs) (hpl := hpl)
theorem ped_sorted (hg : Gl X "sorted") (hm : X.mg "sorted" = none) (h : PE X e (rdE X.K d)) (hs : SE X e := by rfl) : PE X (.Call (.Name "sorted" p) [e] [] pos) (rdE X.K (dF1 semSort d)) := ped_callB cr_sortA semSort_ok hg hm bt_sorted (pad_cons h pad_nil hs) (he := hs)
theorem ped_intc (hg : Gl X "int") (hm : X.mg "int" = none) (h : PE X e (rdE X.K d)) (hs : SE X e := by rfl) : PE X (.Call (.Name "int" p) [e] [] pos) (rdE X.K (dF1 semInt d)) := ped_callTy call_intA semInt_ok hg hm bt_int (pad_cons h pad_nil hs) (he := hs)
theorem ped_strc (hg : Gl X "str") (hm : X.mg "str" = none) (h : PE X e (rdE X.K d)) (hs : SE X e := by rfl) : PE X (.Call (.Name "str" p) [e] [] pos) (rdE X.K (dF1 semStr d)) := ped_callTy call_str_int semStr_ok hg hm bt_str (pad_cons h pad_nil hs) (he := hs)
theorem ped_tuplec (hg : Gl X "tuple") (hm : X.mg "tuple" = none) (h : PE X e (rdE X.K d)) (hs : SE X e := by rfl) : PE X (.Call (.Name "tuple" p) [e] [] pos) (rdE X.K (dF1 semTuple d)) := ped_callTy call_tuple_of semTuple_ok hg hm bt_tuple (pad_cons h pad_nil hs) (he := hs)
theorem ped_listc (hg : Gl X "list") (hm : X.mg "list" = none) (h : PE X e (rdE X.K d)) (hs : SE X e := by rfl) : PE X (.Call (.Name "list" p) [e] [] pos) (rdE X.K (dF1 semList d)) := ped_callTy call_list_of semList_ok hg hm bt_list (pad_cons h pad_nil hs) (he := hs)
/-- a type's name as a value -/
theorem pe_tyc (T : String) {x : Str} (hg : Gl X x) (hm : X.mg x = none) (hv : bootBuiltins x = some (.type T)) (hd : (x == ("__debug__" : Str)) = false := by decide) (hn : x ≠ "__name__" := by decide) : PE X (.Name x p) (tC (.ty T)) :=
  ⟨fun pins s σ H Q I h => ld_blt I hg hm hv ⟨.ty T, H, I, rfl, h⟩ hn hd⟩
end
end VL
set_option Elab.async false
set_option linter.all false
set_option maxRecDepth 100000
/-! a comprehension's scope looked at -/
namespace VL
open PySem PySem.Spec L2
def isFn : ScopeKind → Bool
  | .function => true
  | _ => false
def ofree (k : NameKind) : Bool := k == .free
def chkB (N : List Str) (sc scope : Scope) (own : List (Str × Nat)) : Bool :=
  scope.names.all (fun y => scope.names.lookup y.1 == some y.2) && (own.all (fun p => N[p.2]? == some p.1) &&
    (scope.names.all (fun y => !(y.2 == .free) || (sc.names.lookup y.1 == some .cell || sc.names.lookup y.1 == some .free)) &&
      scope.names.all (fun y => !(y.2 == .local || y.2 == .cell) || ((own.map (·.1)).contains y.1 || !N.contains y.1))))
theorem blk_of {N : List Str} {sc scope : Scope} {own : List (Str × Nat)} (hk : scope.kind = .function) (h : chkB N sc scope own = true) : BlkOk N sc scope own := by
  unfold chkB at h
  simp only [Bool.and_eq_true, List.all_eq_true] at h
  obtain ⟨h1, h2, h3, h4⟩ := h
  refine ⟨hk, fun y hy => by simpa using h1 y hy, fun p hp => by simpa using h2 p hp, fun y hy e => ?_, fun y hy e => ?_⟩
  · have := h3 y hy
    rw [e] at this
    simpa using this
  · have := h4 y hy
    rcases e with e | e <;> (rw [e] at this; simpa using this)
theorem hu65 {k : Nat} {A : Around} (h : Room k A) : A.units + 65 < cLine := by have := h.un; omega
end VL
set_option Elab.async false
set_option linter.all false
set_option maxRecDepth 100000
/-! evaluation -/
namespace VL
open PySem PySem.Spec L2

/-- while, with far more turns than any loop here has -/
def dWh (t : DT) (db : DS) : DS := fun env => whileN t db 1099511627776 env
theorem psd_wh {X : Cx} {pos : Pos} {c : Expr} {body : List Stmt} {t : DT} {db : DS} (hp : PassesOwn (model X.prog X.w) X.A X.env X.xe) (ht : PT X c (rdT X.K t)) (hb : PSs X body (rdS X.K db)) : PS X (.While c body [] pos) (rdS X.K (dWh t db)) :=
  PS.conv (psd_while hp ht hb) fun D σ H ⟨B, env, F, o, S, hd, q⟩ => ⟨B, env, F, o, S, dWhile_iff.mpr ⟨_, hd⟩, q⟩

@[simp] theorem fr_un : Sl.un.free = true := rfl
@[simp] theorem fr_val (d : D) : (Sl.val d).free = true := rfl
@[simp] theorem fr_own (d : D) : (Sl.own d).free = true := rfl
end VL
set_option Elab.async false
set_option linter.all false
set_option maxRecDepth 100000
/-! set(xs) of ints; sorted(set(xs)) -/
namespace VL
open PySem PySem.Spec L2 PyProof.Rows
/-- a set just made -/
abbrev setOb (w : World) : Obj := { cls := .type "set", dict := none, data := .set #[] 0 (.fresh 0 0 (!w.params.followText "set-order")) }
section
variable {P : Program} {w : World} {A : Around} {s : Shared}
/-- the first i of ns are in the set -/
def SoFar (w : World) (h : Heap) (S : Addr) (ns : List Int) (i : Nat) : Prop := ∃ m, m ≤ i ∧ SetR w h S (fun k => decide (k ∈ ns.take i)) m
theorem setLoop {R : Result → Shared → Prop} {it : Addr} {fp wr : List Addr} {G : Array GenState → Array GenState → Prop} {n : Nat} {Pv : Nat → Value → Prop} {Sv : Nat → Shared → Prop} (W : WalksS P w A.in1 it fp wr G n Pv Sv) {S : Addr} (hS : S ∉ fp) {ns : List Int} (hn : ns.length = n)
    (hv : ∀ i v, Pv i v → ∃ (x : Int) (t : Tok), ns[i]? = some x ∧ v = .int x t) (hb : n + 1 < scanBound) : ∀ (k i : Nat) (s : Shared), n - i = k → i ≤ n → Sv i s → SoFar w s.heap S ns i →
      (∀ s', Moved (S :: wr) G s s' → SoFar w s'.heap S ns n → R (.ok (.ret .none)) s') → codeAny (model P w) A (.builtin "set.update.loop" ⟨[.ref S, .ref it], []⟩) R s := by
  have up : ∀ b ∈ wr, b ∈ S :: wr := fun b h => List.mem_cons_of_mem _ h
  have hw : S ∉ wr := fun h => hS (W.sub _ h)
  intro k
  induction k with
  | zero =>
    intro i s hk hi st ⟨m, hm, R0⟩ fin
    obtain rfl : i = n := by omega
    refine codeAny_builtin F.entry_set_update_loop ?_
    rw [Around.under_plainId F.plain_set_update_loop _]
    refine wpAny_bind (W.done s _ _ st fun s1 mv => ?_)
    exact wpAny_pure (fin s1 (mv.mono up) ⟨m, hm, R0.at fun o ho => mv.heap S o hw ho⟩)
  | succ k ih =>
    intro i s hk hi st ⟨m, hm, R0⟩ fin
    have lt : i < n := by omega
    refine codeAny_builtin F.entry_set_update_loop ?_
    rw [Around.under_plainId F.plain_set_update_loop _]
    refine wpAny_bind (W.item i s _ _ lt st fun v s1 pv st1 mv => ?_)
    obtain ⟨x, t, hx, rfl⟩ := hv i v pv
    have R1 := R0.at fun o ho => mv.heap S o hw ho
    show wpAny _ A.in1 (holding [Value.int x t] (setAdd S (.int x t)) >>= _) _ _ s1
    refine wpAny_bind (wpAny_holding ?_)
    unfold setAdd
    refine wpAny_holding (wpAny_bind ((intKind P w).pyHash (k := x) (intKind_is _ _ _ _) ?_))
    refine setR_add_hashed (P := P) (s := { s1 with toks := s1.toks + 1 }) R1 (by omega) fun h1 sb R2 => ?_
    have tk : ns.take (i + 1) = ns.take i ++ [x] := by rw [List.take_add_one, hx]; rfl
    have R3 : SoFar w h1 S ns (i + 1) := by
      refine ⟨_, ?_, R2.congr fun j => ?_⟩
      · split <;> omega
      · rw [tk, Bool.eq_iff_iff]
        simp
    refine wpAny_pure ⟨plainId_quiet F.plain_set_update_loop _, ih (i + 1) _ (by omega) lt (W.frame _ s1 _ _ st1 (Nat.le_succ _) fun b mb o e => ?_) R3 fun s2 mv2 z => ?_⟩
    · rw [sb.2 b fun w2 => hS (w2 ▸ mb)]; exact e
    · refine fin s2 (Moved.trans W.gtrans ((mv.mono up).then_heap (Nat.le_succ _) fun b o nb e => ?_) mv2) z
      rw [sb.2 b fun w2 => nb (w2 ▸ List.mem_cons_self)]; exact e

set_option maxHeartbeats 3200000 in
theorem call_setI {E : Value → Shared → Prop} {l : Addr} {items : Array Value} {ns : List Int} {Q : Value → Shared → Prop} (hh : A.handled = none) (hl : s.heap.IsList l items) (hi : IntsAre items.toList ns) (hb : ns.length + 1 < scanBound)
    (h : ∀ (h' : Heap) (tk : Nat), SoFar w h' s.heap.objs.size ns ns.length → (∀ b o, s.heap.get? b = some o → h'.get? b = some o) → Q (.ref s.heap.objs.size) { s with heap := h', toks := tk }) : wpAny (model P w) A (call (.type "set") [.ref l]) Q E s := by
  have isz : items.size = ns.length := by rw [← Array.length_toList]; exact hi.length
  obtain ⟨c0, t0, mro0⟩ := F.called_set.mro
  have made0 := F.called_set.made
  have sub0 := F.called_set.sub
  refine wpAny_call (codeAny_of_tree ?_)
  show wpAny _ _ (callAny (.type "set") _) _ _ _
  refine wpAny_pure ⟨Code.quiet_builtin _ (by decide +kernel), codeAny_builtin F.entry_type_call ?_⟩
  rw [Around.under_plain (weight_type_call_type "set" [.ref l] []) rfl]
  have nt0 := F.called_set.notType
  have cc0 := F.called_set.canCreate
  have tc0 := F.typeCall_set_1 (.ref l)
  repeat (any_goals (first | assumption | wp_step))
  refine codeAny_mono (code_set_led1 (.ref l) (E := E) (Q₁ := fun ob s1 => ob = .ref s.heap.objs.size ∧ s1 = { s with heap := s.heap.push (setOb w) }) ⟨rfl, rfl⟩) fun r s1 hr => ?_
  cases r with
  | error e => exact hr
  | ok fl =>
    cases fl with
    | ret ob =>
      obtain ⟨rfl, rfl⟩ := hr
      have got : (s.heap.push (setOb w)).get? s.heap.objs.size = some (setOb w) := Heap.get?_push_size _ rfl
      have hT : Shared.TypeIs { s with heap := s.heap.push (setOb w) } (.ref s.heap.objs.size) "set" := ⟨_, got, rfl⟩
      have il0 := F.called_set.init.lookup
      have ib0 := F.called_set.init.bind (.ref s.heap.objs.size)
      repeat (any_goals (first | assumption | wp_step))
      refine codeAny_mono (codeAny_call_builtin (R := wants (fun r s2 => r = .none ∧ ∃ h' tk, s2 = { s with heap := h', toks := tk } ∧ SoFar w h' s.heap.objs.size ns ns.length ∧ (∀ b o, s.heap.get? b = some o → h'.get? b = some o)) E) F.called_set.init.plain F.entry_set_init (check_set_init_1 hT ?_)) fun r2 s2 hr2 => ?_
      · obtain ⟨ol, hol, hcl, nl, hdl⟩ := hl
        obtain ⟨k1, k2, k3, k4⟩ := ol
        simp only at hcl hdl
        subst hcl hdl
        have hol' : (s.heap.push (setOb w)).get? l = some { cls := .type "list", dict := k2, data := .seq items nl, slots := k4 } := Heap.get?_push_of_some _ hol
        have sl0 := F.sub_list_set
        have sf0 := F.sub_list_frozenset
        have ne0 : (Value.type "list" == Value.type "dict") = false := by decide
        have hl1 : (s.heap.push (setOb w)).IsList l items := ⟨_, hol', rfl, nl, rfl⟩
        unfold Builtin.«set.__init__» noKeywords Builtin.Frozenset.updateFrom
        generalize hPI : pyIter = PI
        wp_walk
        subst hPI
        refine wpAny_pyIter_list hl1 (wpAny_bind (wpAny_runValue ?_))
        have lS : l < s.heap.objs.size := Heap.lt_size hol
        have sz1 : (s.heap.push (setOb w)).objs.size = s.heap.objs.size + 1 := Heap.size_push ..
        have hh3 : A.in1.in1.in1.handled = none := by simp [hh]
        have nI : l ≠ (s.heap.push (setOb w)).objs.size := fun e => absurd (e.trans sz1) (Nat.ne_of_lt (Nat.lt_succ_of_lt lS))
        have nS : s.heap.objs.size ∉ [(s.heap.push (setOb w)).objs.size, l] := by
          simp only [List.mem_cons, List.not_mem_nil, or_false, not_or]
          exact ⟨fun e => absurd (e.trans sz1) (Nat.ne_of_lt (Nat.lt_succ_self _)), Nat.ne_of_gt lS⟩
        refine setLoop ((Walks.list hh3 _ l nI items).toS) nS isz.symm (fun i v hv => ?_) (by omega) (items.size - 0) 0 _ rfl (Nat.zero_le _) ⟨⟨_, Heap.get?_push_size _ rfl, rfl, rfl⟩, hl1.push _⟩ ⟨0, Nat.le_refl _, ?_⟩ fun s3 mv z => ?_
        · have hv' : items.toList[i]? = some v := by rw [Array.getElem?_toList]; exact hv
          have hlt : i < ns.length := by rw [← isz, ← Array.length_toList]; exact (List.getElem?_eq_some_iff.mp hv').1
          obtain ⟨t, e⟩ := hi.int_at i v hv'
          refine ⟨ns[i], t, List.getElem?_eq_getElem hlt, ?_⟩
          rw [e]
          simp [hlt]
        · exact ((setR_fresh w).at fun o ho => Heap.get?_push_of_some _ ho).congr fun k => by simp
        · obtain ⟨h3, g3, d3, t3, o3⟩ := s3
          obtain rfl : g3 = s.gens := mv.gens
          obtain rfl : d3 = s.drawn := mv.drawn
          obtain rfl : o3 = s.os := mv.os
          show wpAny _ _ _ _ _ _
          refine wpAny_pure ?_
          show wpAny _ _ (ret Value.none) _ _ _
          refine wpAny_pure ⟨rfl, h3, t3, rfl, by rw [← isz]; exact z, fun b o e => ?_⟩
          have lb := Heap.lt_size e
          exact mv.heap b o (by simp only [List.mem_cons, List.not_mem_nil, or_false, not_or]; exact ⟨Nat.ne_of_lt lb, fun e => absurd (e.trans sz1) (Nat.ne_of_lt (Nat.lt_succ_of_lt lb))⟩) (Heap.get?_push_of_some _ (Heap.get?_push_of_some _ e))
      · cases r2 with
        | error e => exact hr2
        | ok f2 =>
          cases f2 with
          | ret v =>
            obtain ⟨rfl, h', tk, rfl, z, kp⟩ := hr2
            repeat (any_goals (first | assumption | wp_step))
            exact h _ _ z kp
          | _ => exact hr2.elim
    | _ => exact hr.elim
end
section
variable {X : Cx} {K : PySem.W.Frag}
/-- set(xs), xs a list of ints -/
def rSetI (K : PySem.W.Frag) (w : World) : List V → Hp → VK → Prop := fun vs H Q => ∃ (a : Addr) (ns : List Int), vs = [V.ref a] ∧ SqL K H a (ns.map V.int) ∧ ns.length ≤ 4000 ∧ ∀ p m, m ≤ ns.length → H p = none → Q (.ref p) (upd H p (SetO w p (fun k => decide (k ∈ ns)) m))
theorem cr_setI (hc : X.calm = true) : CallR X (.type "set") (rSetI X.K X.w) := by
  intro pins s σ H vs us Q I r h
  obtain ⟨a, ns, rfl, hs, hl, q⟩ := h
  obtain ⟨its, rv, pl, hz⟩ := I.list hs
  rw [Vals.ref1 r]
  refine call_setI (P := X.prog) (w := X.w) (ns := ns) (items := its.toArray) (I.ok.hd hc) pl.isList (by simpa using rv.ints) (by unfold scanBound; omega) fun h' tk ⟨m, hm, R⟩ kp => ?_
  rw [List.take_length] at R
  exact ⟨.ref s.heap.objs.size, upd H s.heap.objs.size (SetO X.w s.heap.objs.size (fun k => decide (k ∈ ns)) m), I.laid (t' := tk) kp (Nat.le_refl _) (setO_new R), rfl, q _ m hm (I.hok.fresh (Nat.le_refl _))⟩
def insI (x : Int) : List Int → List Int
  | [] => [x]
  | y :: ys => if x < y then x :: y :: ys else if x = y then y :: ys else y :: insI x ys
/-- the members in order -/
def setI : List Int → List Int
  | [] => []
  | x :: xs => insI x (setI xs)
theorem insI_mem {x z : Int} : ∀ {ys : List Int}, z ∈ insI x ys ↔ z = x ∨ z ∈ ys
  | [] => by simp [insI]
  | y :: ys => by
    unfold insI
    split
    · simp
    · split
      · rename_i h; subst h; simp
      · rw [List.mem_cons, insI_mem, List.mem_cons]
        constructor
        · rintro (h | h | h)
          · exact .inr (.inl h)
          · exact .inl h
          · exact .inr (.inr h)
        · rintro (h | h | h)
          · exact .inr (.inl h)
          · exact .inl h
          · exact .inr (.inr h)
theorem insI_srt {x : Int} : ∀ {ys : List Int}, ys.Pairwise (· < ·) → (insI x ys).Pairwise (· < ·)
  | [], _ => by simp [insI]
  | y :: ys, h => by
    obtain ⟨h1, h2⟩ := List.pairwise_cons.mp h
    unfold insI
    split
    · rename_i c
      exact List.pairwise_cons.mpr ⟨fun z hz => by rcases List.mem_cons.mp hz with rfl | hz; exact c; exact Int.lt_trans c (h1 z hz), h⟩
    · split
      · exact h
      · refine List.pairwise_cons.mpr ⟨fun z hz => ?_, insI_srt h2⟩
        rcases insI_mem.mp hz with rfl | hz
        · omega
        · exact h1 z hz
theorem setI_mem {z : Int} : ∀ {xs : List Int}, z ∈ setI xs ↔ z ∈ xs
  | [] => by simp [setI]
  | x :: xs => by unfold setI; rw [insI_mem, setI_mem, List.mem_cons]
theorem setI_srt : ∀ xs : List Int, (setI xs).Pairwise (· < ·)
  | [] => List.Pairwise.nil
  | x :: xs => insI_srt (setI_srt xs)
theorem srt_uniq : ∀ {a b : List Int}, a.Pairwise (· < ·) → b.Pairwise (· < ·) → (∀ k, k ∈ a ↔ k ∈ b) → a = b := fun {a b} ha hb h => by
  have pa : a.Perm b := (List.perm_ext_iff_of_nodup (ha.imp fun h => Int.ne_of_lt h) (hb.imp fun h => Int.ne_of_lt h)).mpr h
  exact List.Perm.eq_of_pairwise (le := (· < ·)) (fun x y _ _ h1 h2 => absurd (Int.lt_trans h1 h2) (Int.lt_irrefl _)) ha hb pa
def semSortSet : List D → Option Rs
  | [d] => (seqD d).bind fun ds => (intsOf ds).bind fun is => if is.length < 64 then some (.fresh (.lst ((setI is).map .int))) else none
  | _ => none
variable {e : Expr} {p pos p2 pos2 : Pos} {d : DE}
theorem ped_sortSet (hc : X.calm = true) (hg : Gl X "sorted") (hm : X.mg "sorted" = none) (hg2 : Gl X "set") (hm2 : X.mg "set" = none) (h : PE X e (rdE X.K d)) (hs : SE X e := by rfl) (hs2 : SE X (.Call (.Name "set" p2) [e] [] pos2) := by rfl) : PE X (.Call (.Name "sorted" p) [.Call (.Name "set" p2) [e] [] pos2] [] pos) (rdE X.K (dF1 semSortSet d)) :=
  PE.conv (pe_callB (cr_sortedSet hc) hg hm bt_sorted (pa_cons (pe_callTy (cr_setI hc) hg2 hm2 PyProof.Rows.boot_set (pa_cons h pa_nil hs) (by decide) (by decide) hs) pa_nil hs2) (by decide) (by decide) hs2) fun σ H Q ⟨B, env, F, r, env', S, hd, q⟩ => by
    obtain ⟨⟨rs, e1⟩, h1, hd⟩ := obind hd
    obtain ⟨ds, h2, hd⟩ := obind hd
    obtain ⟨o, h3, hd⟩ := obind hd
    cases hd
    obtain ⟨⟨r1, e2⟩, g1, h1⟩ := obind h1
    obtain ⟨⟨r2, e3⟩, g2, h1⟩ := obind h1
    cases g2
    cases h1
    obtain ⟨d1, g3, h2⟩ := obind h2
    cases h2
    obtain ⟨es, g4, h3⟩ := obind h3
    obtain ⟨is, g5, h3⟩ := obind h3
    by_cases hz : is.length < 64
    case neg => rw [if_neg hz] at h3; cases h3
    rw [if_pos hz] at h3
    cases h3
    refine ⟨B, env, F, r1, env', S, g1, fun v F1 H1 S1 T1 R1 => ?_⟩
    obtain ⟨a, xs, rfl, sq, rl⟩ := seqD_pk g4 (RR.pk S1 R1 g3)
    cases intsOf_eq g5
    cases rep_ints rl
    refine ⟨a, is, rfl, sq, by omega, fun p m hm0 hp => ⟨p, _, m, rfl, upd_same, by omega, fun ns p' ss mm ll hp' => ?_⟩⟩
    have n1 := New.put (o := SetO X.w p (fun k => decide (k ∈ is)) m) S1.sub hp
    have n2 := New.put (o := .lst (ns.map V.int)) n1.sub hp'
    have en : ns = setI is := srt_uniq ss (setI_srt is) fun k => by rw [mm k, setI_mem]; exact decide_eq_true_iff
    subst en
    have n12 := n1.trans n2
    refine q _ F1 _ (S1.new n12) (T1.trans n12.tr) ?_
    exact ((NR.rr (S1.new n1) (NR.list n1.sub hp' (rep_mapI (K := X.K) (F := F1) (setI is)))).back fun a z => T1.dom' (n1.nn z)).step (Tr.refl)
end
end VL
set_option Elab.async false
set_option linter.all false
set_option maxRecDepth 100000
/-! loops and comprehensions evaluated -/
namespace VL
open PySem PySem.Spec L2

theorem semMul_int {i j : Int} (h : cMul i j = true) : semMul (.int i) (.int j) = some (.val (.int (i * j))) := by
  show (if cMul i j = true then _ else _) = _
  rw [if_pos h]
theorem powI_int {i j : Int} (h : 0 ≤ j ∧ j ≤ 1000000 ∧ i.natAbs < 2 ^ 64) : powI (.int i) (.int j) = some (.val (.int (i ^ j.toNat))) := by
  show (if decide _ = true then _ else _) = _
  rw [if_pos (decide_eq_true h)]
theorem modI_int {i j : Int} (h : 0 < j) : modI (.int i) (.int j) = some (.val (.int (i % j))) := by
  show (if decide _ = true then _ else _) = _
  rw [if_pos (decide_eq_true h)]
theorem fdivI_int {i j : Int} (h : cDiv j = true) : fdivI (.int i) (.int j) = some (.val (.int (i / j))) := by
  show (if cDiv j = true then _ else _) = _
  rw [if_pos h]
theorem cMul_l {i j : Int} (h : -(2 ^ 64) < i ∧ i < 2 ^ 64) : cMul i j = true := decide_eq_true (.inl h)
theorem cMul_r {i j : Int} (h : -(2 ^ 64) < j ∧ j < 2 ^ 64) : cMul i j = true := decide_eq_true (.inr (.inl h))
theorem cMul_w {i j : Int} (h : i.natAbs < 2 ^ 400000) (h2 : j.natAbs < 2 ^ 400000) : cMul i j = true := by
  refine decide_eq_true (.inr (.inr ?_))
  have l : ∀ n : Nat, n < 2 ^ 400000 → n.log2 < 400000 := fun n hn => by
    by_cases h0 : n = 0
    · subst h0; rw [Nat.log2_zero]; omega
    · exact (Nat.log2_lt h0).mpr hn
  have := l _ h
  have := l _ h2
  omega

/-! ### relational loops -/
theorem loop_rel {α : Type} {enc : α → D} {t : Tg} {db : DS} (R : Nat → Ev → Prop) : ∀ (xs : List α) (k : Nat) (e0 : Ev), (∀ i x e, xs[i]? = some x → R (k + i) e → ∃ e1, setT t (enc x) e = some e1 ∧ ∃ e2, (db e1 = some (.nx e2) ∨ db e1 = some (.ct e2)) ∧ R (k + i + 1) e2) → R k e0 →
    ∃ e, loopS t db (xs.map enc) e0 = some (.nx e) ∧ R (k + xs.length) e
  | [], k, e0, _, h => ⟨e0, rfl, h⟩
  | x :: xs, k, e0, hs, h => by
    obtain ⟨e1, h1, e2, h2, r2⟩ := hs 0 x e0 rfl h
    obtain ⟨e, h3, r3⟩ := loop_rel R xs (k + 1) e2 (fun i y e q r => by
      have := hs (i + 1) y e (by simpa using q)
      have ei : k + 1 + i = k + (i + 1) := by omega
      rw [ei] at r ⊢
      exact this r) r2
    refine ⟨e, ?_, by rw [List.length_cons]; have ei : k + 1 + xs.length = k + (xs.length + 1) := by omega
                      rw [ei] at r3; exact r3⟩
    show (setT t (enc x) e0).bind _ = _
    rw [h1]
    show (db e1).bind _ = _
    rcases h2 with h2 | h2 <;> (rw [h2]; exact h3)
theorem for_rel {α : Type} {enc : α → D} {t : Tg} {db : DS} {di : DI} {env e0 : Ev} {u : Option Nat} {xs : List α} (R : Nat → Ev → Prop) (h1 : di env = some (xs.map enc, e0, u)) (h0 : R 0 (lockE u e0))
    (hs : ∀ i x e, xs[i]? = some x → R i e → ∃ e1, setT t (enc x) e = some e1 ∧ ∃ e2, (db e1 = some (.nx e2) ∨ db e1 = some (.ct e2)) ∧ R (i + 1) e2) : ∃ e, dFor di t db env = some (.nx (unlockE u e0 e)) ∧ R xs.length e := by
  obtain ⟨e, h2, r⟩ := loop_rel (t := t) (db := db) (enc := enc) R xs 0 (lockE u e0) (fun i x e q r => by rw [Nat.zero_add] at r ⊢; exact hs i x e q r) h0
  refine ⟨e, ?_, by rw [Nat.zero_add] at r; exact r⟩
  show (di env).bind _ = _
  rw [h1]
  show (loopS t db (xs.map enc) (lockE u e0)).bind _ = _
  rw [h2]
  rfl
theorem lcK_rel {α : Type} {enc : α → D} {t : Tg} {vs : List Nat} {stp : DK} (R : Nat → Ev → List D → Prop) : ∀ (xs : List α) (k : Nat) (e0 : Ev) (acc0 : List D), (∀ i x e acc, xs[i]? = some x → R (k + i) e acc → ∃ e1 e2 acc2, setT t (enc x) e = some e1 ∧ stp e1 acc = some (e2, acc2) ∧ R (k + i + 1) (wipeE e2 vs) acc2) → R k e0 acc0 →
    ∃ e acc, loopK vs t stp (xs.map enc) e0 acc0 = some (acc, e) ∧ R (k + xs.length) e acc
  | [], k, e0, acc0, _, h => ⟨e0, acc0, rfl, h⟩
  | x :: xs, k, e0, acc0, hs, h => by
    obtain ⟨e1, e2, acc2, h1, h2, r2⟩ := hs 0 x e0 acc0 rfl h
    obtain ⟨e, acc, h3, r3⟩ := lcK_rel R xs (k + 1) (wipeE e2 vs) acc2 (fun i y e acc q r => by
      have := hs (i + 1) y e acc (by simpa using q)
      have ei : k + 1 + i = k + (i + 1) := by omega
      rw [ei] at r ⊢
      exact this r) r2
    refine ⟨e, acc, ?_, by rw [List.length_cons]; have ei : k + 1 + xs.length = k + (xs.length + 1) := by omega
                           rw [ei] at r3; exact r3⟩
    show (setT t (enc x) e0).bind _ = _
    rw [h1]
    show (stp e1 acc0).bind _ = _
    rw [h2]
    exact h3
theorem lc_rel {α : Type} {enc : α → D} {t : Tg} {vs : List Nat} {stp : DK} {di : DI} {env e0 : Ev} {u : Option Nat} {xs : List α} (R : Nat → Ev → List D → Prop) (h1 : di env = some (xs.map enc, e0, u)) (h0 : R 0 (wipeE (lockE u e0) vs) [])
    (hs : ∀ i x e acc, xs[i]? = some x → R i e acc → ∃ e1 e2 acc2, setT t (enc x) e = some e1 ∧ stp e1 acc = some (e2, acc2) ∧ R (i + 1) (wipeE e2 vs) acc2) :
    ∃ e acc, lcR di vs t stp env = some (.fresh (.lst acc), unlockE u e0 (restE (lockE u e0) vs e)) ∧ R xs.length e acc := by
  obtain ⟨e, acc, h2, r⟩ := lcK_rel (t := t) (vs := vs) (stp := stp) (enc := enc) R xs 0 _ [] (fun i x e acc q r => by rw [Nat.zero_add] at r ⊢; exact hs i x e acc q r) h0
  refine ⟨e, acc, ?_, by rw [Nat.zero_add] at r; exact r⟩
  show (di env).bind _ = _
  rw [h1]
  show (loopK vs t stp (xs.map enc) (wipeE (lockE u e0) vs) []).bind _ = _
  rw [h2]
  rfl
theorem length_lock {u : Option Nat} {e0 : Ev} : (lockE u e0).length = e0.length := by
  cases u with
  | none => rfl
  | some j => simp only [lockE]; split <;> simp only [List.length_set]
/-- a comprehension that reads alone -/
theorem lc_pure {α β : Type} {enc : α → D} {enc' : β → D} {xs : List α} (L : Ev) (p : α → Bool) (f : α → β) {di : DI} {i : Nat} {dt : DT} {de : DE} {env e0 : Ev} {u : Option Nat} (h1 : di env = some (xs.map enc, e0, u)) (hL : lockE u e0 = L) (hi : i < e0.length) (hu : unlockE u e0 L = e0) (hlen : xs.length ≤ LN)
    (hs : ∀ x ∈ xs, dt (L.set i (.val (enc x))) = some (p x, L.set i (.val (enc x))) ∧ (p x = true → dVal de (L.set i (.val (enc x))) = some (.val (enc' (f x)), L.set i (.val (enc x))))) :
    dLc di [i] (.name i) dt de env = some (.fresh (.lst (((xs.filter p).map f).map enc')), e0) := by
  have hi' : i < L.length := by rw [← hL, length_lock]; exact hi
  have hw : ∀ v, wipeE (L.set i v) [i] = L.set i .un := fun v => by
    show (L.set i v).set i .un = _
    rw [List.set_set]
  obtain ⟨e, acc, h2, rfl, rfl⟩ := lc_rel (vs := [i]) (t := .name i) (stp := stp1 dt de) (R := fun k e acc => e = L.set i .un ∧ acc = ((((xs.take k).filter p).map f).map enc')) h1 ⟨by rw [hL]; rfl, by rw [List.take_zero]; rfl⟩ (fun k x e acc hx ⟨he, ha⟩ => by
    subst he ha
    have hk := (List.getElem?_eq_some_iff.mp hx).1
    obtain ⟨h3, h4⟩ := hs x (List.mem_of_getElem? hx)
    have hset : setT (.name i) (enc x) (L.set i .un) = some (L.set i (.val (enc x))) := by
      show ((L.set i .un)[i]?).bind _ = _
      rw [List.getElem?_set_self hi']
      show some ((L.set i .un).set i _) = _
      rw [List.set_set]
    have htk : xs.take (k + 1) = xs.take k ++ [x] := by rw [List.take_add_one, hx]; rfl
    cases hp : p x with
    | false =>
      refine ⟨L.set i (.val (enc x)), L.set i (.val (enc x)), _, hset, ?_, hw _, rfl⟩
      show (dt _).bind _ = _
      rw [h3, hp, htk, List.filter_append, List.filter_cons_of_neg (by rw [hp]; exact Bool.false_ne_true), List.filter_nil, List.append_nil]
      rfl
    | true =>
      refine ⟨L.set i (.val (enc x)), L.set i (.val (enc x)), _, hset, ?_, hw _, rfl⟩
      have hlt : ((((xs.take k).filter p).map f).map enc').length < LN := by
        rw [List.length_map, List.length_map]
        refine Nat.lt_of_le_of_lt (List.length_filter_le _ _) ?_
        rw [List.length_take]; omega
      show (dt _).bind _ = _
      rw [h3, hp]
      show (dVal de _).bind _ = _
      rw [h4 hp]
      show (if _ < LN then _ else _) = _
      rw [if_pos hlt, htk, List.filter_append, List.filter_cons_of_pos (by exact hp), List.filter_nil, List.map_append, List.map_append]
      rfl)
  show lcR di [i] (.name i) (stp1 dt de) env = _
  rw [h2, List.take_length, hL]
  have hr : restE L [i] (L.set i .un) = L := by
    show (L.set i .un).set i _ = _
    rw [List.set_set, List.getElem?_eq_getElem hi']
    exact List.set_getElem_self hi'
  rw [hr, hu]
end VL
set_option Elab.async false
set_option linter.all false
set_option maxRecDepth 100000
/-! the functions that all laws have in common -/
namespace VL
open PySem PySem.Spec L2

@[simp] theorem eqb_non : D.eqb .non .non = true := by rfl
@[simp] theorem eqb_bl (a b : Bool) : D.eqb (.bl a) (.bl b) = (a == b) := by rfl
@[simp] theorem eqb_int (a b : Int) : D.eqb (.int a) (.int b) = (a == b) := by rfl
@[simp] theorem eqb_str (a b : Tx) : D.eqb (.str a) (.str b) = decide (a = b) := by rfl
@[simp] theorem pl_non (n : Nat) : D.pl .non n = true := by cases n <;> rfl
@[simp] theorem pl_bl (a : Bool) (n : Nat) : D.pl (.bl a) n = true := by cases n <;> rfl
@[simp] theorem pl_int (a : Int) (n : Nat) : D.pl (.int a) n = true := by cases n <;> rfl
@[simp] theorem pl_str (a : Tx) (n : Nat) : D.pl (.str a) n = true := by cases n <;> rfl

def bTake : DS := (dSeq (dIfS (dTest (dBin semEq (dF1 semLen (dVar 0)) (dC (.int 0)))) (dRet (dC (.int 0))) dNext) (dRet (dBin modI (dF1 semInt (dPop 0)) (dVar 1))))
def fTake : Fn := runF 2 bTake
def eI (xs : List Int) : List D := xs.map .int
theorem eI_len (xs : List Int) : (eI xs).length = xs.length := List.length_map ..
theorem take_ok (ds : List Int) {m : Int} (hm : 0 < m) : ∃ r, 0 ≤ r ∧ r < m ∧ fTake [.io (.lst (eI ds)), .val (.int m)] = some (.val (.int r), [.lst (eI ds.dropLast)]) := by
  rcases List.eq_nil_or_concat ds with rfl | ⟨l, x, rfl⟩
  · refine ⟨0, Int.le_refl _, hm, ?_⟩
    simp [fTake, bTake, runF, eI]
  · refine ⟨x % m, Int.emod_nonneg _ (by omega), Int.emod_lt_of_pos _ hm, ?_⟩
    have h1 : ((l.length : Int) + 1 = 0) = False := eq_false (by omega)
    simp [fTake, bTake, runF, eI, h1, hm]
end VL
set_option Elab.async false
set_option linter.all false
set_option maxRecDepth 100000
/-! draws -/
namespace VL
open PySem PySem.Spec L2
theorem seq_ok {a b : DS} {env e : Ev} {o : Option Out} (h : a env = some (.nx e)) (k : b e = o) : dSeq a b env = o := by
  show (a env).bind _ = _
  rw [h]
  exact k
theorem iRg1_eq {d : DE} {env e : Ev} {r : Rs} {n : Int} (h : d env = some (r, e)) (h2 : r.data e = some (.int n)) (hs : -4611686018427387904 ≤ n ∧ n < 4611686018427387904) : iRg1 d env = some (rgs 0 n.toNat, e, none) := by
  show (d env).bind _ = _
  rw [h]
  show (r.data e).bind _ = _
  rw [h2]
  show (if smallI n then _ else _) = _
  rw [if_pos (show smallI n from hs)]
theorem iRg2_eq {a b : DE} {env e e2 : Ev} {r r2 : Rs} {m n : Int} (h : a env = some (r, e)) (h2 : r.data e = some (.int m)) (h3 : b e = some (r2, e2)) (h4 : r2.data e2 = some (.int n)) (hs : -4611686018427387904 ≤ m ∧ m < 4611686018427387904) (hs2 : -4611686018427387904 ≤ n ∧ n < 4611686018427387904) : iRg2 a b env = some (rgs m (n - m).toNat, e2, none) := by
  show (a env).bind _ = _
  rw [h]
  show (r.data e).bind _ = _
  rw [h2]
  show (b e).bind _ = _
  rw [h3]
  show (r2.data e2).bind _ = _
  rw [h4]
  show (if smallI m ∧ smallI n then _ else _) = _
  rw [if_pos ⟨hs, hs2⟩]
theorem rgs_nat (n : Nat) : rgs 0 n = (List.range n).map fun (i : Nat) => D.int (i : Int) := by
  unfold rgs
  refine List.map_congr_left fun i _ => ?_
  rw [Int.zero_add]
theorem iRg1_nat {d : DE} {env e : Ev} {r : Rs} {n : Nat} (h : d env = some (r, e)) (h2 : r.data e = some (.int (n : Int))) (hs : n < 4611686018427387904) : iRg1 d env = some ((List.range n).map fun (i : Nat) => D.int (i : Int), e, none) := by
  rw [iRg1_eq h h2 ⟨by omega, by omega⟩, Int.toNat_natCast, rgs_nat]
theorem seq_rt {a b : DS} {env e : Ev} {r : Rs} (h : a env = some (.rt r e)) : dSeq a b env = some (.rt r e) := by
  show (a env).bind _ = _
  rw [h]
  rfl
theorem asg_eq {i : Nat} {d : DE} {env e e' : Ev} {r : Rs} (h : d env = some (r, e)) (k : put i r e = some e') : dAsg i d env = some (.nx e') := by
  show (d env).bind _ = _
  rw [h]
  show (put i r e).bind _ = _
  rw [k]
  rfl
theorem runF_rt {n : Nat} {body : DS} {as : List Ar} {r : Rs} {e : Ev} {ds : List D} (h : body (as.map arSl ++ List.replicate (n - as.length) .un) = some (.rt r e)) (hr : noSlot r = true) (ho : outsOf as e = some ds) : runF n body as = some (r, ds) := by
  show (body _).bind _ = _
  rw [h]
  show (if noSlot r = true then _ else _) = _
  rw [if_pos hr, ho]
  rfl
def oD : Option D → Sl
  | none => .un
  | some d => .val d
@[simp] theorem oD_none : oD none = .un := rfl
@[simp] theorem oD_some (d : D) : oD (some d) = .val d := rfl
@[simp] theorem oD_free (o : Option D) : (oD o).free = true := by cases o <;> rfl
theorem oD_free' (o : Option D) : (match oD o with | Sl.io _ => false | Sl.lk _ => false | _ => true) = true := by cases o <;> rfl
theorem eI_get {xs : List Int} {j : Nat} {v : Int} (h : xs[j]? = some v) : (eI xs)[j]? = some (.int v) := by unfold eI; rw [List.getElem?_map, h]; rfl
theorem ix_lst {ds : List D} {j : Nat} {d : D} (h : ds[j]? = some d) : semIx (.lst ds) (.int (j : Int)) = some (.val d) := by
  show (atI ds _).bind _ = _
  rw [atI_nat h]
  rfl
theorem ix_tup {ds : List D} {j : Nat} {d : D} (h : ds[j]? = some d) : semIx (.tup ds) (.int (j : Int)) = some (.val d) := by
  show (atI ds _).bind _ = _
  rw [atI_nat h]
  rfl
theorem ix_scr {ds : List D} {j : Nat} {d : D} (h : ds[j]? = some d) : semIx (.scr ds) (.int (j : Int)) = some (.val d) := by
  show (atI ds _).bind _ = _
  rw [atI_nat h]
  rfl
end VL
set_option Elab.async false
set_option linter.all false
set_option maxRecDepth 100000
/-! draws -/
namespace VL
open PySem PySem.Spec L2
def bDraws : DS := (dSeq (dAsg 2 (dLc (iVar 0) [8] (.name 8) dYes (dF1 semInt (dVar 8)))) (dSeq (dIfS (dTest (dBin semEq (dF1 semLen (dVar 2)) (dC (.int 0)))) (dExpr (dAppend 2 (dC (.int 0)))) dNext) (dSeq (dAsg 3 (dF1 semList (dVar 2))) (dSeq (dAsg 4 (dLst dNil)) (dSeq (dFor (iRg1 (dVar 1)) (.name 5) (dSeq (dAsg 6 (dBin modI (dVar 5) (dF1 semLen (dVar 2)))) (dIfS (dAndT (dTest (dBin semGe (dBin semIx (dVar 2) (dVar 6)) (dBin powI (dC (.int 10)) (dC (.int 18))))) (dTest (dBin semGt (dBin semIx (dVar 3) (dVar 6)) (dC (.int 0))))) (dSeq (dExpr (dAppend 4 (dBin modI (dF1 semInt (dBin semIx (dVar 3) (dVar 6))) (dC (.int 1000))))) (dSetL 3 (dVar 6) (dBin fdivI (dBin semIx (dVar 3) (dVar 6)) (dC (.int 1000))))) (dSeq (dAsg 7 (dBin modI (dF1 semInt (dBin semAdd (dBin semAdd (dBin semMul (dBin semIx (dVar 2) (dVar 6)) (dC (.int 48271))) (dBin semMul (dVar 5) (dC (.int 69621)))) (dC (.int 11)))) (dC (.int 2147483647)))) (dExpr (dAppend 4 (dBin modI (dF1 semInt (dBin semAdd (dBin semAdd (dBin semMul (dVar 7) (dVar 7)) (dBin semMul (dC (.int 3)) (dVar 7))) (dVar 5))) (dC (.int 1000003))))))))) (dSeq (dExpr (dReverse 4)) (dRet (dVar 4))))))))
def fDraws : Fn := runF 9 bDraws
theorem eI_set (xs : List Int) (j : Nat) (v : Int) : (eI xs).set j (.int v) = eI (xs.set j v) := by
  unfold eI; rw [List.map_set]
theorem eI_append (xs : List Int) (v : Int) : eI xs ++ [.int v] = eI (xs ++ [v]) := by
  unfold eI; rw [List.map_append]; rfl
theorem ixN_nat {n j : Nat} (h : j < n) : ixN n (j : Int) = some j := by
  unfold ixN
  rw [if_pos (by omega), if_pos (by omega), Int.toNat_natCast]
theorem powI_eq {i j z : Int} (h : 0 ≤ j ∧ j ≤ 1000000 ∧ i.natAbs < 2 ^ 64) (e : i ^ j.toNat = z) : powI (.int i) (.int j) = some (.val (.int z)) := by rw [powI_int h, e]
theorem pow18 : powI (.int 10) (.int 18) = some (.val (.int 1000000000000000000)) := powI_eq (by decide) (by decide)
def bDrawsLoop : DS := (dSeq (dAsg 6 (dBin modI (dVar 5) (dF1 semLen (dVar 2)))) (dIfS (dAndT (dTest (dBin semGe (dBin semIx (dVar 2) (dVar 6)) (dBin powI (dC (.int 10)) (dC (.int 18))))) (dTest (dBin semGt (dBin semIx (dVar 3) (dVar 6)) (dC (.int 0))))) (dSeq (dExpr (dAppend 4 (dBin modI (dF1 semInt (dBin semIx (dVar 3) (dVar 6))) (dC (.int 1000))))) (dSetL 3 (dVar 6) (dBin fdivI (dBin semIx (dVar 3) (dVar 6)) (dC (.int 1000))))) (dSeq (dAsg 7 (dBin modI (dF1 semInt (dBin semAdd (dBin semAdd (dBin semMul (dBin semIx (dVar 2) (dVar 6)) (dC (.int 48271))) (dBin semMul (dVar 5) (dC (.int 69621)))) (dC (.int 11)))) (dC (.int 2147483647)))) (dExpr (dAppend 4 (dBin modI (dF1 semInt (dBin semAdd (dBin semAdd (dBin semMul (dVar 7) (dVar 7)) (dBin semMul (dC (.int 3)) (dVar 7))) (dVar 5))) (dC (.int 1000003)))))))) 
section
variable (S : Sl) (m : Int) (cs rs ds : List Int)
def eDr (k at' once : Sl) : Ev := [S, .val (.int m), .own (.lst (eI cs)), .own (.lst (eI rs)), .own (.lst (eI ds)), k, at', once, .un]
theorem draws_step (k : Int) (k0 : 0 ≤ k) (a o : Option D) (hc : 0 < cs.length) (hr : rs.length = cs.length) (hd : ds.length < 100000) :
    ∃ rs' ds' a' o', rs'.length = cs.length ∧ ds'.length = ds.length + 1 ∧ bDrawsLoop (eDr S m cs rs ds (.val (.int k)) (oD a) (oD o)) = some (.nx (eDr S m cs rs' ds' (.val (.int k)) (oD a') (oD o'))) := by
  obtain ⟨j, hj, hjm⟩ : ∃ j : Nat, j < cs.length ∧ k % (cs.length : Int) = (j : Int) := ⟨(k % cs.length).toNat, by have := Int.emod_lt_of_pos k (b := (cs.length : Int)) (by omega); have := Int.emod_nonneg k (b := (cs.length : Int)) (by omega); omega, by have := Int.emod_nonneg k (b := (cs.length : Int)) (by omega); omega⟩
  have s1 : dAsg 6 (dBin modI (dVar 5) (dF1 semLen (dVar 2))) (eDr S m cs rs ds (.val (.int k)) (oD a) (oD o)) = some (.nx (eDr S m cs rs ds (.val (.int k)) (.val (.int j)) (oD o))) := by
    have h0 : (0 : Int) < ((eI cs).length : Int) := by rw [eI_len]; omega
    simp [eDr, h0, eI_len, hjm, hc]
  obtain ⟨c, hcj⟩ : ∃ c, cs[j]? = some c := ⟨_, List.getElem?_eq_getElem hj⟩
  obtain ⟨r, hrj⟩ : ∃ r, rs[j]? = some r := ⟨_, List.getElem?_eq_getElem (by omega)⟩
  have i1 := ix_lst (eI_get hcj)
  have i2 := ix_lst (eI_get hrj)
  have p18 := pow18
  have s2 : dAndT (dTest (dBin semGe (dBin semIx (dVar 2) (dVar 6)) (dBin powI (dC (.int 10)) (dC (.int 18))))) (dTest (dBin semGt (dBin semIx (dVar 3) (dVar 6)) (dC (.int 0)))) (eDr S m cs rs ds (.val (.int k)) (.val (.int j)) (oD o)) = some (decide ((1000000000000000000 : Int) ≤ c) && decide (0 < r), eDr S m cs rs ds (.val (.int k)) (.val (.int j)) (oD o)) := by
    by_cases h : (1000000000000000000 : Int) ≤ c
    · simp [eDr, i1, i2, p18, h]
    · simp [eDr, i1, i2, p18, h]
  have hlt : ∀ z : Int, ((eI ds).length < LN) = True := fun z => eq_true (by rw [eI_len]; show _ < 16777216; omega)
  by_cases h : (decide ((1000000000000000000 : Int) ≤ c) && decide (0 < r)) = true
  · refine ⟨rs.set j (r / 1000), ds ++ [r % 1000], some (.int j), o, by rw [List.length_set]; exact hr, by rw [List.length_append]; rfl, seq_ok s1 ?_⟩
    show (dAndT _ _ _).bind _ = _
    rw [s2, h]
    show dSeq _ _ _ = _
    refine seq_ok (e := eDr S m cs rs (ds ++ [r % 1000]) (.val (.int k)) (.val (.int j)) (oD o)) ?_ ?_
    · simp [eDr, i2, hlt 0, eI_append, modI_int]
    · have ix := ixN_nat (n := (eI rs).length) (j := j) (by rw [eI_len]; omega)
      have cd : cDiv 1000 = true := by decide
      simp [eDr, i2, ix, eI_set, fdivI_int cd, cd]
  · have h' : (decide ((1000000000000000000 : Int) ≤ c) && decide (0 < r)) = false := by simpa using h
    obtain ⟨on, hon⟩ : ∃ on : Int, (c * 48271 + k * 69621 + 11) % 2147483647 = on := ⟨_, rfl⟩
    refine ⟨rs, ds ++ [(on * on + 3 * on + k) % 1000003], some (.int j), some (.int on), hr, by rw [List.length_append]; rfl, seq_ok s1 ?_⟩
    show (dAndT _ _ _).bind _ = _
    rw [s2, h']
    show dSeq _ _ _ = _
    have o1 : 0 ≤ on := by rw [← hon]; exact Int.emod_nonneg _ (by decide)
    have o2 : on < 2147483647 := by rw [← hon]; exact Int.emod_lt_of_pos _ (by decide)
    have m1 := semMul_int (i := c) (j := 48271) (cMul_r (by decide))
    have m2 := semMul_int (i := k) (j := 69621) (cMul_r (by decide))
    have m3 := semMul_int (i := on) (j := on) (cMul_r (by omega))
    have m4 := semMul_int (i := 3) (j := on) (cMul_l (by decide))
    refine seq_ok (e := eDr S m cs rs ds (.val (.int k)) (.val (.int j)) (.val (.int on))) ?_ ?_
    · simp [eDr, i1, m1, m2, hon]
    · simp [eDr, m3, m4, hlt 0, eI_append]
end
theorem bDraws_eq : bDraws = (dSeq (dAsg 2 (dLc (iVar 0) [8] (.name 8) dYes (dF1 semInt (dVar 8)))) (dSeq (dIfS (dTest (dBin semEq (dF1 semLen (dVar 2)) (dC (.int 0)))) (dExpr (dAppend 2 (dC (.int 0)))) dNext) (dSeq (dAsg 3 (dF1 semList (dVar 2))) (dSeq (dAsg 4 (dLst dNil)) (dSeq (dFor (iRg1 (dVar 1)) (.name 5) bDrawsLoop) (dSeq (dExpr (dReverse 4)) (dRet (dVar 4)))))))) := rfl
theorem draws_ok (ns : List Int) (hn : ns.length ≤ 63) (m : Nat) (hm : m ≤ 10000) : ∃ ds : List Int, ds.length = m ∧ fDraws [.val (.scr (eI ns)), .val (.int m)] = some (.fresh (.lst (eI ds)), []) := by
  have s1 : dAsg 2 (dLc (iVar 0) [8] (.name 8) dYes (dF1 semInt (dVar 8))) [.val (.scr (eI ns)), .val (.int m), .un, .un, .un, .un, .un, .un, .un] = some (.nx [.val (.scr (eI ns)), .val (.int m), .own (.lst (eI ns)), .un, .un, .un, .un, .un, .un]) := by
    have := lc_pure (enc := D.int) (enc' := D.int) (xs := ns) [.val (.scr (eI ns)), .val (.int m), .un, .un, .un, .un, .un, .un, .un] (fun _ => true) id (di := iVar 0) (i := 8) (dt := dYes) (de := dF1 semInt (dVar 8)) (env := [.val (.scr (eI ns)), .val (.int m), .un, .un, .un, .un, .un, .un, .un]) (u := none) rfl rfl (by show 8 < 9; decide) rfl (by show _ ≤ 16777216; omega) (fun x hx => ⟨rfl, fun _ => rfl⟩)
    rw [List.filter_eq_self.mpr (fun _ _ => rfl), List.map_id] at this
    exact asg_eq this rfl
  obtain ⟨cs, hcs, hcl, s2⟩ : ∃ cs : List Int, 0 < cs.length ∧ cs.length ≤ 63 ∧ dIfS (dTest (dBin semEq (dF1 semLen (dVar 2)) (dC (.int 0)))) (dExpr (dAppend 2 (dC (.int 0)))) dNext [.val (.scr (eI ns)), .val (.int m), .own (.lst (eI ns)), .un, .un, .un, .un, .un, .un] = some (.nx [.val (.scr (eI ns)), .val (.int m), .own (.lst (eI cs)), .un, .un, .un, .un, .un, .un]) := by
    rcases ns with _ | ⟨x, ns⟩
    · refine ⟨[0], by decide, by decide, ?_⟩
      have l0 : (0 < LN) = True := eq_true (by decide)
      simp [eI, l0]
    · refine ⟨x :: ns, by simp, hn, ?_⟩
      have h1 : ((ns.length : Int) + 1 = 0) = False := eq_false (by omega)
      simp [eI, h1]
  obtain ⟨e, h1, rs, ds, lv, at', once, hl1, hl2, rfl⟩ := for_rel (enc := fun n : Nat => D.int (n : Int)) (xs := List.range m) (di := iRg1 (dVar 1)) (t := .name 5) (db := bDrawsLoop) (env := eDr (.val (.scr (eI ns))) m cs cs [] .un .un .un) (e0 := eDr (.val (.scr (eI ns))) m cs cs [] .un .un .un) (u := none)
    (R := fun k e => ∃ (rs ds : List Int) (lv at' once : Option D), rs.length = cs.length ∧ ds.length = k ∧ e = eDr (.val (.scr (eI ns))) m cs rs ds (oD lv) (oD at') (oD once))
    (iRg1_nat (d := dVar 1) rfl rfl (by omega)) ⟨cs, [], none, none, none, rfl, rfl, rfl⟩ (fun i x e hx ⟨rs, ds, lv, at', once, hr, hd, he⟩ => by
      subst he
      have hi : i < m := by have := (List.getElem?_eq_some_iff.mp hx).1; simpa using this
      obtain ⟨rs', ds', a', o', k1, k2, k3⟩ := draws_step (.val (.scr (eI ns))) m cs rs ds (x : Int) (Int.natCast_nonneg x) at' once hcs hr (by omega)
      exact ⟨_, by simp [setT, putv, eDr], _, .inl k3, rs', ds', some (.int x), a', o', k1, by omega, rfl⟩)
  refine ⟨ds.reverse, by rw [List.length_reverse, hl2, List.length_range], runF_rt (e := [.val (.scr (eI ns)), .val (.int m), .own (.lst (eI cs)), .own (.lst (eI rs)), .un, oD lv, oD at', oD once, .un]) ?_ rfl rfl⟩
  rw [bDraws_eq]
  refine seq_ok s1 (seq_ok s2 (seq_ok (e := [.val (.scr (eI ns)), .val (.int m), .own (.lst (eI cs)), .own (.lst (eI cs)), .un, .un, .un, .un, .un]) (by simp) (seq_ok (e := eDr (.val (.scr (eI ns))) m cs cs [] .un .un .un) (by simp [eDr, eI]) (seq_ok h1 ?_))))
  simp [eDr, unlockE, eI]
end VL
set_option Elab.async false
set_option linter.all false
set_option maxRecDepth 100000
/-! _law_same told of one and the same -/
namespace VL
open PySem PySem.Spec L2
def bSameA (rec : Fn) : DS := (dSeq (dIfS (dTest (dBin semIs (dVar 1) (dC .non))) (dRet (dBin semIs (dVar 0) (dC .non))) dNext) (dSeq (dIfS (dTest (dIsi "bool" (dVar 1))) (dRet (dAndV (dIsi "bool" (dVar 0)) (dBin semEq (dVar 0) (dVar 1)))) dNext) (dSeq (dIfS (dTest (dIsi "int" (dVar 1))) (dRet (dAndV (dIsi "int" (dVar 0)) (dAndV (dNotV (dIsi "bool" (dVar 0))) (dBin semEq (dVar 0) (dVar 1))))) dNext) (dSeq (dIfS (dTest (dIsi "str" (dVar 1))) (dRet (dAndV (dIsi "str" (dVar 0)) (dBin semEq (dVar 0) (dVar 1)))) dNext) (dSeq (dIfS (dOrT (dNotT (dTest (dIsi "tuple" (dVar 0)))) (dTest (dBin semNe (dF1 semLen (dVar 0)) (dF1 semLen (dVar 1))))) (dRet (dC (.bl false))) dNext) (dSeq (dFor (iRg1 (dF1 semLen (dVar 1))) (.name 2) (dIfS (dNotT (dTest (dCall rec (dCons (dVal (dBin semIx (dVar 0) (dVar 2))) (dCons (dVal (dBin semIx (dVar 1) (dVar 2))) dNil))))) (dRet (dC (.bl false))) dNext)) (dRet (dC (.bl true)))))))))
def rSameA : Nat → Fn
  | 0 => fun _ => none
  | k + 1 => runF 3 (bSameA (rSameA k))
def bSameB (rec : Fn) : DS := (dSeq (dIfS (dTest (dIsi "bool" (dVar 1))) (dRet (dAndV (dIsi "bool" (dVar 0)) (dBin semEq (dVar 0) (dVar 1)))) dNext) (dSeq (dIfS (dTest (dIsi "int" (dVar 1))) (dRet (dAndV (dIsi "int" (dVar 0)) (dAndV (dNotV (dIsi "bool" (dVar 0))) (dBin semEq (dVar 0) (dVar 1))))) dNext) (dSeq (dIfS (dTest (dIsi "str" (dVar 1))) (dRet (dAndV (dIsi "str" (dVar 0)) (dBin semEq (dVar 0) (dVar 1)))) dNext) (dSeq (dIfS (dTest (dBin semIs (dVar 1) (dC .non))) (dRet (dBin semIs (dVar 0) (dC .non))) dNext) (dSeq (dIfS (dOrT (dNotT (dTest (dIsi "tuple" (dVar 0)))) (dTest (dBin semNe (dF1 semLen (dVar 0)) (dF1 semLen (dVar 1))))) (dRet (dC (.bl false))) dNext) (dSeq (dFor (iRg1 (dF1 semLen (dVar 1))) (.name 2) (dIfS (dNotT (dTest (dCall rec (dCons (dVal (dBin semIx (dVar 0) (dVar 2))) (dCons (dVal (dBin semIx (dVar 1) (dVar 2))) dNil))))) (dRet (dC (.bl false))) dNext)) (dRet (dC (.bl true)))))))))
def rSameB : Nat → Fn
  | 0 => fun _ => none
  | k + 1 => runF 3 (bSameB (rSameB k))
mutual
/-- what laws compare: not deeper than n -/
def D.gd : D → Nat → Bool
  | .non, _ => true
  | .bl _, _ => true
  | .int _, _ => true
  | .str _, _ => true
  | .tup xs, n + 1 => decide (xs.length ≤ LN) && D.gds xs n
  | _, _ => false
def D.gds : List D → Nat → Bool
  | [], _ => true
  | d :: ds, n => d.gd n && D.gds ds n
end
theorem gds_mem : ∀ {ds : List D} {n : Nat} {d : D}, D.gds ds n = true → d ∈ ds → d.gd n = true
  | [], _, _, _, h => by cases h
  | d :: ds, n, d', h, m => by
    unfold D.gds at h
    rw [Bool.and_eq_true] at h
    rcases List.mem_cons.mp m with rfl | m
    · exact h.1
    · exact gds_mem h.2 m
theorem same_loop (rec : Fn) (xs : List D) (hl : xs.length ≤ LN) (h : ∀ d ∈ xs, rec [.val d, .val d] = some (.val (.bl true), [])) : ∃ lv : Option D, dFor (iRg1 (dF1 semLen (dVar 1))) (.name 2) (dIfS (dNotT (dTest (dCall rec (dCons (dVal (dBin semIx (dVar 0) (dVar 2))) (dCons (dVal (dBin semIx (dVar 1) (dVar 2))) dNil))))) (dRet (dC (.bl false))) dNext) [.val (.tup xs), .val (.tup xs), .un] = some (.nx [.val (.tup xs), .val (.tup xs), oD lv]) := by
  have hl' : xs.length ≤ 16777216 := hl
  obtain ⟨e, h1, lv, rfl⟩ := for_rel (enc := fun n : Nat => D.int (n : Int)) (xs := List.range xs.length) (di := iRg1 (dF1 semLen (dVar 1))) (t := .name 2) (db := (dIfS (dNotT (dTest (dCall rec (dCons (dVal (dBin semIx (dVar 0) (dVar 2))) (dCons (dVal (dBin semIx (dVar 1) (dVar 2))) dNil))))) (dRet (dC (.bl false))) dNext))
    (env := [.val (.tup xs), .val (.tup xs), .un]) (e0 := [.val (.tup xs), .val (.tup xs), .un]) (u := none)
    (R := fun k e => ∃ lv : Option D, e = [.val (.tup xs), .val (.tup xs), oD lv]) (iRg1_nat rfl rfl (by omega)) ⟨none, rfl⟩ (fun i x e hx ⟨lv, he⟩ => by
      subst he
      have hx' : x < xs.length := by
        have := List.mem_of_getElem? hx
        simpa using this
      have ix := ix_tup (List.getElem?_eq_getElem hx')
      have hr := h _ (List.getElem_mem hx')
      exact ⟨[.val (.tup xs), .val (.tup xs), .val (.int x)], by simp [setT, putv], _, .inl (by simp [ix, hr]), some (.int x), rfl⟩)
  exact ⟨lv, h1⟩
theorem sameA_refl : ∀ (n : Nat) (d : D), d.gd n = true → rSameA (n + 1) [.val d, .val d] = some (.val (.bl true), []) := by
  intro n
  induction n with
  | zero =>
    intro d h
    cases d with
    | non => simp [rSameA, bSameA, runF]
    | bl b => simp [rSameA, bSameA, runF]
    | int b => simp [rSameA, bSameA, runF]
    | str b => simp [rSameA, bSameA, runF]
    | _ => cases h
  | succ n ih =>
    intro d h
    cases d with
    | non => simp [rSameA, bSameA, runF]
    | bl b => simp [rSameA, bSameA, runF]
    | int b => simp [rSameA, bSameA, runF]
    | str b => simp [rSameA, bSameA, runF]
    | tup xs =>
      have h : (decide (xs.length ≤ LN) && D.gds xs n) = true := h
      rw [Bool.and_eq_true] at h
      obtain ⟨lv, hl⟩ := same_loop (rSameA (n + 1)) xs (of_decide_eq_true h.1) fun d hd => ih d (gds_mem h.2 hd)
      refine runF_rt (e := [.val (.tup xs), .val (.tup xs), oD lv]) ?_ rfl rfl
      refine seq_ok (e := [.val (.tup xs), .val (.tup xs), .un]) (by simp) (seq_ok (e := [.val (.tup xs), .val (.tup xs), .un]) (by simp) (seq_ok (e := [.val (.tup xs), .val (.tup xs), .un]) (by simp) (seq_ok (e := [.val (.tup xs), .val (.tup xs), .un]) (by simp) (seq_ok (e := [.val (.tup xs), .val (.tup xs), .un]) (by simp) (seq_ok hl ?_)))))
      simp
    | _ => cases h
theorem sameB_refl : ∀ (n : Nat) (d : D), d.gd n = true → rSameB (n + 1) [.val d, .val d] = some (.val (.bl true), []) := by
  intro n
  induction n with
  | zero =>
    intro d h
    cases d with
    | non => simp [rSameB, bSameB, runF]
    | bl b => simp [rSameB, bSameB, runF]
    | int b => simp [rSameB, bSameB, runF]
    | str b => simp [rSameB, bSameB, runF]
    | _ => cases h
  | succ n ih =>
    intro d h
    cases d with
    | non => simp [rSameB, bSameB, runF]
    | bl b => simp [rSameB, bSameB, runF]
    | int b => simp [rSameB, bSameB, runF]
    | str b => simp [rSameB, bSameB, runF]
    | tup xs =>
      have h : (decide (xs.length ≤ LN) && D.gds xs n) = true := h
      rw [Bool.and_eq_true] at h
      obtain ⟨lv, hl⟩ := same_loop (rSameB (n + 1)) xs (of_decide_eq_true h.1) fun d hd => ih d (gds_mem h.2 hd)
      refine runF_rt (e := [.val (.tup xs), .val (.tup xs), oD lv]) ?_ rfl rfl
      refine seq_ok (e := [.val (.tup xs), .val (.tup xs), .un]) (by simp) (seq_ok (e := [.val (.tup xs), .val (.tup xs), .un]) (by simp) (seq_ok (e := [.val (.tup xs), .val (.tup xs), .un]) (by simp) (seq_ok (e := [.val (.tup xs), .val (.tup xs), .un]) (by simp) (seq_ok (e := [.val (.tup xs), .val (.tup xs), .un]) (by simp) (seq_ok hl ?_)))))
      simp
    | _ => cases h
end VL
set_option Elab.async false
set_option linter.all false
set_option maxRecDepth 100000
/-! _law_cell -/
namespace VL
open PySem PySem.Spec L2
def bCell : DS := (dSeq (dIfS (dTest (dBin semEq (dF1 semLen (dVar 0)) (dC (.int 0)))) (dRet (dC (.int 0))) dNext) (dSeq (dAsg 2 (dF1 semInt (dBin semIx (dVar 0) (dCall fTake (dCons (dVar 1) (dCons (dF1 semLen (dVar 0)) dNil)))))) (dRet (dBin semMul (dBin modI (dF1 semAbs (dVar 2)) (dBin powI (dC (.int 10)) (dC (.int 60)))) (dBin semIx (dLst (dCons (dC (.int 1)) (dCons (dUn negI (dC (.int 1))) dNil))) (dF1 semInt (dBin semLt (dVar 2) (dC (.int 0)))))))))
def fCell : Fn := runF 3 bCell
theorem pow60 : powI (.int 10) (.int 60) = some (.val (.int 1000000000000000000000000000000000000000000000000000000000000)) := powI_eq (by decide) (by decide)
theorem pow29 : powI (.int 10) (.int 29) = some (.val (.int 100000000000000000000000000000)) := powI_eq (by decide) (by decide)
theorem pow27 : powI (.int 10) (.int 27) = some (.val (.int 1000000000000000000000000000)) := powI_eq (by decide) (by decide)
theorem pow15 : powI (.int 10) (.int 15) = some (.val (.int 1000000000000000)) := powI_eq (by decide) (by decide)
theorem cell_ok (ns ds : List Int) (hn : ns.length ≤ 63) : ∃ (c : Int) (ds' : List Int), -1000000000000000000000000000000000000000000000000000000000000 < c ∧ c < 1000000000000000000000000000000000000000000000000000000000000 ∧ fCell [.val (.scr (eI ns)), .io (.lst (eI ds))] = some (.val (.int c), [.lst (eI ds')]) := by
  rcases ns with _ | ⟨x0, ns⟩
  · refine ⟨0, ds, by decide, by decide, runF_rt (e := [.val (.scr []), .io (.lst (eI ds)), .un]) (seq_rt ?_) rfl rfl⟩
    simp [eI]
  · obtain ⟨r, h0, h1, hr⟩ := take_ok ds (m := ((eI (x0 :: ns)).length : Int)) (by rw [eI_len, List.length_cons]; omega)
    obtain ⟨j, rfl⟩ : ∃ j : Nat, r = (j : Int) := ⟨r.toNat, by omega⟩
    have hj : j < (x0 :: ns).length := by rw [eI_len] at h1; omega
    obtain ⟨c, hc⟩ : ∃ c, (x0 :: ns)[j]? = some c := ⟨_, List.getElem?_eq_getElem hj⟩
    have ix := ix_scr (eI_get hc)
    have ne : eI (x0 :: ns) ≠ [] := by simp [eI]
    generalize eI (x0 :: ns) = E at h1 hr ix ne ⊢
    obtain ⟨a, ha⟩ : ∃ a : Int, (if c < 0 then -c else c) % 1000000000000000000000000000000000000000000000000000000000000 = a := ⟨_, rfl⟩
    have a0 : 0 ≤ a := by rw [← ha]; exact Int.emod_nonneg _ (by decide)
    have a1 : a < 1000000000000000000000000000000000000000000000000000000000000 := by rw [← ha]; exact Int.emod_lt_of_pos _ (by decide)
    have x1 : semIx (.lst [.int 1, .int (-1)]) (.int 1) = some (.val (.int (-1))) := by rfl
    have x2 : semIx (.lst [.int 1, .int (-1)]) (.int 0) = some (.val (.int 1)) := by rfl
    have l2 : (2 ≤ LN) = True := eq_true (by decide)
    have s1 : dIfS (dTest (dBin semEq (dF1 semLen (dVar 0)) (dC (.int 0)))) (dRet (dC (.int 0))) dNext [.val (.scr E), .io (.lst (eI ds)), .un] = some (.nx [.val (.scr E), .io (.lst (eI ds)), .un]) := by simp [ne]
    have s2 : dAsg 2 (dF1 semInt (dBin semIx (dVar 0) (dCall fTake (dCons (dVar 1) (dCons (dF1 semLen (dVar 0)) dNil))))) [.val (.scr E), .io (.lst (eI ds)), .un] = some (.nx [.val (.scr E), .io (.lst (eI ds.dropLast)), .val (.int c)]) := by simp [hr, ix]
    by_cases hneg : c < 0
    · refine ⟨a * (-1), ds.dropLast, by omega, by omega, runF_rt (e := [.val (.scr E), .io (.lst (eI ds.dropLast)), .val (.int c)]) (seq_ok s1 (seq_ok s2 ?_)) rfl rfl⟩
      have m1 := semMul_int (i := a) (j := -1) (cMul_r (by decide))
      rw [if_pos hneg] at ha
      simp [pow60, hneg, ha, negI, x1, m1, l2]
    · refine ⟨a * 1, ds.dropLast, by omega, by omega, runF_rt (e := [.val (.scr E), .io (.lst (eI ds.dropLast)), .val (.int c)]) (seq_ok s1 (seq_ok s2 ?_)) rfl rfl⟩
      have m1 := semMul_int (i := a) (j := 1) (cMul_r (by decide))
      rw [if_neg hneg] at ha
      simp [pow60, hneg, ha, negI, x2, m1, l2]
end VL
set_option Elab.async false
set_option linter.all false
set_option maxRecDepth 100000
namespace G62
open PySem PySem.Spec L2 VL
/-! ### what each def does -/
def b_fallen : DS := (dRet (dF1 semTuple (dLc (iRg1 (dF1 semLen (dVar 0))) [2] (.name 2) (dTest (dBin semIn (dVar 1) (dBin semIx (dVar 0) (dVar 2)))) (dVar 2))))
def f_fallen : Fn := runF 3 b_fallen
def b_holes_of : DS := (dSeq (dAsg 2 (dTup dNil)) (dSeq (dFor (iRg1 (dVar 1)) (.name 3) (dSeq (dIfS (dTest (dBin semEq (dBin modI (dVar 0) (dC (.int 2))) (dC (.int 1)))) (dAsg 2 (dBin semAug (dVar 2) (dTup (dCons (dVal (dVar 3)) dNil)))) dNext) (dAsg 0 (dBin fdivI (dVar 0) (dC (.int 2)))))) (dRet (dVar 2))))
def f_holes_of : Fn := runF 4 b_holes_of
def b_sorted_by_needles : DS := (dSeq (dAsg 2 (dLc (iVar 0) [6] (.name 6) dYes (dCall f_holes_of (dCons (dVal (dVar 6)) (dCons (dVal (dVar 1)) dNil))))) (dSeq (dAsg 3 (dListR (dR1 (dF1 semLen (dVar 2))))) (dSeq (dFor (iRg1 (dVar 1)) (.name 4) (dSeq (dAsg 5 (dLc (iVar 3) [7] (.name 7) (dTest (dBin semNotIn (dVar 4) (dBin semIx (dVar 2) (dVar 7)))) (dVar 7))) (dAsg 3 (dBin semAdd (dVar 5) (dLc (iVar 3) [7] (.name 7) (dTest (dBin semIn (dVar 4) (dBin semIx (dVar 2) (dVar 7)))) (dVar 7)))))) (dRet (dF1 semTuple (dVar 3))))))
def f_sorted_by_needles : Fn := runF 8 b_sorted_by_needles
def b_has_all : DS := (dRet (dF1 semAll (dLc (iVar 1) [2] (.name 2) dYes (dBin semIn (dVar 2) (dVar 0)))))
def f_has_all : Fn := runF 3 b_has_all
def b_has_none : DS := (dRet (dNotV (dF1 semAny (dLc (iVar 1) [2] (.name 2) dYes (dBin semIn (dVar 2) (dVar 0))))))
def f_has_none : Fn := runF 3 b_has_none
def b_needled : DS := (dSeq (dAsg 3 (dLc (iRg1 (dF1 semLen (dVar 0))) [4] (.name 4) (dTest (dCall f_has_all (dCons (dVal (dBin semIx (dVar 0) (dVar 4))) (dCons (dVal (dVar 1)) dNil)))) (dVar 4))) (dRet (dF1 semTuple (dLc (iVar 3) [4] (.name 4) (dTest (dCall f_has_none (dCons (dVal (dBin semIx (dVar 0) (dVar 4))) (dCons (dVal (dVar 2)) dNil)))) (dVar 4)))))
def f_needled : Fn := runF 5 b_needled
def b_needles_for : DS := (dSeq (dAsgT (.tup [1, 2]) (dTup (dCons (dC (.int 0)) (dCons (dC (.int 1)) dNil)))) (dSeq (dWh (dTest (dBin semLt (dVar 2) (dVar 0))) (dPar [1, 2] (dCons (dVal (dBin semAdd (dVar 1) (dC (.int 1)))) (dCons (dVal (dBin semMul (dVar 2) (dC (.int 2)))) dNil)))) (dRet (dVar 1))))
def f_needles_for : Fn := runF 3 b_needles_for
def b_two_of : DS := (dRet (dBin fdivI (dBin semMul (dVar 0) (dBin subI (dVar 0) (dC (.int 1)))) (dC (.int 2))))
def f_two_of : Fn := runF 1 b_two_of
def b_holes_in : DS := (dRet (dF1 semTuple (dF1 semSortSet (dLc2 (iVar 0) [1, 2] (.name 1) dYes (iVar 1) [2] (.name 2) dYes (dVar 2)))))
def f_holes_in : Fn := runF 3 b_holes_in
def b_false_falls : DS := (dSeq (dAsg 2 (dLc (iRg1 (dF1 semLen (dVar 0))) [3] (.name 3) (dTest (dCall f_has_all (dCons (dVal (dCall f_holes_in (dCons (dVal (dBin semIx (dVar 0) (dVar 3))) dNil))) (dCons (dVal (dVar 1)) dNil)))) (dVar 3))) (dRet (dF1 semTuple (dLc (iVar 2) [3] (.name 3) (dTest (dBin semNotIn (dVar 1) (dBin semIx (dVar 0) (dVar 3)))) (dVar 3)))))
def f_false_falls : Fn := runF 4 b_false_falls
def b__law_draws : DS := (dSeq (dAsg 2 (dLc (iVar 0) [8] (.name 8) dYes (dF1 semInt (dVar 8)))) (dSeq (dIfS (dTest (dBin semEq (dF1 semLen (dVar 2)) (dC (.int 0)))) (dExpr (dAppend 2 (dC (.int 0)))) dNext) (dSeq (dAsg 3 (dF1 semList (dVar 2))) (dSeq (dAsg 4 (dLst dNil)) (dSeq (dFor (iRg1 (dVar 1)) (.name 5) (dSeq (dAsg 6 (dBin modI (dVar 5) (dF1 semLen (dVar 2)))) (dIfS (dAndT (dTest (dBin semGe (dBin semIx (dVar 2) (dVar 6)) (dBin powI (dC (.int 10)) (dC (.int 18))))) (dTest (dBin semGt (dBin semIx (dVar 3) (dVar 6)) (dC (.int 0))))) (dSeq (dExpr (dAppend 4 (dBin modI (dF1 semInt (dBin semIx (dVar 3) (dVar 6))) (dC (.int 1000))))) (dSetL 3 (dVar 6) (dBin fdivI (dBin semIx (dVar 3) (dVar 6)) (dC (.int 1000))))) (dSeq (dAsg 7 (dBin modI (dF1 semInt (dBin semAdd (dBin semAdd (dBin semMul (dBin semIx (dVar 2) (dVar 6)) (dC (.int 48271))) (dBin semMul (dVar 5) (dC (.int 69621)))) (dC (.int 11)))) (dC (.int 2147483647)))) (dExpr (dAppend 4 (dBin modI (dF1 semInt (dBin semAdd (dBin semAdd (dBin semMul (dVar 7) (dVar 7)) (dBin semMul (dC (.int 3)) (dVar 7))) (dVar 5))) (dC (.int 1000003))))))))) (dSeq (dExpr (dReverse 4)) (dRet (dVar 4))))))))
def f__law_draws : Fn := runF 9 b__law_draws
def b__law_take : DS := (dSeq (dIfS (dTest (dBin semEq (dF1 semLen (dVar 0)) (dC (.int 0)))) (dRet (dC (.int 0))) dNext) (dRet (dBin modI (dF1 semInt (dPop 0)) (dVar 1))))
def f__law_take : Fn := runF 2 b__law_take
def b__law_cell : DS := (dSeq (dIfS (dTest (dBin semEq (dF1 semLen (dVar 0)) (dC (.int 0)))) (dRet (dC (.int 0))) dNext) (dSeq (dAsg 2 (dF1 semInt (dBin semIx (dVar 0) (dCall f__law_take (dCons (dVar 1) (dCons (dF1 semLen (dVar 0)) dNil)))))) (dRet (dBin semMul (dBin modI (dF1 semAbs (dVar 2)) (dBin powI (dC (.int 10)) (dC (.int 60)))) (dBin semIx (dLst (dCons (dC (.int 1)) (dCons (dUn negI (dC (.int 1))) dNil))) (dF1 semInt (dBin semLt (dVar 2) (dC (.int 0)))))))))
def f__law_cell : Fn := runF 3 b__law_cell
def b__law_same (rec : Fn) : DS := (dSeq (dIfS (dTest (dBin semIs (dVar 1) (dC .non))) (dRet (dBin semIs (dVar 0) (dC .non))) dNext) (dSeq (dIfS (dTest (dIsi "bool" (dVar 1))) (dRet (dAndV (dIsi "bool" (dVar 0)) (dBin semEq (dVar 0) (dVar 1)))) dNext) (dSeq (dIfS (dTest (dIsi "int" (dVar 1))) (dRet (dAndV (dIsi "int" (dVar 0)) (dAndV (dNotV (dIsi "bool" (dVar 0))) (dBin semEq (dVar 0) (dVar 1))))) dNext) (dSeq (dIfS (dTest (dIsi "str" (dVar 1))) (dRet (dAndV (dIsi "str" (dVar 0)) (dBin semEq (dVar 0) (dVar 1)))) dNext) (dSeq (dIfS (dOrT (dNotT (dTest (dIsi "tuple" (dVar 0)))) (dTest (dBin semNe (dF1 semLen (dVar 0)) (dF1 semLen (dVar 1))))) (dRet (dC (.bl false))) dNext) (dSeq (dFor (iRg1 (dF1 semLen (dVar 1))) (.name 2) (dIfS (dNotT (dTest (dCall rec (dCons (dVal (dBin semIx (dVar 0) (dVar 2))) (dCons (dVal (dBin semIx (dVar 1) (dVar 2))) dNil))))) (dRet (dC (.bl false))) dNext)) (dRet (dC (.bl true)))))))))
def r__law_same : Nat → Fn
  | 0 => fun _ => none
  | k + 1 => runF 3 (b__law_same (r__law_same k))
def b__law_cards : DS := (dSeq (dAsg 3 (dBin semAdd (dC (.int 1)) (dCall f__law_take (dCons (dVar 0) (dCons (dC (.int 3)) dNil))))) (dRet (dF1 semTuple (dLc (iRg1 (dCall f__law_take (dCons (dVar 0) (dCons (dVal (dBin semAdd (dVar 1) (dC (.int 1)))) dNil)))) [4] (.name 4) dYes (dF1 semTuple (dLc (iRg1 (dVar 2)) [5] (.name 5) (dTest (dBin semLt (dCall f__law_take (dCons (dVar 0) (dCons (dC (.int 4)) dNil))) (dVar 3))) (dVar 5)))))))
def f__law_cards : Fn := runF 6 b__law_cards
def b__law_are_cards_right : DS := (dSeq (dFor (iRg1 (dC (.int 9))) (.name 2) (dIfS (dNotT (dTest (dCall (r__law_same 8) (dCons (dVal (dCall f_fallen (dCons (dVal (dVar 1)) (dCons (dVal (dVar 2)) dNil)))) (dCons (dF1 semTuple (dLc (iRg1 (dF1 semLen (dVar 1))) [7] (.name 7) (dTest (dBin semIn (dVar 2) (dBin semIx (dVar 1) (dVar 7)))) (dVar 7))) dNil))))) (dRet (dC (.bl false))) dNext)) (dSeq (dFor (iRg1 (dC (.int 3))) (.name 3) (dSeq (dAsg 4 (dF1 semTuple (dLc (iRg1 (dC (.int 8))) [2] (.name 2) (dTest (dBin semEq (dCall f__law_take (dCons (dVar 0) (dCons (dC (.int 5)) dNil))) (dC (.int 0)))) (dVar 2)))) (dSeq (dAsg 5 (dF1 semTuple (dLc (iRg1 (dC (.int 8))) [2] (.name 2) (dTest (dBin semEq (dCall f__law_take (dCons (dVar 0) (dCons (dC (.int 5)) dNil))) (dC (.int 0)))) (dVar 2)))) (dSeq (dAsg 6 (dLst dNil)) (dSeq (dFor (iRg1 (dF1 semLen (dVar 1))) (.name 7) (dIfS (dTest (dBin semEq (dBin semAdd (dF1 semLen (dLc (iVar 4) [2] (.name 2) (dTest (dBin semNotIn (dVar 2) (dBin semIx (dVar 1) (dVar 7)))) (dVar 2))) (dF1 semLen (dLc (iVar 5) [2] (.name 2) (dTest (dBin semIn (dVar 2) (dBin semIx (dVar 1) (dVar 7)))) (dVar 2)))) (dC (.int 0)))) (dExpr (dAppend 6 (dVar 7))) dNext)) (dIfS (dNotT (dTest (dCall (r__law_same 8) (dCons (dVal (dCall f_needled (dCons (dVal (dVar 1)) (dCons (dVal (dVar 4)) (dCons (dVal (dVar 5)) dNil))))) (dCons (dF1 semTuple (dVar 6)) dNil))))) (dRet (dC (.bl false))) dNext)))))) (dRet (dC (.bl true)))))
def f__law_are_cards_right : Fn := runF 8 b__law_are_cards_right
def b__law_is_sorted_right : DS := (dSeq (dAsg 2 (dC (.int 1))) (dSeq (dFor (iRg1 (dVar 1)) (.name 3) (dAsg 2 (dBin semMul (dC (.int 2)) (dVar 2)))) (dSeq (dAsg 4 (dLc (iSeq (dF1 semSort (dLc (iRg1 (dF1 semLen (dVar 0))) [6] (.name 6) dYes (dTup (dCons (dBin modI (dF1 semInt (dBin semIx (dVar 0) (dVar 6))) (dVar 2)) (dCons (dVal (dVar 6)) dNil)))))) [5] (.name 5) dYes (dBin semIx (dVar 5) (dC (.int 1))))) (dRet (dCall (r__law_same 8) (dCons (dVal (dCall f_sorted_by_needles (dCons (dVal (dVar 0)) (dCons (dVal (dVar 1)) dNil)))) (dCons (dF1 semTuple (dVar 4)) dNil)))))))
def f__law_is_sorted_right : Fn := runF 7 b__law_is_sorted_right
def b__law_is_false_right : DS := (dSeq (dAsg 3 (dLst dNil)) (dSeq (dFor (iRg1 (dF1 semLen (dVar 1))) (.name 4) (dSeq (dAsg 5 (dLst dNil)) (dSeq (dFor (iSeq (dBin semIx (dVar 1) (dVar 4))) (.name 6) (dAsg 5 (dBin semAdd (dVar 5) (dF1 semList (dVar 6))))) (dIfS (dAndT (dTest (dBin semEq (dF1 semLen (dLc (iVar 2) [7] (.name 7) (dTest (dBin semNotIn (dVar 7) (dVar 5))) (dVar 7))) (dC (.int 0)))) (dTest (dBin semEq (dF1 semLen (dLc (iSeq (dBin semIx (dVar 1) (dVar 4))) [6] (.name 6) (dTest (dBin semEq (dVar 6) (dVar 2))) (dVar 6))) (dC (.int 0))))) (dExpr (dAppend 3 (dVar 4))) dNext)))) (dRet (dCall (r__law_same 8) (dCons (dVal (dCall f_false_falls (dCons (dVal (dVar 1)) (dCons (dVal (dVar 2)) dNil)))) (dCons (dF1 semTuple (dVar 3)) dNil))))))
def f__law_is_false_right : Fn := runF 8 b__law_is_false_right
def b_law : DS := (dSeq (dAsg 1 (dCall f__law_draws (dCons (dVal (dVar 0)) (dCons (dC (.int 300)) dNil)))) (dSeq (dIfS (dNotT (dTest (dCall f__law_are_cards_right (dCons (dVar 1) (dCons (dVal (dCall f__law_cards (dCons (dVar 1) (dCons (dC (.int 9)) (dCons (dC (.int 8)) dNil))))) dNil))))) (dRet (dC (.bl false))) dNext) (dSeq (dAsg 2 (dBin modI (dF1 semAbs (dCall f__law_cell (dCons (dVal (dVar 0)) (dCons (dVar 1) dNil)))) (dBin powI (dC (.int 10)) (dC (.int 29))))) (dSeq (dAsg 3 (dF1 semTuple (dLc (iRg1 (dCall f__law_take (dCons (dVar 1) (dCons (dC (.int 10)) dNil)))) [11] (.name 11) dYes (dBin semIx (dLst (dCons (dVal (dCall f__law_take (dCons (dVar 1) (dCons (dC (.int 20)) dNil)))) (dCons (dVal (dBin semAdd (dVar 2) (dCall f__law_take (dCons (dVar 1) (dCons (dC (.int 300)) dNil))))) dNil))) (dF1 semInt (dBin semEq (dCall f__law_take (dCons (dVar 1) (dCons (dC (.int 4)) dNil))) (dC (.int 0)))))))) (dSeq (dIfS (dNotT (dTest (dCall f__law_is_sorted_right (dCons (dVal (dVar 3)) (dCons (dVal (dCall f__law_take (dCons (dVar 1) (dCons (dC (.int 9)) dNil)))) dNil))))) (dRet (dC (.bl false))) dNext) (dSeq (dAsg 4 (dF1 semTuple (dLc (iRg1 (dCall f__law_take (dCons (dVar 1) (dCons (dC (.int 7)) dNil)))) [11] (.name 11) dYes (dCall f__law_cards (dCons (dVar 1) (dCons (dC (.int 3)) (dCons (dC (.int 5)) dNil))))))) (dSeq (dAsg 5 (dF1 semTuple (dLc (iRg1 (dC (.int 5))) [12] (.name 12) (dTest (dBin semEq (dCall f__law_take (dCons (dVar 1) (dCons (dC (.int 3)) dNil))) (dC (.int 0)))) (dVar 12)))) (dSeq (dIfS (dNotT (dTest (dCall f__law_is_false_right (dCons (dVar 1) (dCons (dVal (dVar 4)) (dCons (dVal (dVar 5)) dNil)))))) (dRet (dC (.bl false))) dNext) (dSeq (dFor (iSeq (dLst (dCons (dVal (dBin semAdd (dC (.int 1)) (dCall f__law_take (dCons (dVar 1) (dCons (dC (.int 70)) dNil))))) (dCons (dVal (dBin semAdd (dC (.int 1)) (dVar 2))) dNil)))) (.name 6) (dSeq (dAsgT (.tup [7, 8]) (dTup (dCons (dC (.int 1)) (dCons (dC (.int 0)) dNil)))) (dSeq (dFor (iRg1 (dC (.int 100))) (.name 9) (dIfS (dTest (dBin semLt (dVar 7) (dVar 6))) (dPar [7, 8] (dCons (dVal (dBin semMul (dVar 7) (dC (.int 2)))) (dCons (dVal (dBin semAdd (dVar 8) (dC (.int 1)))) dNil))) dNext)) (dIfS (dNotT (dTest (dCall (r__law_same 8) (dCons (dVal (dCall f_needles_for (dCons (dVal (dVar 6)) dNil))) (dCons (dVal (dVar 8)) dNil))))) (dRet (dC (.bl false))) dNext)))) (dSeq (dAsg 8 (dCall f__law_take (dCons (dVar 1) (dCons (dC (.int 20)) dNil)))) (dSeq (dIfS (dOrT (dNotT (dTest (dCall (r__law_same 8) (dCons (dVal (dCall f_two_of (dCons (dVal (dVar 8)) dNil))) (dCons (dF1 semSum (dListR (dR1 (dVar 8)))) dNil))))) (dNotT (dTest (dCall (r__law_same 8) (dCons (dVal (dCall f_two_of (dCons (dVal (dBin semAdd (dVar 2) (dC (.int 1)))) dNil))) (dCons (dVal (dBin semAdd (dCall f_two_of (dCons (dVal (dVar 2)) dNil)) (dVar 2))) dNil)))))) (dRet (dC (.bl false))) dNext) (dSeq (dAsg 10 (dTup (dCons (dTup (dCons (dC (.int 0)) (dCons (dC (.int 2)) dNil))) (dCons (dTup (dCons (dC (.int 1)) dNil)) (dCons (dTup dNil) (dCons (dTup (dCons (dC (.int 0)) (dCons (dC (.int 1)) (dCons (dC (.int 2)) dNil)))) (dCons (dTup (dCons (dC (.int 2)) (dCons (dC (.int 5)) dNil))) dNil))))))) (dSeq (dIfS (dOrT (dNotT (dTest (dCall (r__law_same 8) (dCons (dVal (dCall f_fallen (dCons (dVal (dVar 10)) (dCons (dC (.int 2)) dNil)))) (dCons (dTup (dCons (dC (.int 0)) (dCons (dC (.int 3)) (dCons (dC (.int 4)) dNil)))) dNil))))) (dOrT (dNotT (dTest (dCall (r__law_same 8) (dCons (dVal (dCall f_needled (dCons (dVal (dVar 10)) (dCons (dTup (dCons (dC (.int 2)) dNil)) (dCons (dTup (dCons (dC (.int 1)) (dCons (dC (.int 5)) dNil))) dNil))))) (dCons (dTup (dCons (dC (.int 0)) dNil)) dNil))))) (dNotT (dTest (dCall (r__law_same 8) (dCons (dVal (dCall f_needled (dCons (dVal (dVar 10)) (dCons (dTup dNil) (dCons (dTup (dCons (dC (.int 0)) dNil)) dNil))))) (dCons (dTup (dCons (dC (.int 1)) (dCons (dC (.int 2)) (dCons (dC (.int 4)) dNil)))) dNil))))))) (dRet (dC (.bl false))) dNext) (dSeq (dIfS (dOrT (dNotT (dTest (dCall (r__law_same 8) (dCons (dVal (dCall f_sorted_by_needles (dCons (dTup (dCons (dC (.int 5)) (dCons (dC (.int 2)) (dCons (dC (.int 7)) (dCons (dC (.int 2)) (dCons (dC (.int 0)) (dCons (dC (.int 13)) dNil))))))) (dCons (dC (.int 3)) dNil)))) (dCons (dTup (dCons (dC (.int 4)) (dCons (dC (.int 1)) (dCons (dC (.int 3)) (dCons (dC (.int 0)) (dCons (dC (.int 5)) (dCons (dC (.int 2)) dNil))))))) dNil))))) (dOrT (dNotT (dTest (dCall (r__law_same 8) (dCons (dVal (dCall f_needles_for (dCons (dC (.int 8)) dNil))) (dCons (dC (.int 3)) dNil))))) (dOrT (dNotT (dTest (dCall (r__law_same 8) (dCons (dVal (dCall f_needles_for (dCons (dC (.int 9)) dNil))) (dCons (dC (.int 4)) dNil))))) (dNotT (dTest (dCall (r__law_same 8) (dCons (dVal (dCall f_needles_for (dCons (dC (.int 1)) dNil))) (dCons (dC (.int 0)) dNil)))))))) (dRet (dC (.bl false))) dNext) (dSeq (dIfS (dOrT (dNotT (dTest (dCall (r__law_same 8) (dCons (dVal (dCall f_false_falls (dCons (dTup (dCons (dTup (dCons (dTup (dCons (dC (.int 0)) (dCons (dC (.int 1)) dNil))) (dCons (dTup (dCons (dC (.int 2)) (dCons (dC (.int 3)) dNil))) dNil))) (dCons (dTup (dCons (dTup (dCons (dC (.int 0)) (dCons (dC (.int 2)) dNil))) dNil)) (dCons (dTup (dCons (dTup (dCons (dC (.int 0)) (dCons (dC (.int 2)) dNil))) (dCons (dTup (dCons (dC (.int 1)) (dCons (dC (.int 4)) dNil))) dNil))) (dCons (dTup dNil) dNil))))) (dCons (dTup (dCons (dC (.int 0)) (dCons (dC (.int 2)) dNil))) dNil)))) (dCons (dTup (dCons (dC (.int 0)) dNil)) dNil))))) (dOrT (dNotT (dTest (dCall (r__law_same 8) (dCons (dVal (dCall f_two_of (dCons (dC (.int 5)) dNil))) (dCons (dC (.int 10)) dNil))))) (dNotT (dTest (dCall (r__law_same 8) (dCons (dVal (dCall f_false_falls (dCons (dTup (dCons (dTup (dCons (dTup (dCons (dC (.int 1)) dNil)) dNil)) (dCons (dTup dNil) dNil))) (dCons (dTup dNil) dNil)))) (dCons (dTup (dCons (dC (.int 0)) (dCons (dC (.int 1)) dNil))) dNil))))))) (dRet (dC (.bl false))) dNext) (dRet (dAndV (dCall f__law_are_cards_right (dCons (dVar 1) (dCons (dVal (dVar 10)) dNil))) (dAndV (dCall f__law_is_sorted_right (dCons (dTup (dCons (dC (.int 3)) (dCons (dC (.int 1)) (dCons (dC (.int 2)) dNil)))) (dCons (dC (.int 0)) dNil))) (dCall (r__law_same 8) (dCons (dVal (dCall f_two_of (dCons (dC (.int 0)) dNil))) (dCons (dC (.int 0)) dNil)))))))))))))))))))))
def f_law : Fn := runF 13 b_law
end G62
set_option Elab.async false
set_option linter.all false
set_option maxRecDepth 100000
namespace G62
open PySem PySem.Spec L2 VL
/-! ### data -/
def eT (xs : List Int) : D := .tup (eI xs)
def eC (cs : List (List Int)) : D := .tup (cs.map eT)
theorem pls_eI (xs : List Int) (n : Nat) : D.pls (eI xs) n = true := by
  induction xs with
  | nil => rfl
  | cons x xs ih => show (D.pl (.int x) n && D.pls (eI xs) n) = true; rw [pl_int, ih]; rfl
theorem hasD_eI (h : Int) (xs : List Int) : hasD (.int h) (eI xs) = decide (h ∈ xs) := by
  induction xs with
  | nil => rfl
  | cons x xs ih =>
    show ((D.int x).eqb (.int h) || hasD (.int h) (eI xs)) = _
    rw [ih, eqb_int]
    by_cases e : x = h
    · subst e; simp
    · have e' : ¬ h = x := fun z => e z.symm
      simp [e, e']
theorem in_eT (h : Int) (xs : List Int) : semIn (.int h) (eT xs) = some (.val (.bl (decide (h ∈ xs)))) := by
  show (if (D.int h).pl 60 = true ∧ D.pls (eI xs) 59 = true then some (hasD (.int h) (eI xs)) else none).bind _ = _
  rw [if_pos ⟨pl_int _ _, pls_eI _ _⟩, hasD_eI]
  rfl
theorem notIn_eT (h : Int) (xs : List Int) : semNotIn (.int h) (eT xs) = some (.val (.bl (!decide (h ∈ xs)))) := by
  show (if (D.int h).pl 60 = true ∧ D.pls (eI xs) 59 = true then some (hasD (.int h) (eI xs)) else none).bind _ = _
  rw [if_pos ⟨pl_int _ _, pls_eI _ _⟩, hasD_eI]
  rfl
theorem notIn_eL (h : Int) (xs : List Int) : semNotIn (.int h) (.lst (eI xs)) = some (.val (.bl (!decide (h ∈ xs)))) := by
  show (if (D.int h).pl 60 = true ∧ D.pls (eI xs) 59 = true then some (hasD (.int h) (eI xs)) else none).bind _ = _
  rw [if_pos ⟨pl_int _ _, pls_eI _ _⟩, hasD_eI]
  rfl
theorem ix_eC {cs : List (List Int)} {j : Nat} {c : List Int} (h : cs[j]? = some c) : semIx (eC cs) (.int (j : Int)) = some (.val (eT c)) := ix_tup (by rw [List.getElem?_map, h]; rfl)
theorem eC_len (cs : List (List Int)) : lenD (eC cs) = some cs.length := by show some _ = _; rw [List.length_map]
def iN (xs : List Nat) : List Int := xs.map fun n : Nat => (n : Int)
theorem map_iN (xs : List Nat) : (xs.map fun n : Nat => D.int (n : Int)) = eI (iN xs) := by unfold eI iN; rw [List.map_map]; rfl
/-- the numbers of the cards that p holds of -/
def places (cs : List (List Int)) (p : List Int → Bool) : List Nat := (List.range cs.length).filter fun j => p (cs.getD j [])
theorem getD_of {cs : List (List Int)} {j : Nat} (h : j < cs.length) : cs[j]? = some (cs.getD j []) := by
  rw [List.getD_eq_getElem?_getD, List.getElem?_eq_getElem h]; rfl
theorem lc_places {cs : List (List Int)} (hl : cs.length ≤ 1000) (L : Ev) (p : List Int → Bool) {di : DI} {i : Nat} {dt : DT} {env : Ev} (h1 : di env = some ((List.range cs.length).map fun n : Nat => D.int (n : Int), env, none)) (hi : i < env.length)
    (hs : ∀ (j : Nat) (c : List Int), cs[j]? = some c → dt (env.set i (.val (.int (j : Int)))) = some (p c, env.set i (.val (.int (j : Int))))) :
    dLc di [i] (.name i) dt (dVar i) env = some (.fresh (.lst (eI (iN (places cs p)))), env) := by
  have := lc_pure (enc := fun n : Nat => D.int (n : Int)) (enc' := fun n : Nat => D.int (n : Int)) (xs := List.range cs.length) env (fun j => p (cs.getD j [])) id (di := di) (i := i) (dt := dt) (de := dVar i) (env := env) (e0 := env) (u := none) h1 rfl hi rfl (by rw [List.length_range]; show _ ≤ 16777216; omega) (fun x hx => by
    have hx := List.mem_range.mp hx
    refine ⟨hs x _ (getD_of hx), fun _ => ?_⟩
    have g : (env.set i (.val (.int (x : Int))))[i]? = some (.val (.int (x : Int))) := by rw [List.getElem?_set_self hi]
    simp only [dVal, dVar]
    rw [g]
    rfl)
  rw [this, List.map_id, map_iN]
  rfl
theorem f1_ok {sem : List D → Option Rs} {d : DE} {env e : Ev} {r o : Rs} {x : D} (h : d env = some (r, e)) (h2 : r.data e = some x) (h3 : sem [x] = some o) : dF1 sem d env = some (o, e) := by
  show ((d env).bind _).bind _ = _
  rw [h]
  show ((r.data e).bind _).bind _ = _
  rw [h2]
  show (sem [x]).bind _ = _
  rw [h3]
  rfl
theorem f1_tup {d : DE} {env e : Ev} {xs : List D} (h : d env = some (.fresh (.lst xs), e)) : dF1 semTuple d env = some (.val (.tup xs), e) := f1_ok h rfl rfl
theorem ret_val {d : DE} {env e : Ev} {x : D} (h : d env = some (.val x, e)) : dRet d env = some (.rt (.val x) e) := by
  show (d env).bind _ = _
  rw [h]
  rfl
theorem notV_eq {d : DE} {env e : Ev} {b : Bool} (h : d env = some (.val (.bl b), e)) : dNotV d env = some (.val (.bl (!b)), e) := by
  show ((d env).bind _).bind _ = _
  rw [h]
  rfl
theorem unlock_some {e0 : Ev} {j : Nat} : unlockE (some j) e0 (lockE (some j) e0) = e0 := by
  unfold unlockE lockE
  cases h : e0[j]? with
  | none => simp only [h]
  | some s =>
    have hl := (List.getElem?_eq_some_iff.mp h)
    cases s with
    | own d => simp only [h, List.set_set]; rw [← hl.2]; exact List.set_getElem_self hl.1
    | io d => simp only [h, List.set_set]; rw [← hl.2]; exact List.set_getElem_self hl.1
    | _ => simp only [h]
theorem fallen_ok (cs : List (List Int)) (hl : cs.length ≤ 1000) (h : Int) : f_fallen [.val (eC cs), .val (.int h)] = some (.val (eT (iN (places cs fun c => decide (h ∈ c)))), []) := by
  have := lc_places hl [.val (eC cs), .val (.int h), .un] (fun c => decide (h ∈ c)) (di := iRg1 (dF1 semLen (dVar 0))) (i := 2) (dt := dTest (dBin semIn (dVar 1) (dBin semIx (dVar 0) (dVar 2)))) (env := [.val (eC cs), .val (.int h), .un])
    (iRg1_nat (n := cs.length) (by simp [eC]; rfl) rfl (by omega)) (by show 2 < 3; decide) (fun j c hc => by simp [ix_eC hc, in_eT])
  exact runF_rt (e := [.val (eC cs), .val (.int h), .un]) (ret_val (f1_tup this)) rfl rfl

theorem blsOf_map (xs : List Bool) : blsOf (xs.map .bl) = some xs := by
  induction xs with
  | nil => rfl
  | cons x xs ih => show (blsOf (xs.map .bl)).bind _ = _; rw [ih]; rfl
theorem intsOf_eI (xs : List Int) : intsOf (eI xs) = some xs := by
  induction xs with
  | nil => rfl
  | cons x xs ih => show (intsOf (eI xs)).bind _ = _; rw [ih]; rfl
theorem in_comp (card hs : List Int) (hl : hs.length ≤ 1000) : dLc (iVar 1) [2] (.name 2) dYes (dBin semIn (dVar 2) (dVar 0)) [.val (eT card), .val (eT hs), .un] = some (.fresh (.lst ((hs.map fun h => decide (h ∈ card)).map .bl)), [.val (eT card), .val (eT hs), .un]) := by
  have := lc_pure (enc := D.int) (enc' := D.bl) (xs := hs) [.val (eT card), .val (eT hs), .un] (fun _ => true) (fun h => decide (h ∈ card)) (di := iVar 1) (i := 2) (dt := dYes) (de := dBin semIn (dVar 2) (dVar 0)) (env := [.val (eT card), .val (eT hs), .un]) (u := none) rfl rfl (by show 2 < 3; decide) rfl (by show _ ≤ 16777216; omega) (fun x _ => ⟨rfl, fun _ => by simp [in_eT]⟩)
  rw [List.filter_eq_self.mpr (fun _ _ => rfl)] at this
  exact this
theorem has_all_ok (card hs : List Int) (hl : hs.length ≤ 1000) : f_has_all [.val (eT card), .val (eT hs)] = some (.val (.bl (hs.all fun h => decide (h ∈ card))), []) := by
  refine runF_rt (e := [.val (eT card), .val (eT hs), .un]) (ret_val (f1_ok (in_comp card hs hl) rfl ?_)) rfl rfl
  show (blsOf _).bind _ = _
  rw [blsOf_map]
  show some (Rs.val (D.bl ((hs.map fun h => decide (h ∈ card)).all id))) = _
  rw [List.all_map]
  rfl
theorem has_none_ok (card hs : List Int) (hl : hs.length ≤ 1000) : f_has_none [.val (eT card), .val (eT hs)] = some (.val (.bl (!(hs.any fun h => decide (h ∈ card)))), []) := by
  refine runF_rt (e := [.val (eT card), .val (eT hs), .un]) (ret_val ?_) rfl rfl
  have : dF1 semAny (dLc (iVar 1) [2] (.name 2) dYes (dBin semIn (dVar 2) (dVar 0))) [.val (eT card), .val (eT hs), .un] = some (.val (.bl (hs.any fun h => decide (h ∈ card))), [.val (eT card), .val (eT hs), .un]) := by
    refine f1_ok (in_comp card hs hl) rfl ?_
    show (blsOf _).bind _ = _
    rw [blsOf_map]
    show some (Rs.val (D.bl ((hs.map fun h => decide (h ∈ card)).any id))) = _
    rw [List.any_map]
    rfl
  exact notV_eq this
/-- a comprehension over a list of numbers of cards that the frame holds at slot s -/
theorem lc_held {cs : List (List Int)} {js : List Nat} (hl : js.length ≤ 1000) (hj : ∀ j ∈ js, j < cs.length) (L : Ev) (p : List Int → Bool) {s i : Nat} {dt : DT} {env : Ev} (h1 : env[s]? = some (.own (.lst (eI (iN js))))) (hL : lockE (some s) env = L) (hi : i < env.length)
    (hs : ∀ (j : Nat) (c : List Int), cs[j]? = some c → dt (L.set i (.val (.int (j : Int)))) = some (p c, L.set i (.val (.int (j : Int))))) :
    dLc (iVar s) [i] (.name i) dt (dVar i) env = some (.fresh (.lst (eI (iN (js.filter fun j => p (cs.getD j []))))), env) := by
  have hL' : i < L.length := by rw [← hL, length_lock]; exact hi
  have := lc_pure (enc := fun n : Nat => D.int (n : Int)) (enc' := fun n : Nat => D.int (n : Int)) (xs := js) L (fun j => p (cs.getD j [])) id (di := iVar s) (i := i) (dt := dt) (de := dVar i) (env := env) (e0 := env) (u := some s) (by unfold iVar; rw [h1, map_iN]) hL hi (by rw [← hL]; exact unlock_some) (by show _ ≤ 16777216; omega) (fun x hx => by
    refine ⟨hs x _ (getD_of (hj x hx)), fun _ => ?_⟩
    have g : (L.set i (.val (.int (x : Int))))[i]? = some (.val (.int (x : Int))) := by rw [List.getElem?_set_self hL']
    simp only [dVal, dVar]
    rw [g]
    rfl)
  rw [this, List.map_id, map_iN]
theorem places_len (cs : List (List Int)) (p : List Int → Bool) : (places cs p).length ≤ cs.length := by
  refine Nat.le_trans (List.length_filter_le _ _) ?_
  rw [List.length_range]
  exact Nat.le_refl _
theorem places_lt {cs : List (List Int)} {p : List Int → Bool} {j : Nat} (h : j ∈ places cs p) : j < cs.length := List.mem_range.mp (List.mem_filter.mp h).1
theorem needled_ok (cs : List (List Int)) (hl : cs.length ≤ 1000) (as ns : List Int) (ha : as.length ≤ 1000) (hn : ns.length ≤ 1000) : f_needled [.val (eC cs), .val (eT as), .val (eT ns)] = some (.val (eT (iN (places cs fun c => (as.all fun h => decide (h ∈ c)) && !(ns.any fun h => decide (h ∈ c))))), []) := by
  let p1 : List Int → Bool := fun c => as.all fun h => decide (h ∈ c)
  let p2 : List Int → Bool := fun c => !(ns.any fun h => decide (h ∈ c))
  have s1 := lc_places hl [.val (eC cs), .val (eT as), .val (eT ns), .un, .un] p1 (di := iRg1 (dF1 semLen (dVar 0))) (i := 4) (dt := dTest (dCall f_has_all (dCons (dVal (dBin semIx (dVar 0) (dVar 4))) (dCons (dVal (dVar 1)) dNil)))) (env := [.val (eC cs), .val (eT as), .val (eT ns), .un, .un])
    (iRg1_nat (n := cs.length) (by simp [eC]; rfl) rfl (by omega)) (by show 4 < 5; decide) (fun j c hc => by simp [ix_eC hc, has_all_ok c as ha, p1])
  have s2 := lc_held (cs := cs) (js := places cs p1) (Nat.le_trans (places_len _ _) hl) (fun j hj => places_lt hj) [.val (eC cs), .val (eT as), .val (eT ns), .lk (.lst (eI (iN (places cs p1)))), .un] p2 (s := 3) (i := 4) (dt := dTest (dCall f_has_none (dCons (dVal (dBin semIx (dVar 0) (dVar 4))) (dCons (dVal (dVar 2)) dNil)))) (env := [.val (eC cs), .val (eT as), .val (eT ns), .own (.lst (eI (iN (places cs p1)))), .un])
    rfl rfl (by show 4 < 5; decide) (fun j c hc => by simp [ix_eC hc, has_none_ok c ns hn, p2])
  have e : (places cs p1).filter (fun j => p2 (cs.getD j [])) = places cs (fun c => p1 c && p2 c) := by
    unfold places
    rw [List.filter_filter]
    refine List.filter_congr fun x _ => ?_
    rw [Bool.and_comm]
  rw [e] at s2
  exact runF_rt (e := [.val (eC cs), .val (eT as), .val (eT ns), .own (.lst (eI (iN (places cs p1)))), .un]) (seq_ok (asg_eq s1 rfl) (ret_val (f1_tup s2))) rfl rfl
theorem cMul_b {i j : Int} (h : i.natAbs < 1000000000000000000000000000000000000000000000000000000000000) (h2 : j.natAbs < 2000000000000000000000000000000000000000000000000000000000000) : cMul i j = true := by
  have lt : (2000000000000000000000000000000000000000000000000000000000000 : Nat) < 2 ^ 400000 := Nat.lt_of_lt_of_le (show _ < 2 ^ 250 by decide) (Nat.pow_le_pow_right (by decide) (by decide))
  exact cMul_w (Nat.lt_trans (Nat.lt_trans h (by decide)) lt) (Nat.lt_trans h2 lt)
theorem two_ok (h : Int) (hb : h.natAbs < 1000000000000000000000000000000000000000000000000000000000000) : f_two_of [.val (.int h)] = some (.val (.int (h * (h - 1) / 2)), []) := by
  have m := semMul_int (i := h) (j := h - 1) (cMul_b hb (by omega))
  have d := fdivI_int (i := h * (h - 1)) (j := 2) (by decide)
  refine runF_rt (e := [.val (.int h)]) (ret_val ?_) rfl rfl
  have cd : cDiv 2 = true := by decide
  simp [m, cd]

/-! ### needles -/
def go (many : Int) : Nat → Nat → Nat
  | 0, h => h
  | n + 1, h => if (2 : Int) ^ h < many then go many n (h + 1) else h
theorem pow_dbl (h : Nat) : (2 : Int) ^ h * 2 = 2 ^ (h + 1) := (Int.pow_succ 2 h).symm
theorem wh_true {t : DT} {db : DS} {n : Nat} {e e1 e2 : Ev} (h : t e = some (true, e1)) (k : db e1 = some (.nx e2)) : whileN t db (n + 1) e = whileN t db n e2 := by
  show (t e).bind _ = _
  rw [h]
  show (db e1).bind _ = _
  rw [k]
  rfl
theorem wh_false {t : DT} {db : DS} {n : Nat} {e e1 : Ev} (h : t e = some (false, e1)) : whileN t db (n + 1) e = some (.nx e1) := by
  show (t e).bind _ = _
  rw [h]
  rfl
def tNf : DT := dTest (dBin semLt (dVar 2) (dVar 0))
def sNf : DS := dPar [1, 2] (dCons (dVal (dBin semAdd (dVar 1) (dC (.int 1)))) (dCons (dVal (dBin semMul (dVar 2) (dC (.int 2)))) dNil))
theorem tNf_eq (m h t : Int) : tNf [.val (.int m), .val (.int h), .val (.int t)] = some (decide (t < m), [.val (.int m), .val (.int h), .val (.int t)]) := by simp [tNf]
theorem sNf_eq (m h t : Int) : sNf [.val (.int m), .val (.int h), .val (.int t)] = some (.nx [.val (.int m), .val (.int (h + 1)), .val (.int (t * 2))]) := by
  have e := semMul_int (i := t) (j := 2) (cMul_r (by decide))
  simp [sNf, e]
def stN (m : Int) (h : Nat) : Ev := [.val (.int m), .val (.int (h : Int)), .val (.int (2 ^ h))]
theorem sNf_st (m : Int) (h : Nat) : sNf (stN m h) = some (.nx (stN m (h + 1))) := by
  unfold stN
  rw [sNf_eq, pow_dbl]
  rfl
theorem tNf_st (m : Int) (h : Nat) : tNf (stN m h) = some (decide (2 ^ h < m), stN m h) := tNf_eq _ _ _
theorem wh_ok (many : Int) : ∀ (n h fuel : Nat), n < fuel → many ≤ 2 ^ (h + n) → whileN tNf sNf fuel (stN many h) = some (.nx (stN many (go many n h))) := by
  intro n
  induction n with
  | zero =>
    intro h fuel hf hm
    obtain ⟨f, rfl⟩ : ∃ f, fuel = f + 1 := ⟨fuel - 1, by omega⟩
    have hm : ¬ (2 : Int) ^ h < many := Int.not_lt.mpr hm
    have c := tNf_st many h
    rw [decide_eq_false hm] at c
    exact wh_false c
  | succ n ih =>
    intro h fuel hf hm
    obtain ⟨f, rfl⟩ : ∃ f, fuel = f + 1 := ⟨fuel - 1, by omega⟩
    have c := tNf_st many h
    by_cases hlt : (2 : Int) ^ h < many
    · rw [decide_eq_true hlt] at c
      have e : go many (n + 1) h = go many n (h + 1) := if_pos hlt
      rw [wh_true c (sNf_st many h), e]
      exact ih (h + 1) f (by omega) (by rw [show h + 1 + n = h + (n + 1) by omega]; exact hm)
    · rw [decide_eq_false hlt] at c
      have e : go many (n + 1) h = h := if_neg hlt
      rw [e]
      exact wh_false c
theorem needles_ok (many : Int) (hm : many ≤ 2 ^ 100) : f_needles_for [.val (.int many)] = some (.val (.int (go many 100 0 : Nat)), []) := by
  have w : dWh tNf sNf (stN many 0) = some (.nx (stN many (go many 100 0))) := wh_ok many 100 0 1099511627776 (by decide) (by rw [Nat.zero_add]; exact hm)
  exact runF_rt (e := stN many (go many 100 0)) (seq_ok (e := stN many 0) rfl (seq_ok w (ret_val rfl))) rfl rfl
/-! ### bits -/
/-- the holes below n of a code -/
def bits (code : Int) (n : Nat) : List Nat := (List.range n).filter fun j => decide (code / 2 ^ j % 2 = 1)
theorem bits_succ (code : Int) (n : Nat) : bits code (n + 1) = bits code n ++ (if code / 2 ^ n % 2 = 1 then [n] else []) := by
  unfold bits
  rw [List.range_succ, List.filter_append]
  congr 1
  by_cases h : code / 2 ^ n % 2 = 1
  · simp [h]
  · simp [h]
theorem holes_of_ok (code : Int) (n : Nat) (hn : n ≤ 1000) : f_holes_of [.val (.int code), .val (.int (n : Int))] = some (.val (eT (iN (bits code n))), []) := by
  obtain ⟨e, h1, lv, rfl⟩ := for_rel (enc := fun n : Nat => D.int (n : Int)) (xs := List.range n) (di := iRg1 (dVar 1)) (t := .name 3) (db := (dSeq (dIfS (dTest (dBin semEq (dBin modI (dVar 0) (dC (.int 2))) (dC (.int 1)))) (dAsg 2 (dBin semAug (dVar 2) (dTup (dCons (dVal (dVar 3)) dNil)))) dNext) (dAsg 0 (dBin fdivI (dVar 0) (dC (.int 2))))))
    (env := [.val (.int code), .val (.int (n : Int)), .val (eT []), .un]) (e0 := [.val (.int code), .val (.int (n : Int)), .val (eT []), .un]) (u := none)
    (R := fun k e => ∃ lv : Option D, e = [.val (.int (code / 2 ^ k)), .val (.int (n : Int)), .val (eT (iN (bits code k))), oD lv]) (iRg1_nat rfl rfl (by omega)) ⟨none, by simp [lockE, bits, iN]⟩ (fun i x e hx ⟨lv, he⟩ => by
      subst he
      obtain rfl : x = i := by
        have := (List.getElem?_eq_some_iff.mp hx).2
        simpa using this.symm
      have hi : x < n := by have := (List.getElem?_eq_some_iff.mp hx).1; simpa using this
      have cd : cDiv 2 = true := by decide
      have ed : code / 2 ^ x / 2 = code / 2 ^ (x + 1) := by rw [Int.pow_succ, Int.ediv_ediv_of_nonneg (Int.pow_nonneg (by decide))]
      refine ⟨[.val (.int (code / 2 ^ x)), .val (.int (n : Int)), .val (eT (iN (bits code x))), .val (.int (x : Int))], by simp [setT, putv], [.val (.int (code / 2 ^ (x + 1))), .val (.int (n : Int)), .val (eT (iN (bits code (x + 1)))), .val (.int (x : Int))], .inl ?_, some (.int x), rfl⟩
      rw [bits_succ]
      by_cases h : code / 2 ^ x % 2 = 1
      · have hl : ((iN (bits code x)).length + 1 ≤ LN) = True := eq_true (by
          have : (iN (bits code x)).length ≤ n := by
            unfold iN bits
            rw [List.length_map]
            refine Nat.le_trans (List.length_filter_le _ _) ?_
            rw [List.length_range]; omega
          show _ ≤ 16777216
          omega)
        have l1 : (1 ≤ LN) = True := eq_true (by decide)
        have ap : eI (iN (bits code x)) ++ [.int (x : Int)] = eI (iN (bits code x ++ [x])) := by unfold eI iN; simp
        rw [if_pos h]
        simp [h, cd, ed, eT, addT, l1, eI_len, hl, ap]
      · rw [if_neg h, List.append_nil]
        simp [h, cd, ed])
  rw [List.length_range] at h1
  refine runF_rt (e := [.val (.int (code / 2 ^ n)), .val (.int (n : Int)), .val (eT (iN (bits code n))), oD lv]) (seq_ok (e := [.val (.int code), .val (.int (n : Int)), .val (eT []), .un]) ?_ (seq_ok h1 (ret_val ?_))) rfl rfl
  · rfl
  · rfl

/-! ### sorting by needles -/
def crd (codes : List Int) (n : Nat) : List (List Int) := codes.map fun c => iN (bits c n)
def bitOf (codes : List Int) (n k j : Nat) : Bool := decide ((k : Int) ∈ (crd codes n).getD j [])
def rdx (codes : List Int) (n : Nat) : Nat → List Nat
  | 0 => List.range codes.length
  | k + 1 => (rdx codes n k).filter (fun j => !bitOf codes n k j) ++ (rdx codes n k).filter (fun j => bitOf codes n k j)
theorem rdx_perm (codes : List Int) (n : Nat) : ∀ k, (rdx codes n k).Perm (List.range codes.length)
  | 0 => List.Perm.refl _
  | k + 1 => by
    have h : ((rdx codes n k).filter (fun j => !bitOf codes n k j) ++ (rdx codes n k).filter (fun j => bitOf codes n k j)).Perm (rdx codes n k) :=
      List.perm_append_comm.trans (List.filter_append_perm (fun j => bitOf codes n k j) _)
    exact h.trans (rdx_perm codes n k)
theorem mem_bits {code : Int} {n k : Nat} (h : k < n) : ((k : Int) ∈ iN (bits code n)) ↔ code / 2 ^ k % 2 = 1 := by
  unfold iN bits
  rw [List.mem_map]
  constructor
  · rintro ⟨a, ha, e⟩
    obtain rfl : a = k := by omega
    exact of_decide_eq_true (List.mem_filter.mp ha).2
  · intro e
    exact ⟨k, List.mem_filter.mpr ⟨List.mem_range.mpr h, decide_eq_true e⟩, rfl⟩
def keyK (codes : List Int) (k j : Nat) : Int := codes.getD j 0 % 2 ^ k
theorem mod_succ (c : Int) (k : Nat) : c % 2 ^ (k + 1) = c % 2 ^ k + 2 ^ k * (c / 2 ^ k % 2) := by
  have p0 : (0 : Int) < 2 ^ k := Int.pow_pos (by decide)
  have h1 := Int.emod_add_mul_ediv c (2 ^ k)
  have h2 := Int.emod_add_mul_ediv (c / 2 ^ k) 2
  have r0 := Int.emod_nonneg c (b := 2 ^ k) (by omega)
  have r1 := Int.emod_lt_of_pos c p0
  have b0 := Int.emod_nonneg (c / 2 ^ k) (b := 2) (by decide)
  have b1 := Int.emod_lt_of_pos (c / 2 ^ k) (b := 2) (by decide)
  generalize c % 2 ^ k = r at *
  generalize hq : c / 2 ^ k = q at *
  generalize q % 2 = b at *
  generalize q / 2 = q2 at *
  have e : c = (r + 2 ^ k * b) + 2 ^ (k + 1) * q2 := by
    rw [Int.pow_succ, ← h1, ← h2]
    generalize (2 : Int) ^ k = T
    rw [Int.mul_add, Int.mul_assoc, Int.add_assoc]
  rw [e, Int.add_mul_emod_self_left]
  have p1 : (2 : Int) ^ (k + 1) = 2 ^ k * 2 := Int.pow_succ _ _
  have b01 : b = 0 ∨ b = 1 := by omega
  rcases b01 with rfl | rfl
  · rw [Int.mul_zero, Int.add_zero]; exact Int.emod_eq_of_lt r0 (by omega)
  · rw [Int.mul_one]; exact Int.emod_eq_of_lt (by omega) (by omega)
theorem bitOf_iff {codes : List Int} {n k j : Nat} (h : k < n) (hj : j < codes.length) : bitOf codes n k j = decide (codes.getD j 0 / 2 ^ k % 2 = 1) := by
  unfold bitOf crd
  have e : (codes.map fun c => iN (bits c n)).getD j [] = iN (bits (codes.getD j 0) n) := by
    rw [List.getD_eq_getElem?_getD, List.getD_eq_getElem?_getD, List.getElem?_map, List.getElem?_eq_getElem hj]
    rfl
  rw [e, Bool.eq_iff_iff, decide_eq_true_iff, decide_eq_true_iff]
  exact mem_bits h
theorem rdx_srt (codes : List Int) (n : Nat) : ∀ k, k ≤ n → (rdx codes n k).Pairwise fun a b => lexLe (keyK codes k a, (a : Int)) (keyK codes k b, (b : Int)) = true
  | 0, _ => by
    refine (List.pairwise_lt_range (n := codes.length)).imp fun {a b} h => ?_
    rw [lexLe_iff]
    right
    refine ⟨?_, by show (a : Int) ≤ b; omega⟩
    show codes.getD a 0 % 2 ^ 0 = codes.getD b 0 % 2 ^ 0
    rw [Int.pow_zero, Int.emod_one, Int.emod_one]
  | k + 1, h => by
    have ih := rdx_srt codes n k (by omega)
    have lt : ∀ j ∈ rdx codes n k, j < codes.length := fun j hj => List.mem_range.mp ((rdx_perm codes n k).mem_iff.mp hj)
    have key0 : ∀ j ∈ rdx codes n k, bitOf codes n k j = false → keyK codes (k + 1) j = keyK codes k j := fun j hj e => by
      rw [bitOf_iff (by omega) (lt j hj)] at e
      have e := of_decide_eq_false e
      unfold keyK
      rw [mod_succ]
      have : codes.getD j 0 / 2 ^ k % 2 = 0 := by omega
      rw [this, Int.mul_zero, Int.add_zero]
    have key1 : ∀ j ∈ rdx codes n k, bitOf codes n k j = true → keyK codes (k + 1) j = keyK codes k j + 2 ^ k := fun j hj e => by
      rw [bitOf_iff (by omega) (lt j hj)] at e
      have e := of_decide_eq_true e
      unfold keyK
      rw [mod_succ, e, Int.mul_one]
    have up : ∀ j, keyK codes k j < 2 ^ k ∧ 0 ≤ keyK codes k j := fun j => ⟨Int.emod_lt_of_pos _ (Int.pow_pos (by decide)), Int.emod_nonneg _ (Int.ne_of_gt (Int.pow_pos (by decide)))⟩
    refine List.pairwise_append.mpr ⟨?_, ?_, fun a ha b hb => ?_⟩
    · refine List.Pairwise.imp_of_mem (fun {a b} ha hb h => ?_) (ih.filter (fun j => !bitOf codes n k j))
      obtain ⟨ma, ea⟩ := List.mem_filter.mp ha
      obtain ⟨mb, eb⟩ := List.mem_filter.mp hb
      rw [key0 a ma (by simpa using ea), key0 b mb (by simpa using eb)]
      exact h
    · refine List.Pairwise.imp_of_mem (fun {a b} ha hb h => ?_) (ih.filter (fun j => bitOf codes n k j))
      obtain ⟨ma, ea⟩ := List.mem_filter.mp ha
      obtain ⟨mb, eb⟩ := List.mem_filter.mp hb
      rw [key1 a ma ea, key1 b mb eb]
      rw [lexLe_iff] at h ⊢
      dsimp only at h ⊢
      omega
    · obtain ⟨ma, ea⟩ := List.mem_filter.mp ha
      obtain ⟨mb, eb⟩ := List.mem_filter.mp hb
      rw [key0 a ma (by simpa using ea), key1 b mb eb, lexLe_iff]
      have := up a
      have := up b
      left
      dsimp only
      omega
theorem rdx_sort (codes : List Int) (n : Nat) : (((List.range codes.length).map fun j => (codes.getD j 0 % 2 ^ n, (j : Int))).mergeSort lexLe).map (·.2) = iN (rdx codes n n) := by
  have h := sort_pr (l := (rdx codes n n).map fun j => (keyK codes n j, (j : Int))) (m := (List.range codes.length).map fun j => (codes.getD j 0 % 2 ^ n, (j : Int))) ((rdx_perm codes n n).map _) (List.pairwise_map.mpr (rdx_srt codes n n (Nat.le_refl n)))
  rw [← h, List.map_map]
  rfl
end G62
set_option Elab.async false
set_option linter.all false
set_option maxRecDepth 100000
namespace G62
open PySem PySem.Spec L2 VL
theorem cons_ok {d : DE} {ds : DA} {env e e2 : Ev} {r : Rs} {rs : List Rs} (h : d env = some (r, e)) (k : ds e = some (rs, e2)) : dCons d ds env = some (r :: rs, e2) := by
  show (d env).bind _ = _
  rw [h]
  show (ds e).bind _ = _
  rw [k]
  rfl
theorem call_eq {fn : Fn} {da : DA} {env e e' : Ev} {rs : List Rs} {as : List Ar} {r : Rs} {outs : List D} (h : da env = some (rs, e)) (h2 : mkArs e rs = some as) (h3 : (slotsOf rs).Nodup) (h4 : fn as = some (r, outs)) (h5 : putOuts (slotsOf rs) outs e = some e') : dCall fn da env = some (r, e') := by
  show (da env).bind _ = _
  rw [h]
  show (mkArs e rs).bind _ = _
  rw [h2]
  show (if (slotsOf rs).Nodup then _ else _) = _
  rw [if_pos h3, h4]
  show (putOuts (slotsOf rs) outs e).bind _ = _
  rw [h5]
  rfl
theorem call1 {fn : Fn} {a : DE} {env e : Ev} {x : D} {r : Rs} (ha : a env = some (.val x, e)) (h : fn [.val x] = some (r, [])) : dCall fn (dCons a dNil) env = some (r, e) :=
  call_eq (cons_ok ha rfl) rfl List.nodup_nil h rfl
theorem call2 {fn : Fn} {a b : DE} {env e e2 : Ev} {x y : D} {r : Rs} (ha : a env = some (.val x, e)) (hb : b e = some (.val y, e2)) (h : fn [.val x, .val y] = some (r, [])) : dCall fn (dCons a (dCons b dNil)) env = some (r, e2) :=
  call_eq (cons_ok ha (cons_ok hb rfl)) rfl List.nodup_nil h rfl
theorem call3 {fn : Fn} {a b c : DE} {env e e2 e3 : Ev} {x y z : D} {r : Rs} (ha : a env = some (.val x, e)) (hb : b e = some (.val y, e2)) (hc : c e2 = some (.val z, e3)) (h : fn [.val x, .val y, .val z] = some (r, [])) : dCall fn (dCons a (dCons b (dCons c dNil))) env = some (r, e3) :=
  call_eq (cons_ok ha (cons_ok hb (cons_ok hc rfl))) rfl List.nodup_nil h rfl
theorem val_val {d : DE} {env e : Ev} {x : D} (h : d env = some (.val x, e)) : dVal d env = some (.val x, e) := by
  show (d env).bind _ = _
  rw [h]
  rfl
theorem val_fresh {d : DE} {env e : Ev} {x : D} (h : d env = some (.fresh x, e)) (nd : x.nd = true) : dVal d env = some (.val x, e) := by
  show (d env).bind _ = _
  rw [h]
  show (if x.nd = true then some (x, e) else none).bind _ = _
  rw [if_pos nd]
  rfl
theorem test_eq {d : DE} {env e : Ev} {b : Bool} (h : d env = some (.val (.bl b), e)) : dTest d env = some (b, e) := by
  show (d env).bind _ = _
  rw [h]
  rfl
theorem addL_eq {a b : List D} (h : a.length + b.length ≤ LN) : semAdd (.lst a) (.lst b) = some (.fresh (.lst (a ++ b))) := by
  show (if a.length + b.length ≤ LN then _ else _) = _
  rw [if_pos h]
theorem bin_ok {sem : D → D → Option Rs} {a b : DE} {env e e2 : Ev} {r r2 o : Rs} {x y : D} (h : a env = some (r, e)) (h2 : b e = some (r2, e2)) (h3 : r.data e2 = some x) (h4 : r2.data e2 = some y) (h5 : sem x y = some o) : dBin sem a b env = some (o, e2) := by
  show (a env).bind _ = _
  rw [h]
  show (b e).bind _ = _
  rw [h2]
  show (r.data e2).bind _ = _
  rw [h3]
  show (r2.data e2).bind _ = _
  rw [h4]
  show (sem x y).bind _ = _
  rw [h5]
  rfl
theorem listR_eq {dr : DR} {env e : Ev} {m n : Int} (h : dr env = some (m, n, e)) (ok : rgOk m n) : dListR dr env = some (.fresh (.lst (rgs m (n - m).toNat)), e) := by
  simp only [dListR, h, Option.bind_some, if_pos ok]
theorem rgOk_nat {n : Nat} (hn : n ≤ 16777216) : rgOk 0 (n : Int) := by
  unfold rgOk smallI
  omega
theorem listR_nat {dr : DR} {env e : Ev} {n : Nat} (h : dr env = some (0, (n : Int), e)) (hn : n ≤ 16777216) : dListR dr env = some (.fresh (.lst (eI (iN (List.range n)))), e) := by
  have z := listR_eq h (rgOk_nat hn)
  have e1 : ((n : Int) - 0).toNat = n := by omega
  rw [e1, rgs_nat, map_iN] at z
  exact z
theorem r1_ok {d : DE} {env e : Ev} {r : Rs} {n : Int} (h : d env = some (r, e)) (h2 : r.data e = some (.int n)) : dR1 d env = some (0, n, e) := by
  show (d env).bind _ = _
  rw [h]
  show (r.data e).bind _ = _
  rw [h2]
  rfl
def eB (codes : List Int) (n k : Nat) (hv : Option D) (st : Sl) : Ev := [.val (eT codes), .val (.int (n : Int)), .own (.lst ((crd codes n).map eT)), .own (.lst (eI (iN (rdx codes n k)))), oD hv, st, .un, .un]
theorem sorted_ok (codes : List Int) (hl : codes.length ≤ 1000) (n : Nat) (hn : n ≤ 1000) : f_sorted_by_needles [.val (eT codes), .val (.int (n : Int))] = some (.val (eT (iN (rdx codes n n))), []) := by
  have s1 := lc_pure (enc := D.int) (enc' := eT) (xs := codes) [.val (eT codes), .val (.int (n : Int)), .un, .un, .un, .un, .un, .un] (fun _ => true) (fun c => iN (bits c n)) (di := iVar 0) (i := 6) (dt := dYes) (de := dCall f_holes_of (dCons (dVal (dVar 6)) (dCons (dVal (dVar 1)) dNil))) (env := [.val (eT codes), .val (.int (n : Int)), .un, .un, .un, .un, .un, .un]) (u := none) rfl rfl (by show 6 < 8; decide) rfl (by show _ ≤ 16777216; omega) (fun x _ => ⟨rfl, fun _ => val_val (call2 rfl rfl (holes_of_ok x n hn))⟩)
  rw [List.filter_eq_self.mpr (fun _ _ => rfl)] at s1
  have cl : ((crd codes n).map eT).length = codes.length := by unfold crd; rw [List.length_map, List.length_map]
  have s2 : dAsg 3 (dListR (dR1 (dF1 semLen (dVar 2)))) [.val (eT codes), .val (.int (n : Int)), .own (.lst ((crd codes n).map eT)), .un, .un, .un, .un, .un] = some (.nx (eB codes n 0 none .un)) := by
    have lc0 : semLen [.lst ((crd codes n).map eT)] = some (.val (.int (codes.length : Nat))) := by
      show some (Rs.val (.int (((crd codes n).map eT).length : Nat))) = _
      rw [cl]
    exact asg_eq (listR_nat (n := codes.length) (r1_ok (f1_ok (r := .slot 2) (o := .val (.int (codes.length : Nat))) rfl rfl lc0) rfl) (by omega)) rfl
  have ol : ∀ k, (rdx codes n k).length = codes.length := fun k => by rw [(rdx_perm codes n k).length_eq, List.length_range]
  obtain ⟨e, s3, hv, st, _, rfl⟩ := for_rel (enc := fun n : Nat => D.int (n : Int)) (xs := List.range n) (di := iRg1 (dVar 1)) (t := .name 4)
    (db := (dSeq (dAsg 5 (dLc (iVar 3) [7] (.name 7) (dTest (dBin semNotIn (dVar 4) (dBin semIx (dVar 2) (dVar 7)))) (dVar 7))) (dAsg 3 (dBin semAdd (dVar 5) (dLc (iVar 3) [7] (.name 7) (dTest (dBin semIn (dVar 4) (dBin semIx (dVar 2) (dVar 7)))) (dVar 7))))))
    (env := eB codes n 0 none .un) (e0 := eB codes n 0 none .un) (u := none)
    (R := fun k e => ∃ (hv : Option D) (st : Sl), st.free = true ∧ e = eB codes n k hv st) (iRg1_nat rfl rfl (by omega)) ⟨none, .un, rfl, rfl⟩ (fun i x e hx ⟨hv, st, hst, he⟩ => by
      subst he
      obtain rfl : x = i := by
        have := (List.getElem?_eq_some_iff.mp hx).2
        simpa using this.symm
      have lt : ∀ j ∈ rdx codes n x, j < (crd codes n).length := fun j hj => by
        have := List.mem_range.mp ((rdx_perm codes n x).mem_iff.mp hj)
        unfold crd; rw [List.length_map]; exact this
      have ix : ∀ (j : Nat) (c : List Int), (crd codes n)[j]? = some c → semIx (.lst ((crd codes n).map eT)) (.int (j : Int)) = some (.val (eT c)) := fun j c hc => ix_lst (by rw [List.getElem?_map, hc]; rfl)
      have t1 := lc_held (cs := crd codes n) (js := rdx codes n x) (by rw [ol]; exact hl) lt [.val (eT codes), .val (.int (n : Int)), .own (.lst ((crd codes n).map eT)), .lk (.lst (eI (iN (rdx codes n x)))), .val (.int (x : Int)), st, .un, .un] (fun c => !decide ((x : Int) ∈ c)) (s := 3) (i := 7) (dt := dTest (dBin semNotIn (dVar 4) (dBin semIx (dVar 2) (dVar 7)))) (env := eB codes n x (some (.int (x : Int))) st) rfl rfl (by show 7 < 8; decide) (fun j c hc => by simp [ix j c hc, notIn_eT])
      have t2 := lc_held (cs := crd codes n) (js := rdx codes n x) (by rw [ol]; exact hl) lt [.val (eT codes), .val (.int (n : Int)), .own (.lst ((crd codes n).map eT)), .lk (.lst (eI (iN (rdx codes n x)))), .val (.int (x : Int)), .own (.lst (eI (iN ((rdx codes n x).filter fun j => !bitOf codes n x j)))), .un, .un] (fun c => decide ((x : Int) ∈ c)) (s := 3) (i := 7) (dt := dTest (dBin semIn (dVar 4) (dBin semIx (dVar 2) (dVar 7)))) (env := eB codes n x (some (.int (x : Int))) (.own (.lst (eI (iN ((rdx codes n x).filter fun j => !bitOf codes n x j)))))) rfl rfl (by show 7 < 8; decide) (fun j c hc => by simp [ix j c hc, in_eT])
      have t1 : dLc (iVar 3) [7] (.name 7) (dTest (dBin semNotIn (dVar 4) (dBin semIx (dVar 2) (dVar 7)))) (dVar 7) (eB codes n x (some (.int (x : Int))) st) = some (.fresh (.lst (eI (iN ((rdx codes n x).filter fun j => !bitOf codes n x j)))), eB codes n x (some (.int (x : Int))) st) := t1
      have t2 : dLc (iVar 3) [7] (.name 7) (dTest (dBin semIn (dVar 4) (dBin semIx (dVar 2) (dVar 7)))) (dVar 7) (eB codes n x (some (.int (x : Int))) (.own (.lst (eI (iN ((rdx codes n x).filter fun j => !bitOf codes n x j)))))) = some (.fresh (.lst (eI (iN ((rdx codes n x).filter fun j => bitOf codes n x j)))), eB codes n x (some (.int (x : Int))) (.own (.lst (eI (iN ((rdx codes n x).filter fun j => !bitOf codes n x j)))))) := t2
      refine ⟨eB codes n x (some (.int (x : Int))) st, by simp [setT, putv, eB], _, .inl (seq_ok (e := eB codes n x (some (.int (x : Int))) (.own (.lst (eI (iN ((rdx codes n x).filter fun j => !bitOf codes n x j)))))) (asg_eq t1 ?_) (asg_eq (r := .fresh (.lst (eI (iN (rdx codes n (x + 1)))))) (e := eB codes n x (some (.int (x : Int))) (.own (.lst (eI (iN ((rdx codes n x).filter fun j => !bitOf codes n x j)))))) (bin_ok (r := .slot 5) rfl t2 rfl rfl ?_) rfl)), some (.int (x : Int)), .own (.lst (eI (iN ((rdx codes n x).filter fun j => !bitOf codes n x j)))), rfl, rfl⟩
      · simp [put, eB, hst]
      · have fl : ∀ p : Nat → Bool, (eI (iN ((rdx codes n x).filter p))).length ≤ 1000 := fun p => by
          unfold eI iN
          rw [List.length_map, List.length_map]
          refine Nat.le_trans (List.length_filter_le _ _) ?_
          rw [ol]; exact hl
        have e1 := fl fun j => !bitOf codes n x j
        have e2 := fl fun j => bitOf codes n x j
        rw [addL_eq (Nat.le_trans (Nat.add_le_add e1 e2) (by decide))]
        show some (Rs.fresh (.lst _)) = some (Rs.fresh (.lst (eI (iN ((rdx codes n x).filter (fun j => !bitOf codes n x j) ++ (rdx codes n x).filter fun j => bitOf codes n x j)))))
        unfold eI iN
        rw [List.map_append, List.map_append])
  rw [List.length_range] at s3
  refine runF_rt (e := eB codes n n hv st) (seq_ok (asg_eq s1 rfl) (seq_ok s2 (seq_ok s3 (ret_val (f1_ok (r := .slot 3) rfl rfl rfl))))) rfl rfl
end G62
set_option Elab.async false
set_option linter.all false
set_option maxRecDepth 100000
namespace G62
open PySem PySem.Spec L2 VL
theorem same_eq : ∀ k, r__law_same k = rSameA k
  | 0 => rfl
  | k + 1 => by
    show runF 3 (b__law_same (r__law_same k)) = runF 3 (bSameA (rSameA k))
    rw [same_eq k]
    rfl
theorem same_ok {d : D} (h : d.gd 7 = true) : r__law_same 8 [.val d, .val d] = some (.val (.bl true), []) := by
  rw [same_eq]
  exact sameA_refl 7 d h
theorem gds_eI (xs : List Int) (n : Nat) : D.gds (eI xs) n = true := by
  induction xs with
  | nil => rfl
  | cons x xs ih =>
    show (D.gd (.int x) n && D.gds (eI xs) n) = true
    rw [ih, Bool.and_true]
    cases n <;> rfl
theorem gd_eT {xs : List Int} (h : xs.length ≤ 100000) : (eT xs).gd 7 = true := by
  show (decide ((eI xs).length ≤ LN) && D.gds (eI xs) 6) = true
  rw [gds_eI, Bool.and_true, eI_len]
  exact decide_eq_true (show _ ≤ 16777216 by omega)
/-- a check told of one and the same is passed -/
theorem same_call {a b : DE} {env e e2 : Ev} {d : D} (ha : a env = some (.val d, e)) (hb : b e = some (.val d, e2)) (h : d.gd 7 = true) : dCall (r__law_same 8) (dCons a (dCons b dNil)) env = some (.val (.bl true), e2) := call2 ha hb (same_ok h)
theorem notT_eq {t : DT} {env e : Ev} {b : Bool} (h : t env = some (b, e)) : dNotT t env = some (!b, e) := by
  show (t env).bind _ = _
  rw [h]
  rfl
theorem if_false' {t : DT} {a b : DS} {env e : Ev} (h : t env = some (false, e)) : dIfS t a b env = b e := by
  show (t env).bind _ = _
  rw [h]
  rfl
theorem if_true' {t : DT} {a b : DS} {env e : Ev} (h : t env = some (true, e)) : dIfS t a b env = a e := by
  show (t env).bind _ = _
  rw [h]
  rfl
theorem or_false' {t u : DT} {env e : Ev} (h : t env = some (false, e)) : dOrT t u env = u e := by
  show (t env).bind _ = _
  rw [h]
  rfl
theorem intsOf_pr (p : Int × Int) (ps : List (Int × Int)) : intsOf ((p :: ps).map prD) = none := rfl
theorem prsOf_map (ps : List (Int × Int)) : prsOf (ps.map prD) = some ps := by
  induction ps with
  | nil => rfl
  | cons p ps ih =>
    show (prOf (prD p)).bind _ = _
    show (some (p.1, p.2)).bind _ = _
    show (prsOf (ps.map prD)).bind _ = _
    rw [ih]
    rfl
theorem sort_prs (ps : List (Int × Int)) : semSort [.lst (ps.map prD)] = some (.fresh (.lst ((ps.mergeSort lexLe).map prD))) := by
  cases ps with
  | nil =>
    show some (Rs.fresh (D.lst ((([] : List Int).mergeSort leZ).map .int))) = some (Rs.fresh (.lst ((([] : List (Int × Int)).mergeSort lexLe).map prD)))
    rw [List.mergeSort_nil, List.mergeSort_nil]
    rfl
  | cons p ps =>
    show (match intsOf ((p :: ps).map prD) with
      | some is => some (Rs.fresh (.lst ((is.mergeSort leZ).map .int)))
      | none => (prsOf ((p :: ps).map prD)).bind fun ps => some (.fresh (.lst ((ps.mergeSort lexLe).map prD)))) = _
    rw [intsOf_pr, prsOf_map]
    rfl
theorem seq_fresh {d : DE} {env e : Ev} {xs : List D} (h : d env = some (.fresh (.lst xs), e)) : iSeq d env = some (xs, e, none) := by
  show (dVal d env).bind _ = _
  rw [val_fresh h rfl]
  rfl
theorem tup2 {a b : DE} {env e e2 : Ev} {x y : D} (ha : a env = some (.val x, e)) (hb : b e = some (.val y, e2)) : dTup (dCons a (dCons b dNil)) env = some (.val (.tup [x, y]), e2) := by
  show (dCons a (dCons b dNil) env).bind _ = _
  rw [cons_ok ha (cons_ok hb rfl)]
  show (if ([x, y] : List D).length ≤ LN then some (Rs.val (D.tup [x, y]), e2) else none) = _
  rw [if_pos (show ([x, y] : List D).length ≤ LN from (by decide : 2 ≤ LN))]
def eS (codes : List Int) (n : Nat) (t : Int) (h : Sl) : Ev := [.val (eT codes), .val (.int (n : Int)), .val (.int t), h, .un, .un, .un]
theorem dbl_eq (codes : List Int) (n : Nat) (t : Int) (h : Sl) : dAsg 2 (dBin semMul (dC (.int 2)) (dVar 2)) (eS codes n t h) = some (.nx (eS codes n (2 * t) h)) :=
  asg_eq (bin_ok rfl rfl rfl rfl (semMul_int (cMul_l (by decide)))) rfl
theorem law_sorted_ok (codes : List Int) (hl : codes.length ≤ 1000) (n : Nat) (hn : n ≤ 1000) : f__law_is_sorted_right [.val (eT codes), .val (.int (n : Int))] = some (.val (.bl true), []) := by
  obtain ⟨e, s2, lv, rfl⟩ := for_rel (enc := fun n : Nat => D.int (n : Int)) (xs := List.range n) (di := iRg1 (dVar 1)) (t := .name 3) (db := dAsg 2 (dBin semMul (dC (.int 2)) (dVar 2))) (env := eS codes n 1 .un) (e0 := eS codes n 1 .un) (u := none)
    (R := fun k e => ∃ lv : Option D, e = eS codes n (2 ^ k) (oD lv)) (iRg1_nat rfl rfl (by omega)) ⟨none, by rw [Int.pow_zero]; rfl⟩ (fun i x e hx ⟨lv, he⟩ => by
      subst he
      refine ⟨eS codes n (2 ^ i) (.val (.int (x : Int))), by simp [setT, putv, eS], _, .inl (dbl_eq _ _ _ _), some (.int (x : Int)), ?_⟩
      rw [Int.pow_succ, Int.mul_comm]
      rfl)
  rw [List.length_range] at s2
  let ps : List (Int × Int) := (List.range codes.length).map fun j => (codes.getD j 0 % 2 ^ n, (j : Int))
  have p0 : (0 : Int) < 2 ^ n := Int.pow_pos (by decide)
  have c1 : dLc (iRg1 (dF1 semLen (dVar 0))) [6] (.name 6) dYes (dTup (dCons (dBin modI (dF1 semInt (dBin semIx (dVar 0) (dVar 6))) (dVar 2)) (dCons (dVal (dVar 6)) dNil))) (eS codes n (2 ^ n) (oD lv)) = some (.fresh (.lst (ps.map prD)), eS codes n (2 ^ n) (oD lv)) := by
    have z := lc_pure (enc := fun n : Nat => D.int (n : Int)) (enc' := prD) (xs := List.range codes.length) (eS codes n (2 ^ n) (oD lv)) (fun _ => true) (fun j => (codes.getD j 0 % 2 ^ n, (j : Int))) (di := iRg1 (dF1 semLen (dVar 0))) (i := 6) (dt := dYes) (de := dTup (dCons (dBin modI (dF1 semInt (dBin semIx (dVar 0) (dVar 6))) (dVar 2)) (dCons (dVal (dVar 6)) dNil))) (env := eS codes n (2 ^ n) (oD lv)) (e0 := eS codes n (2 ^ n) (oD lv)) (u := none)
      (iRg1_nat (n := codes.length) (f1_ok (o := .val (.int (codes.length : Nat))) (x := eT codes) rfl rfl (by show some (Rs.val (.int ((eI codes).length : Nat))) = _; rw [eI_len])) rfl (by omega)) rfl (by show 6 < 7; decide) rfl (by rw [List.length_range]; show _ ≤ 16777216; omega) (fun x hx => by
        have hx := List.mem_range.mp hx
        have gx : codes[x]? = some (codes.getD x 0) := by rw [List.getD_eq_getElem?_getD, List.getElem?_eq_getElem hx]; rfl
        have i1 : semIx (eT codes) (.int (x : Int)) = some (.val (.int (codes.getD x 0))) := ix_tup (eI_get gx)
        exact ⟨rfl, fun _ => val_val (tup2 (bin_ok (f1_ok (bin_ok rfl rfl rfl rfl i1) rfl rfl) rfl rfl rfl (modI_int p0)) rfl)⟩)
    rw [List.filter_eq_self.mpr (fun _ _ => rfl)] at z
    exact z
  have c2 : dLc (iSeq (dF1 semSort (dLc (iRg1 (dF1 semLen (dVar 0))) [6] (.name 6) dYes (dTup (dCons (dBin modI (dF1 semInt (dBin semIx (dVar 0) (dVar 6))) (dVar 2)) (dCons (dVal (dVar 6)) dNil)))))) [5] (.name 5) dYes (dBin semIx (dVar 5) (dC (.int 1))) (eS codes n (2 ^ n) (oD lv)) = some (.fresh (.lst (eI ((ps.mergeSort lexLe).map (·.2)))), eS codes n (2 ^ n) (oD lv)) := by
    have z := lc_pure (enc := prD) (enc' := D.int) (xs := ps.mergeSort lexLe) (eS codes n (2 ^ n) (oD lv)) (fun _ => true) (fun p => p.2) (di := iSeq (dF1 semSort (dLc (iRg1 (dF1 semLen (dVar 0))) [6] (.name 6) dYes (dTup (dCons (dBin modI (dF1 semInt (dBin semIx (dVar 0) (dVar 6))) (dVar 2)) (dCons (dVal (dVar 6)) dNil)))))) (i := 5) (dt := dYes) (de := dBin semIx (dVar 5) (dC (.int 1))) (env := eS codes n (2 ^ n) (oD lv)) (e0 := eS codes n (2 ^ n) (oD lv)) (u := none)
      (seq_fresh (f1_ok c1 rfl (sort_prs ps))) rfl (by show 5 < 7; decide) rfl (by rw [List.length_mergeSort, List.length_map, List.length_range]; show _ ≤ 16777216; omega) (fun x _ => ⟨rfl, fun _ => val_val (bin_ok rfl rfl rfl rfl (show semIx (prD x) (.int 1) = some (.val (.int x.2)) from rfl))⟩)
    rw [List.filter_eq_self.mpr (fun _ _ => rfl)] at z
    exact z
  rw [show (ps.mergeSort lexLe).map (·.2) = iN (rdx codes n n) from rdx_sort codes n] at c2
  have len : (iN (rdx codes n n)).length ≤ 100000 := by
    unfold iN
    rw [List.length_map, (rdx_perm codes n n).length_eq, List.length_range]; omega
  exact runF_rt (e := [.val (eT codes), .val (.int (n : Int)), .val (.int (2 ^ n)), oD lv, .own (.lst (eI (iN (rdx codes n n)))), .un, .un]) (seq_ok (e := eS codes n 1 .un) rfl (seq_ok s2 (seq_ok (asg_eq c2 rfl) (ret_val (same_call (val_val (call2 rfl rfl (sorted_ok codes hl n hn))) (f1_ok (r := .slot 4) rfl rfl rfl) (gd_eT len)))))) rfl rfl
end G62
set_option Elab.async false
set_option linter.all false
set_option maxRecDepth 100000
namespace G62
open PySem PySem.Spec L2 VL
theorem lc_rng {n : Nat} (hl : n ≤ 1000) (q : Nat → Bool) {di : DI} {i : Nat} {dt : DT} {env : Ev} (h1 : di env = some ((List.range n).map fun n : Nat => D.int (n : Int), env, none)) (hi : i < env.length)
    (hs : ∀ j : Nat, j < n → dt (env.set i (.val (.int (j : Int)))) = some (q j, env.set i (.val (.int (j : Int))))) :
    dLc di [i] (.name i) dt (dVar i) env = some (.fresh (.lst (eI (iN ((List.range n).filter q)))), env) := by
  have := lc_pure (enc := fun n : Nat => D.int (n : Int)) (enc' := fun n : Nat => D.int (n : Int)) (xs := List.range n) env q id (di := di) (i := i) (dt := dt) (de := dVar i) (env := env) (e0 := env) (u := none) h1 rfl hi rfl (by rw [List.length_range]; show _ ≤ 16777216; omega) (fun x hx => by
    refine ⟨hs x (List.mem_range.mp hx), fun _ => ?_⟩
    have g : (env.set i (.val (.int (x : Int))))[i]? = some (.val (.int (x : Int))) := by rw [List.getElem?_set_self hi]
    simp only [dVal, dVar]
    rw [g]
    rfl)
  rw [this, List.map_id, map_iN]
theorem lc_hld {js : List Nat} (hl : js.length ≤ 1000) (L : Ev) (q : Nat → Bool) {s i : Nat} {dt : DT} {env : Ev} (h1 : env[s]? = some (.own (.lst (eI (iN js))))) (hL : lockE (some s) env = L) (hi : i < env.length)
    (hs : ∀ j ∈ js, dt (L.set i (.val (.int ((j : Nat) : Int)))) = some (q j, L.set i (.val (.int ((j : Nat) : Int))))) :
    dLc (iVar s) [i] (.name i) dt (dVar i) env = some (.fresh (.lst (eI (iN (js.filter q)))), env) := by
  have hL' : i < L.length := by rw [← hL, length_lock]; exact hi
  have := lc_pure (enc := fun n : Nat => D.int (n : Int)) (enc' := fun n : Nat => D.int (n : Int)) (xs := js) L q id (di := iVar s) (i := i) (dt := dt) (de := dVar i) (env := env) (e0 := env) (u := some s) (by unfold iVar; rw [h1, map_iN]) hL hi (by rw [← hL]; exact unlock_some) (by show _ ≤ 16777216; omega) (fun x hx => by
    refine ⟨hs x hx, fun _ => ?_⟩
    have g : (L.set i (.val (.int (x : Int))))[i]? = some (.val (.int (x : Int))) := by rw [List.getElem?_set_self hL']
    simp only [dVal, dVar]
    rw [g]
    rfl)
  rw [this, List.map_id, map_iN]
theorem flat_inner (card : List (List Int)) (c : List Int) (acc : List Int) (hb : acc.length + c.length ≤ 1000) : loopK [2] (.name 2) (stp1 dYes (dVar 2)) (eI c) [.val (eC card), .val (eT c), .un] (eI acc) = some (eI (acc ++ c), [.val (eC card), .val (eT c), .un]) := by
  obtain ⟨e, a, h, rfl, rfl⟩ := lcK_rel (enc := D.int) (t := .name 2) (vs := [2]) (stp := stp1 dYes (dVar 2)) (fun k e a => e = [.val (eC card), .val (eT c), .un] ∧ a = eI (acc ++ c.take k)) c 0 [.val (eC card), .val (eT c), .un] (eI acc) (fun i x e a hx ⟨he, ha⟩ => by
    subst he ha
    have hi := (List.getElem?_eq_some_iff.mp hx).1
    have lt : ((eI (acc ++ c.take (0 + i))).length < LN) = True := eq_true (by
      rw [eI_len, List.length_append, List.length_take]
      show _ < 16777216
      omega)
    refine ⟨[.val (eC card), .val (eT c), .val (.int x)], [.val (eC card), .val (eT c), .val (.int x)], eI (acc ++ c.take (0 + i)) ++ [.int x], rfl, ?_, rfl, ?_⟩
    · show (if (eI (acc ++ c.take (0 + i))).length < LN then some _ else none) = _
      rw [if_pos (of_eq_true lt)]
    · rw [eI_append, List.append_assoc, Nat.zero_add, List.take_add_one, hx]
      rfl) ⟨rfl, by simp⟩
  rw [Nat.zero_add, List.take_length] at h
  exact h
theorem flat_ok (card : List (List Int)) (hb : card.flatten.length ≤ 1000) : dLc2 (iVar 0) [1, 2] (.name 1) dYes (iVar 1) [2] (.name 2) dYes (dVar 2) [.val (eC card), .un, .un] = some (.fresh (.lst (eI card.flatten)), [.val (eC card), .un, .un]) := by
  obtain ⟨e, a, h, rfl, rfl⟩ := lc_rel (enc := eT) (t := .name 1) (vs := [1, 2]) (stp := stp2 dYes (iVar 1) [2] (.name 2) dYes (dVar 2)) (di := iVar 0) (env := [.val (eC card), .un, .un]) (e0 := [.val (eC card), .un, .un]) (u := none) (xs := card) (fun k e a => e = [.val (eC card), .un, .un] ∧ a = eI (card.take k).flatten) rfl ⟨rfl, rfl⟩ (fun i c e a hx ⟨he, ha⟩ => by
    subst he ha
    have tk : card.take (i + 1) = card.take i ++ [c] := by rw [List.take_add_one, hx]; rfl
    have le : ((card.take i).flatten ++ c).length ≤ 1000 := by
      have e1 : (card.take i).flatten ++ c = (card.take (i + 1)).flatten := by rw [tk, List.flatten_append]; simp
      rw [e1]
      refine Nat.le_trans ?_ hb
      conv => rhs; rw [← List.take_append_drop (i + 1) card, List.flatten_append, List.length_append]
      omega
    rw [List.length_append] at le
    refine ⟨[.val (eC card), .val (eT c), .un], [.val (eC card), .val (eT c), .un], eI ((card.take i).flatten ++ c), rfl, ?_, rfl, ?_⟩
    · show (loopK [2] (.name 2) (stp1 dYes (dVar 2)) (eI c) [.val (eC card), .val (eT c), .un] (eI (card.take i).flatten)).bind _ = _
      rw [flat_inner card c _ le]
      rfl
    · rw [tk, List.flatten_append]; simp)
  rw [List.take_length] at h
  exact h
theorem holes_in_ok (card : List (List Int)) (hb : card.flatten.length ≤ 63) : f_holes_in [.val (eC card)] = some (.val (eT (setI card.flatten)), []) := by
  refine runF_rt (e := [.val (eC card), .un, .un]) (ret_val (f1_tup (f1_ok (flat_ok card (by omega)) rfl ?_))) rfl rfl
  show (intsOf (eI card.flatten)).bind _ = _
  rw [intsOf_eI]
  show (if card.flatten.length < 64 then some (Rs.fresh (.lst (eI (setI card.flatten)))) else none) = _
  rw [if_pos (by omega)]
def e3 (cs : List (List (List Int))) : D := .tup (cs.map eC)
theorem ix_e3 {cs : List (List (List Int))} {j : Nat} {c : List (List Int)} (h : cs[j]? = some c) : semIx (e3 cs) (.int (j : Int)) = some (.val (eC c)) := ix_tup (by rw [List.getElem?_map, h]; rfl)
theorem eqbs_eI : ∀ a b : List Int, D.eqbs (eI a) (eI b) = decide (a = b)
  | [], [] => rfl
  | [], _ :: _ => rfl
  | _ :: _, [] => rfl
  | x :: a, y :: b => by
    show ((D.int x).eqb (.int y) && D.eqbs (eI a) (eI b)) = _
    rw [eqb_int, eqbs_eI a b, Bool.eq_iff_iff]
    simp
theorem eqb_eT (a b : List Int) : (eT a).eqb (eT b) = decide (a = b) := eqbs_eI a b
theorem pl_eT (a : List Int) (n : Nat) : (eT a).pl (n + 1) = true := pls_eI a n
theorem pls_map (c : List (List Int)) (n : Nat) : D.pls (c.map eT) (n + 1) = true := by
  induction c with
  | nil => rfl
  | cons x xs ih => show ((eT x).pl (n + 1) && D.pls (xs.map eT) (n + 1)) = true; rw [pl_eT, ih]; rfl
theorem hasD_eT (w : List Int) (c : List (List Int)) : hasD (eT w) (c.map eT) = decide (w ∈ c) := by
  induction c with
  | nil => rfl
  | cons x xs ih =>
    show ((eT x).eqb (eT w) || hasD (eT w) (xs.map eT)) = _
    rw [ih, eqb_eT]
    by_cases e : x = w
    · subst e; simp
    · have e' : ¬ w = x := fun z => e z.symm
      simp [e, e']
theorem notIn_eC (w : List Int) (c : List (List Int)) : semNotIn (eT w) (eC c) = some (.val (.bl (!decide (w ∈ c)))) := by
  show (if (eT w).pl 60 = true ∧ D.pls (c.map eT) 59 = true then some (hasD (eT w) (c.map eT)) else none).bind _ = _
  rw [if_pos ⟨pl_eT _ 59, pls_map _ 58⟩, hasD_eT]
  rfl
theorem eq_eT (a b : List Int) : semEq (eT a) (eT b) = some (.val (.bl (decide (a = b)))) := by
  show (if (eT a).pl 60 = true ∧ (eT b).pl 60 = true then some (Rs.val (.bl ((eT a).eqb (eT b)))) else none) = _
  rw [if_pos ⟨pl_eT _ 59, pl_eT _ 59⟩, eqb_eT]
def fall (cs : List (List (List Int))) (w : List Int) (j : Nat) : Bool := (w.all fun h => decide (h ∈ setI (cs.getD j []).flatten)) && !decide (w ∈ cs.getD j [])
theorem getD3 {cs : List (List (List Int))} {j : Nat} (h : j < cs.length) : cs[j]? = some (cs.getD j []) := by
  rw [List.getD_eq_getElem?_getD, List.getElem?_eq_getElem h]; rfl
theorem falls_ok (cs : List (List (List Int))) (w : List Int) (hl : cs.length ≤ 1000) (hw : w.length ≤ 1000) (hb : ∀ c ∈ cs, c.flatten.length ≤ 63) : f_false_falls [.val (e3 cs), .val (eT w)] = some (.val (eT (iN ((List.range cs.length).filter (fall cs w)))), []) := by
  let q1 : Nat → Bool := fun j => w.all fun h => decide (h ∈ setI (cs.getD j []).flatten)
  let q2 : Nat → Bool := fun j => !decide (w ∈ cs.getD j [])
  have s1 := lc_rng hl q1 (di := iRg1 (dF1 semLen (dVar 0))) (i := 3) (dt := dTest (dCall f_has_all (dCons (dVal (dCall f_holes_in (dCons (dVal (dBin semIx (dVar 0) (dVar 3))) dNil))) (dCons (dVal (dVar 1)) dNil)))) (env := [.val (e3 cs), .val (eT w), .un, .un])
    (iRg1_nat (n := cs.length) (f1_ok (x := e3 cs) (o := .val (.int (cs.length : Nat))) rfl rfl (by show some (Rs.val (.int ((cs.map eC).length : Nat))) = _; rw [List.length_map])) rfl (by omega)) (by show 3 < 4; decide)
    (fun j hj => test_eq (call2 (val_val (call1 (val_val (bin_ok rfl rfl rfl rfl (ix_e3 (getD3 hj)))) (holes_in_ok _ (hb _ (List.mem_of_getElem? (getD3 hj)))))) rfl (has_all_ok _ w hw)))
  have len1 : ((List.range cs.length).filter q1).length ≤ 1000 := Nat.le_trans (List.length_filter_le _ _) (by rw [List.length_range]; exact hl)
  have s2 := lc_hld len1 [.val (e3 cs), .val (eT w), .lk (.lst (eI (iN ((List.range cs.length).filter q1)))), .un] q2 (s := 2) (i := 3) (dt := dTest (dBin semNotIn (dVar 1) (dBin semIx (dVar 0) (dVar 3)))) (env := [.val (e3 cs), .val (eT w), .own (.lst (eI (iN ((List.range cs.length).filter q1)))), .un]) rfl rfl (by show 3 < 4; decide)
    (fun j hj => test_eq (bin_ok rfl (bin_ok rfl rfl rfl rfl (ix_e3 (getD3 (List.mem_range.mp (List.mem_filter.mp hj).1)))) rfl rfl (notIn_eC _ _)))
  rw [List.filter_filter] at s2
  have e : ((List.range cs.length).filter fun j => q2 j && q1 j) = (List.range cs.length).filter (fall cs w) := List.filter_congr fun j _ => Bool.and_comm _ _
  rw [e] at s2
  exact runF_rt (e := [.val (e3 cs), .val (eT w), .own (.lst (eI (iN ((List.range cs.length).filter q1)))), .un]) (seq_ok (asg_eq s1 rfl) (ret_val (f1_tup s2))) rfl rfl
end G62
set_option Elab.async false
set_option linter.all false
set_option maxRecDepth 100000
namespace G62
open PySem PySem.Spec L2 VL
theorem len_lst {d : DE} {env e : Ev} {r : Rs} {xs : List D} (h : d env = some (r, e)) (h2 : r.data e = some (.lst xs)) : dF1 semLen d env = some (.val (.int (xs.length : Nat)), e) := f1_ok h h2 rfl
theorem eqI (a b : Int) : semEq (.int a) (.int b) = some (.val (.bl (a == b))) := by
  show (if (D.int a).pl 60 = true ∧ (D.int b).pl 60 = true then some (Rs.val (.bl ((D.int a).eqb (.int b)))) else none) = _
  rw [if_pos ⟨pl_int _ _, pl_int _ _⟩, eqb_int]
theorem len0 {d : DE} {env e : Ev} {xs : List D} (h : d env = some (.fresh (.lst xs), e)) : dTest (dBin semEq (dF1 semLen d) (dC (.int 0))) env = some (xs.isEmpty, e) := by
  refine test_eq (bin_ok (len_lst h rfl) rfl rfl rfl ?_)
  rw [eqI]
  cases xs with
  | nil => rfl
  | cons x xs => rfl
theorem and_eq {t u : DT} {env e : Ev} {b c : Bool} (h : t env = some (b, e)) (k : u e = some (c, e)) : dAndT t u env = some (b && c, e) := by
  show (t env).bind _ = _
  rw [h]
  cases b with
  | true => show u e = _; rw [k]; rfl
  | false => rfl
def eF (S : Sl) (cs : List (List (List Int))) (w due : List Int) (a h c : Sl) : Ev := [S, .val (e3 cs), .val (eT w), .own (.lst (eI due)), a, h, c, .un]
theorem take_flat_le {c : List (List Int)} (k : Nat) : (c.take k).flatten.length ≤ c.flatten.length := by
  conv => rhs; rw [← List.take_append_drop k c, List.flatten_append, List.length_append]
  omega
theorem held_loop (S : Sl) (cs : List (List (List Int))) (w due : List Int) (j : Nat) (card : List (List Int)) (hc : cs[j]? = some card) (hb : card.flatten.length ≤ 63) (c0 : Sl) (hc0 : c0.free = true) :
    ∃ c : Sl, c.free = true ∧ dFor (iSeq (dBin semIx (dVar 1) (dVar 4))) (.name 6) (dAsg 5 (dBin semAdd (dVar 5) (dF1 semList (dVar 6)))) (eF S cs w due (.val (.int (j : Int))) (.own (.lst (eI []))) c0) = some (.nx (eF S cs w due (.val (.int (j : Int))) (.own (.lst (eI card.flatten))) c)) := by
  obtain ⟨e, h, c, hcf, rfl⟩ := for_rel (enc := eT) (xs := card) (di := iSeq (dBin semIx (dVar 1) (dVar 4))) (t := .name 6) (db := dAsg 5 (dBin semAdd (dVar 5) (dF1 semList (dVar 6)))) (env := eF S cs w due (.val (.int (j : Int))) (.own (.lst (eI []))) c0) (e0 := eF S cs w due (.val (.int (j : Int))) (.own (.lst (eI []))) c0) (u := none)
    (R := fun k e => ∃ c : Sl, c.free = true ∧ e = eF S cs w due (.val (.int (j : Int))) (.own (.lst (eI (card.take k).flatten))) c)
    (by
      have z : dVal (dBin semIx (dVar 1) (dVar 4)) (eF S cs w due (.val (.int (j : Int))) (.own (.lst (eI []))) c0) = some (.val (eC card), eF S cs w due (.val (.int (j : Int))) (.own (.lst (eI []))) c0) := val_val (bin_ok rfl rfl rfl rfl (ix_e3 hc))
      show (dVal _ _).bind _ = _
      rw [z]
      rfl) ⟨c0, hc0, rfl⟩ (fun i x e hx ⟨c, hcf, he⟩ => by
      subst he
      have tk : (card.take (i + 1)).flatten = (card.take i).flatten ++ x := by rw [List.take_add_one, hx, List.flatten_append]; simp
      have le := take_flat_le (c := card) (i + 1)
      rw [tk, List.length_append] at le
      refine ⟨eF S cs w due (.val (.int (j : Int))) (.own (.lst (eI (card.take i).flatten))) (.val (eT x)), by simp [setT, putv, eF, hcf], _, .inl (asg_eq (bin_ok (r := .slot 5) rfl (f1_ok (x := eT x) rfl rfl rfl) rfl rfl (addL_eq (by rw [eI_len, eI_len]; show _ ≤ 16777216; omega))) rfl), .val (eT x), rfl, ?_⟩
      rw [tk]
      show eF S cs w due _ (.own (.lst (eI (card.take i).flatten ++ eI x))) _ = _
      rw [show eI (card.take i).flatten ++ eI x = eI ((card.take i).flatten ++ x) by unfold eI; rw [List.map_append]])
  rw [List.take_length] at h
  exact ⟨c, hcf, h⟩
theorem is_nil_filter {α : Type} (xs : List α) (p : α → Bool) {β : Type} (f : α → β) : ((xs.filter p).map f).isEmpty = xs.all fun x => !p x := by
  rw [List.isEmpty_map]
  induction xs with
  | nil => rfl
  | cons x xs ih =>
    cases h : p x with
    | true => simp [h]
    | false => simp [h, ih]
theorem law_false_ok (ds : List Int) (cs : List (List (List Int))) (w : List Int) (hl : cs.length ≤ 1000) (hw : w.length ≤ 1000) (hb : ∀ c ∈ cs, c.flatten.length ≤ 63) (hcl : ∀ c ∈ cs, c.length ≤ 1000) : f__law_is_false_right [.io (.lst (eI ds)), .val (e3 cs), .val (eT w)] = some (.val (.bl true), [.lst (eI ds)]) := by
  obtain ⟨e, s2, a, h, c, ha, hh, hc, rfl⟩ := for_rel (enc := fun n : Nat => D.int (n : Int)) (xs := List.range cs.length) (di := iRg1 (dF1 semLen (dVar 1))) (t := .name 4)
    (db := (dSeq (dAsg 5 (dLst dNil)) (dSeq (dFor (iSeq (dBin semIx (dVar 1) (dVar 4))) (.name 6) (dAsg 5 (dBin semAdd (dVar 5) (dF1 semList (dVar 6))))) (dIfS (dAndT (dTest (dBin semEq (dF1 semLen (dLc (iVar 2) [7] (.name 7) (dTest (dBin semNotIn (dVar 7) (dVar 5))) (dVar 7))) (dC (.int 0)))) (dTest (dBin semEq (dF1 semLen (dLc (iSeq (dBin semIx (dVar 1) (dVar 4))) [6] (.name 6) (dTest (dBin semEq (dVar 6) (dVar 2))) (dVar 6))) (dC (.int 0))))) (dExpr (dAppend 3 (dVar 4))) dNext))))
    (env := eF (.io (.lst (eI ds))) cs w [] .un .un .un) (e0 := eF (.io (.lst (eI ds))) cs w [] .un .un .un) (u := none)
    (R := fun k e => ∃ a h c : Sl, a.free = true ∧ h.free = true ∧ c.free = true ∧ e = eF (.io (.lst (eI ds))) cs w (iN ((List.range k).filter (fall cs w))) a h c)
    (iRg1_nat (n := cs.length) (f1_ok (x := e3 cs) (o := .val (.int (cs.length : Nat))) rfl rfl (by show some (Rs.val (.int ((cs.map eC).length : Nat))) = _; rw [List.length_map])) rfl (by omega)) ⟨.un, .un, .un, rfl, rfl, rfl, rfl⟩ (fun i x e hx ⟨a, h, c, ha, hh, hc, he⟩ => by
      subst he
      obtain rfl : x = i := by
        have := (List.getElem?_eq_some_iff.mp hx).2
        simpa using this.symm
      have hi : x < cs.length := by have := (List.getElem?_eq_some_iff.mp hx).1; simpa using this
      have gx := getD3 hi
      have mx := List.mem_of_getElem? gx
      obtain ⟨c1, hc1, t1⟩ := held_loop (.io (.lst (eI ds))) cs w (iN ((List.range x).filter (fall cs w))) x _ gx (hb _ mx) c hc
      let E : Ev := eF (.io (.lst (eI ds))) cs w (iN ((List.range x).filter (fall cs w))) (.val (.int (x : Int))) (.own (.lst (eI (cs.getD x []).flatten))) c1
      have q1 := lc_pure (enc := D.int) (enc' := D.int) (xs := w) E (fun h => !decide (h ∈ (cs.getD x []).flatten)) id (di := iVar 2) (i := 7) (dt := dTest (dBin semNotIn (dVar 7) (dVar 5))) (de := dVar 7) (env := E) (e0 := E) (u := none) rfl rfl (by show 7 < 8; decide) rfl (by show _ ≤ 16777216; omega) (fun y _ => ⟨test_eq (bin_ok (r2 := .slot 5) rfl rfl rfl rfl (notIn_eL _ _)), fun _ => rfl⟩)
      have z : dVal (dBin semIx (dVar 1) (dVar 4)) E = some (.val (eC (cs.getD x [])), E) := val_val (bin_ok rfl rfl rfl rfl (ix_e3 gx))
      have z2 : iSeq (dBin semIx (dVar 1) (dVar 4)) E = some ((cs.getD x []).map eT, E, none) := by
        show (dVal _ _).bind _ = _
        rw [z]
        rfl
      have q2 := lc_pure (enc := eT) (enc' := eT) (xs := cs.getD x []) E (fun y => decide (y = w)) id (di := iSeq (dBin semIx (dVar 1) (dVar 4))) (i := 6) (dt := dTest (dBin semEq (dVar 6) (dVar 2))) (de := dVar 6) (env := E) (e0 := E) (u := none) z2 rfl (by show 6 < 8; decide) rfl (by have := hcl _ mx; show _ ≤ 16777216; omega) (fun y _ => ⟨test_eq (bin_ok rfl rfl rfl rfl (eq_eT _ _)), fun _ => rfl⟩)
      have tt := and_eq (len0 q1) (len0 q2)
      rw [List.map_map, List.map_map, is_nil_filter, is_nil_filter] at tt
      have ef : ((w.all fun x_1 => !(fun h => !decide (h ∈ (cs.getD x []).flatten)) x_1) && (cs.getD x []).all fun x => !(fun y => decide (y = w)) x) = fall cs w x := by
        unfold fall
        rw [Bool.eq_iff_iff]
        simp only [Bool.and_eq_true, List.all_eq_true, Bool.not_not, decide_eq_true_iff, setI_mem, Bool.not_eq_true', decide_eq_false_iff_not]
        constructor
        · rintro ⟨h1, h2⟩; exact ⟨h1, fun m => h2 _ m rfl⟩
        · rintro ⟨h1, h2⟩; exact ⟨h1, fun y m e => h2 (e ▸ m)⟩
      rw [ef] at tt
      have rs : (List.range (x + 1)).filter (fall cs w) = (List.range x).filter (fall cs w) ++ (if fall cs w x = true then [x] else []) := by
        rw [List.range_succ, List.filter_append]
        congr 1
        by_cases f : fall cs w x = true <;> simp [f]
      refine ⟨eF (.io (.lst (eI ds))) cs w (iN ((List.range x).filter (fall cs w))) (.val (.int (x : Int))) h c, by simp [setT, putv, eF, ha], ?_⟩
      refine ⟨eF (.io (.lst (eI ds))) cs w (iN ((List.range (x + 1)).filter (fall cs w))) (.val (.int (x : Int))) (.own (.lst (eI (cs.getD x []).flatten))) c1, .inl (seq_ok (e := eF (.io (.lst (eI ds))) cs w (iN ((List.range x).filter (fall cs w))) (.val (.int (x : Int))) (.own (.lst (eI []))) c) ?_ (seq_ok t1 ?_)), _, _, _, rfl, rfl, hc1, rfl⟩
      · refine asg_eq (r := .fresh (.lst (eI []))) (e := eF (.io (.lst (eI ds))) cs w (iN ((List.range x).filter (fall cs w))) (.val (.int (x : Int))) h c) rfl ?_
        show (if h.free = true then some _ else none) = _
        rw [if_pos hh]
        rfl
      · by_cases f : fall cs w x = true
        · rw [f] at tt
          have lt : ((eI (iN ((List.range x).filter (fall cs w)))).length < LN) := by
            have : ((List.range x).filter (fall cs w)).length ≤ x := Nat.le_trans (List.length_filter_le _ _) (by rw [List.length_range]; exact Nat.le_refl _)
            unfold eI iN
            rw [List.length_map, List.length_map]
            show _ < 16777216
            omega
          rw [if_true' tt, rs, if_pos f]
          have ap : eI (iN ((List.range x).filter (fall cs w))) ++ [.int (x : Int)] = eI (iN ((List.range x).filter (fall cs w) ++ [x])) := by unfold eI iN; simp
          simp [eF, E, lt, ap]
        · have f' : fall cs w x = false := by simpa using f
          rw [f'] at tt
          rw [if_false' tt, rs, if_neg f, List.append_nil]
          rfl)
  rw [List.length_range] at s2
  have len : (iN ((List.range cs.length).filter (fall cs w))).length ≤ 100000 := by
    unfold iN
    rw [List.length_map]
    have := List.length_filter_le (fall cs w) (List.range cs.length)
    rw [List.length_range] at this
    omega
  exact runF_rt (e := eF (.io (.lst (eI ds))) cs w (iN ((List.range cs.length).filter (fall cs w))) a h c) (seq_ok (e := eF (.io (.lst (eI ds))) cs w [] .un .un .un) rfl (seq_ok s2 (ret_val (same_call (val_val (call2 rfl rfl (falls_ok cs w hl hw hb))) (f1_ok (r := .slot 3) rfl rfl rfl) (gd_eT len))))) rfl rfl
end G62
set_option Elab.async false
set_option linter.all false
set_option maxRecDepth 100000
namespace G62
open PySem PySem.Spec L2 VL
theorem stp1_true {dt : DT} {de : DE} {e e2 e3 : Ev} {acc : List D} {y : D} (ht : dt e = some (true, e2)) (h : dVal de e2 = some (.val y, e3)) (lt : acc.length < LN) : stp1 dt de e acc = some (e3, acc ++ [y]) := by
  simp only [stp1, ht, h, Option.bind_some, if_true, Rs.data, if_pos lt]
def dS : Bool → List Int → Sl
  | true, ds => .own (.lst (eI ds))
  | false, ds => .io (.lst (eI ds))
theorem take_eq : f__law_take = fTake := rfl
theorem dS_free (ds : List Int) : (dS true ds).free = true := rfl
theorem take_call {j : Nat} {env : Ev} {kd : Bool} {ds : List Int} {m : Int} {d : DE} (h : env[j]? = some (dS kd ds)) (hd : d env = some (.val (.int m), env)) (hm : 0 < m) : ∃ r, 0 ≤ r ∧ r < m ∧ dCall f__law_take (dCons (dVar j) (dCons d dNil)) env = some (.val (.int r), env.set j (dS kd ds.dropLast)) := by
  obtain ⟨r, h0, h1, hr⟩ := take_ok ds hm
  refine ⟨r, h0, h1, ?_⟩
  have hv : dVar j env = some (.slot j, env) := by
    unfold dVar
    rw [h]
    cases kd <;> rfl
  refine call_eq (rs := [.slot j, .val (.int m)]) (as := [.io (.lst (eI ds)), .val (.int m)]) (outs := [.lst (eI ds.dropLast)]) (cons_ok hv (cons_ok hd rfl)) ?_ (by simp) (by rw [take_eq]; exact hr) ?_
  · show (env[j]?).bind _ = _
    rw [h]
    cases kd <;> rfl
  · show (env[j]?).bind _ = _
    rw [h]
    cases kd <;> rfl
theorem val_take {j : Nat} {env : Ev} {kd : Bool} {ds : List Int} {m : Int} {d : DE} (h : env[j]? = some (dS kd ds)) (hd : d env = some (.val (.int m), env)) (hm : 0 < m) : ∃ r : Int, 0 ≤ r ∧ r < m ∧ dCall f__law_take (dCons (dVar j) (dCons d dNil)) env = some (.val (.int r), env.set j (dS kd ds.dropLast)) := take_call h hd hm
/-- [x for x in range(n) if take(..) ..]: some of them -/
theorem lc_some {n : Nat} (hn : n ≤ 1000) {di : DI} {i : Nat} {dt : DT} (E : List Int → Ev) (ds : List Int) (h1 : di (E ds) = some ((List.range n).map fun n : Nat => D.int (n : Int), E ds, none)) (hw : ∀ ds, (E ds).set i .un = E ds) (hi : ∀ ds, i < (E ds).length)
    (hs : ∀ (ds : List Int) (x : Nat), ∃ (b : Bool) (ds' : List Int), dt ((E ds).set i (.val (.int (x : Int)))) = some (b, (E ds').set i (.val (.int (x : Int))))) :
    ∃ (c : List Int) (ds' : List Int), c.length ≤ n ∧ dLc di [i] (.name i) dt (dVar i) (E ds) = some (.fresh (.lst (eI c)), E ds') := by
  have un : ∀ ds, (E ds)[i]? = some .un := fun ds => by
    have := hw ds
    rw [← this, List.getElem?_set_self (hi ds)]
  obtain ⟨e, a, h, ds', c, hc, rfl, rfl⟩ := lc_rel (enc := fun n : Nat => D.int (n : Int)) (t := .name i) (vs := [i]) (stp := stp1 dt (dVar i)) (xs := List.range n) (di := di) (env := E ds) (e0 := E ds) (u := none) (fun k e a => ∃ (ds c : List Int), c.length ≤ k ∧ a = eI c ∧ e = E ds) h1 ⟨ds, [], Nat.le_refl 0, rfl, hw ds⟩ (fun k x e a hx ⟨ds, c, hc, ha, he⟩ => by
    subst he ha
    have hk : k < n := by have := (List.getElem?_eq_some_iff.mp hx).1; simpa using this
    obtain ⟨b, ds', ht⟩ := hs ds x
    have hset : setT (.name i) (.int (x : Int)) (E ds) = some ((E ds).set i (.val (.int (x : Int)))) := by
      show ((E ds)[i]?).bind _ = _
      rw [un ds]
      rfl
    have hwp : wipeE ((E ds').set i (.val (.int (x : Int)))) [i] = E ds' := by
      show ((E ds').set i _).set i .un = _
      rw [List.set_set, hw]
    cases b with
    | false =>
      refine ⟨_, (E ds').set i (.val (.int (x : Int))), eI c, hset, ?_, ds', c, by omega, rfl, hwp⟩
      show (dt _).bind _ = _
      rw [ht]
      rfl
    | true =>
      have lt : (eI c).length < LN := by rw [eI_len]; show _ < 16777216; omega
      have g : dVal (dVar i) ((E ds').set i (.val (.int (x : Int)))) = some (.val (.int (x : Int)), (E ds').set i (.val (.int (x : Int)))) := by
        refine val_val ?_
        unfold dVar
        rw [List.getElem?_set_self (hi ds')]
      refine ⟨_, (E ds').set i (.val (.int (x : Int))), eI c ++ [.int (x : Int)], hset, ?_, ds', c ++ [(x : Int)], by rw [List.length_append]; simp; omega, eI_append _ _, hwp⟩
      show (dt _).bind _ = _
      rw [ht]
      show (dVal (dVar i) _).bind _ = _
      rw [g]
      show (if (eI c).length < LN then some ((E ds').set i (.val (.int (x : Int))), eI c ++ [D.int (x : Int)]) else none) = _
      rw [if_pos lt])
  rw [List.length_range] at hc
  refine ⟨c, ds', hc, ?_⟩
  show lcR di [i] (.name i) (stp1 dt (dVar i)) (E ds) = _
  rw [h]
  show some (Rs.fresh (.lst (eI c)), (E ds').set i ((E ds)[i]?.getD .un)) = _
  rw [un ds]
  show some (Rs.fresh (.lst (eI c)), (E ds').set i .un) = _
  rw [hw]
def eK (n : Nat) (most rare : Int) (k : Sl) (ds : List Int) : Ev := [dS false ds, .val (.int most), .val (.int (n : Int)), .val (.int rare), k, .un]
theorem card_in (n : Nat) (hn : n ≤ 1000) (most rare : Int) (k : Sl) (ds : List Int) : ∃ (c ds' : List Int), c.length ≤ n ∧ dLc (iRg1 (dVar 2)) [5] (.name 5) (dTest (dBin semLt (dCall f__law_take (dCons (dVar 0) (dCons (dC (.int 4)) dNil))) (dVar 3))) (dVar 5) (eK n most rare k ds) = some (.fresh (.lst (eI c)), eK n most rare k ds') :=
  lc_some hn (eK n most rare k) ds (iRg1_nat rfl rfl (by omega)) (fun _ => rfl) (fun _ => (by show 5 < 6; decide)) (fun ds x => by
    obtain ⟨r, _, _, hr⟩ := take_call (j := 0) (env := (eK n most rare k ds).set 5 (.val (.int (x : Int)))) (kd := false) (ds := ds) (m := 4) (d := dC (.int 4)) rfl rfl (by decide)
    exact ⟨decide (r < rare), ds.dropLast, test_eq (bin_ok hr rfl rfl rfl rfl)⟩)
theorem cards_ok (ds : List Int) (most : Nat) (hm : most ≤ 900) (n : Nat) (hn : n ≤ 1000) : ∃ (cs : List (List Int)) (ds' : List Int), cs.length ≤ most ∧ (∀ c ∈ cs, c.length ≤ n) ∧ f__law_cards [.io (.lst (eI ds)), .val (.int (most : Int)), .val (.int (n : Int))] = some (.val (eC cs), [.lst (eI ds')]) := by
  obtain ⟨r, r0, r1, hr⟩ := take_call (j := 0) (env := [dS false ds, .val (.int (most : Int)), .val (.int (n : Int)), .un, .un, .un]) (kd := false) (ds := ds) (m := 3) (d := dC (.int 3)) rfl rfl (by decide)
  have s1 : dAsg 3 (dBin semAdd (dC (.int 1)) (dCall f__law_take (dCons (dVar 0) (dCons (dC (.int 3)) dNil)))) [dS false ds, .val (.int (most : Int)), .val (.int (n : Int)), .un, .un, .un] = some (.nx (eK n most (1 + r) .un ds.dropLast)) := asg_eq (bin_ok rfl hr rfl rfl rfl) rfl
  obtain ⟨q, q0, q1, hq⟩ := take_call (j := 0) (env := eK n most (1 + r) .un ds.dropLast) (kd := false) (ds := ds.dropLast) (m := (most : Int) + 1) (d := dVal (dBin semAdd (dVar 1) (dC (.int 1)))) rfl (val_val (bin_ok rfl rfl rfl rfl rfl)) (by omega)
  obtain ⟨m, rfl⟩ : ∃ m : Nat, q = (m : Int) := ⟨q.toNat, by omega⟩
  obtain ⟨e, a, h, ds', cs, hc, hcn, rfl, rfl⟩ := lc_rel (enc := fun n : Nat => D.int (n : Int)) (t := .name 4) (vs := [4]) (stp := stp1 dYes (dF1 semTuple (dLc (iRg1 (dVar 2)) [5] (.name 5) (dTest (dBin semLt (dCall f__law_take (dCons (dVar 0) (dCons (dC (.int 4)) dNil))) (dVar 3))) (dVar 5)))) (xs := List.range m)
    (di := iRg1 (dCall f__law_take (dCons (dVar 0) (dCons (dVal (dBin semAdd (dVar 1) (dC (.int 1)))) dNil)))) (env := eK n most (1 + r) .un ds.dropLast) (e0 := eK n most (1 + r) .un ds.dropLast.dropLast) (u := none) (fun k e a => ∃ (ds : List Int) (cs : List (List Int)), cs.length ≤ k ∧ (∀ c ∈ cs, c.length ≤ n) ∧ a = cs.map eT ∧ e = eK n most (1 + r) .un ds)
    (iRg1_nat hq rfl (by omega)) ⟨_, [], Nat.le_refl 0, (fun _ z => by cases z), rfl, rfl⟩ (fun k x e a hx ⟨ds, cs, hc, hcn, ha, he⟩ => by
      subst he ha
      have hk : k < m := by have := (List.getElem?_eq_some_iff.mp hx).1; simpa using this
      obtain ⟨c, ds', hcl, ht⟩ := card_in n hn most (1 + r) (.val (.int (x : Int))) ds
      have lt : (cs.map eT).length < LN := by rw [List.length_map]; show _ < 16777216; omega
      refine ⟨eK n most (1 + r) (.val (.int (x : Int))) ds, eK n most (1 + r) (.val (.int (x : Int))) ds', cs.map eT ++ [eT c], rfl, ?_, ds', cs ++ [c], by rw [List.length_append]; simp; omega, fun c' hm => ?_, by rw [List.map_append]; rfl, rfl⟩
      · exact stp1_true rfl (val_val (f1_tup ht)) lt
      · rcases List.mem_append.mp hm with hm | hm
        · exact hcn _ hm
        · rw [List.mem_singleton.mp hm]; exact hcl)
  rw [List.length_range] at hc
  exact ⟨cs, ds', by omega, hcn, runF_rt (e := eK n most (1 + r) .un ds') (seq_ok s1 (ret_val (f1_tup h))) rfl rfl⟩
end G62
set_option Elab.async false
set_option linter.all false
set_option maxRecDepth 100000
namespace G62
open PySem PySem.Spec L2 VL
/-- [x for x in range(n) if take(..) ..], the name held already -/
theorem lc_some2 {n : Nat} (hn : n ≤ 1000) {di : DI} {i : Nat} {dt : DT} {s0 : Sl} (E : List Int → Ev) (ds : List Int) (h1 : di (E ds) = some ((List.range n).map fun n : Nat => D.int (n : Int), E ds, none)) (hE : ∀ ds, (E ds)[i]? = some s0)
    (hs : ∀ (ds : List Int) (x : Nat), ∃ (b : Bool) (ds' : List Int), dt ((E ds).set i (.val (.int (x : Int)))) = some (b, (E ds').set i (.val (.int (x : Int))))) :
    ∃ (c : List Int) (ds' : List Int), c.length ≤ n ∧ dLc di [i] (.name i) dt (dVar i) (E ds) = some (.fresh (.lst (eI c)), E ds') := by
  have hi : ∀ ds, i < (E ds).length := fun ds => (List.getElem?_eq_some_iff.mp (hE ds)).1
  obtain ⟨e, a, h, ds', c, hc, rfl, rfl⟩ := lc_rel (enc := fun n : Nat => D.int (n : Int)) (t := .name i) (vs := [i]) (stp := stp1 dt (dVar i)) (xs := List.range n) (di := di) (env := E ds) (e0 := E ds) (u := none) (fun k e a => ∃ (ds c : List Int), c.length ≤ k ∧ a = eI c ∧ e = (E ds).set i .un) h1 ⟨ds, [], Nat.le_refl 0, rfl, rfl⟩ (fun k x e a hx ⟨ds, c, hc, ha, he⟩ => by
    subst he ha
    have hk : k < n := by have := (List.getElem?_eq_some_iff.mp hx).1; simpa using this
    obtain ⟨b, ds', ht⟩ := hs ds x
    have hset : setT (.name i) (.int (x : Int)) ((E ds).set i .un) = some ((E ds).set i (.val (.int (x : Int)))) := by
      show (((E ds).set i .un)[i]?).bind _ = _
      rw [List.getElem?_set_self (hi ds)]
      show some (((E ds).set i .un).set i _) = _
      rw [List.set_set]
    have hwp : wipeE ((E ds').set i (.val (.int (x : Int)))) [i] = (E ds').set i .un := by
      show ((E ds').set i _).set i .un = _
      rw [List.set_set]
    cases b with
    | false =>
      refine ⟨_, (E ds').set i (.val (.int (x : Int))), eI c, hset, ?_, ds', c, by omega, rfl, hwp⟩
      show (dt _).bind _ = _
      rw [ht]
      rfl
    | true =>
      have lt : (eI c).length < LN := by rw [eI_len]; show _ < 16777216; omega
      have g : dVal (dVar i) ((E ds').set i (.val (.int (x : Int)))) = some (.val (.int (x : Int)), (E ds').set i (.val (.int (x : Int)))) := by
        refine val_val ?_
        unfold dVar
        rw [List.getElem?_set_self (hi ds')]
      exact ⟨_, (E ds').set i (.val (.int (x : Int))), eI c ++ [.int (x : Int)], hset, stp1_true ht g lt, ds', c ++ [(x : Int)], by rw [List.length_append]; simp; omega, eI_append _ _, hwp⟩)
  rw [List.length_range] at hc
  refine ⟨c, ds', hc, ?_⟩
  show lcR di [i] (.name i) (stp1 dt (dVar i)) (E ds) = _
  rw [h]
  show some (Rs.fresh (.lst (eI c)), ((E ds').set i .un).set i ((E ds)[i]?.getD .un)) = _
  rw [hE ds, List.set_set]
  have := hE ds'
  show some (Rs.fresh (.lst (eI c)), (E ds').set i s0) = _
  rw [(List.getElem?_eq_some_iff.mp this).2.symm, List.set_getElem_self]
def eA (D0 : Sl) (cs : List (List Int)) (h k w u d a : Sl) : Ev := [D0, .val (eC cs), h, k, w, u, d, a]
theorem len_iN {n : Nat} (q : Nat → Bool) (hn : n ≤ 1000) : (iN ((List.range n).filter q)).length ≤ 100000 := by
  unfold iN
  rw [List.length_map]
  have := List.length_filter_le q (List.range n)
  rw [List.length_range] at this
  omega
theorem eC_lenF (cs : List (List Int)) : semLen [eC cs] = some (.val (.int (cs.length : Nat))) := by
  show some (Rs.val (.int ((cs.map eT).length : Nat))) = _
  rw [List.length_map]
def bL1 : DS := (dIfS (dNotT (dTest (dCall (r__law_same 8) (dCons (dVal (dCall f_fallen (dCons (dVal (dVar 1)) (dCons (dVal (dVar 2)) dNil)))) (dCons (dF1 semTuple (dLc (iRg1 (dF1 semLen (dVar 1))) [7] (.name 7) (dTest (dBin semIn (dVar 2) (dBin semIx (dVar 1) (dVar 7)))) (dVar 7))) dNil))))) (dRet (dC (.bl false))) dNext)
theorem loop1_ok (D0 : Sl) (cs : List (List Int)) (hl : cs.length ≤ 1000) : ∃ h : Sl, h.free = true ∧ dFor (iRg1 (dC (.int 9))) (.name 2) bL1 (eA D0 cs .un .un .un .un .un .un) = some (.nx (eA D0 cs h .un .un .un .un .un)) := by
  obtain ⟨e, s, h, hf, rfl⟩ := for_rel (enc := fun n : Nat => D.int (n : Int)) (xs := List.range 9) (di := iRg1 (dC (.int 9))) (t := .name 2) (db := bL1) (env := eA D0 cs .un .un .un .un .un .un) (e0 := eA D0 cs .un .un .un .un .un .un) (u := none)
    (R := fun k e => ∃ h : Sl, h.free = true ∧ e = eA D0 cs h .un .un .un .un .un) (iRg1_nat (n := 9) rfl rfl (by decide)) ⟨.un, rfl, rfl⟩ (fun i x e hx ⟨h, hf, he⟩ => by
      subst he
      have z := lc_rng hl (fun j => decide ((x : Int) ∈ cs.getD j [])) (di := iRg1 (dF1 semLen (dVar 1))) (i := 7) (dt := dTest (dBin semIn (dVar 2) (dBin semIx (dVar 1) (dVar 7)))) (env := eA D0 cs (.val (.int (x : Int))) .un .un .un .un .un) (iRg1_nat (n := cs.length) (f1_ok (x := eC cs) rfl rfl (eC_lenF cs)) rfl (by omega)) (by show 7 < 8; decide)
        (fun j hj => test_eq (bin_ok rfl (bin_ok rfl rfl rfl rfl (ix_eC (getD_of hj))) rfl rfl (in_eT _ _)))
      refine ⟨eA D0 cs (.val (.int (x : Int))) .un .un .un .un .un, by simp [setT, putv, eA, hf], eA D0 cs (.val (.int (x : Int))) .un .un .un .un .un, .inl ?_, .val (.int (x : Int)), rfl, rfl⟩
      exact if_false' (notT_eq (test_eq (same_call (val_val (call2 rfl rfl (fallen_ok cs hl x))) (f1_tup z) (gd_eT (len_iN _ hl))))))
  exact ⟨h, hf, s⟩
def pN (w u c : List Int) : Bool := (w.all fun h => decide (h ∈ c)) && !(u.any fun h => decide (h ∈ c))
def bDue : DS := (dIfS (dTest (dBin semEq (dBin semAdd (dF1 semLen (dLc (iVar 4) [2] (.name 2) (dTest (dBin semNotIn (dVar 2) (dBin semIx (dVar 1) (dVar 7)))) (dVar 2))) (dF1 semLen (dLc (iVar 5) [2] (.name 2) (dTest (dBin semIn (dVar 2) (dBin semIx (dVar 1) (dVar 7)))) (dVar 2)))) (dC (.int 0)))) (dExpr (dAppend 6 (dVar 7))) dNext)
theorem due_loop (D0 : Sl) (cs : List (List Int)) (hl : cs.length ≤ 1000) (h k : Sl) (w u : List Int) (hw : w.length ≤ 1000) (hu : u.length ≤ 1000) (a : Sl) (ha : a.free = true) :
    ∃ a' : Sl, a'.free = true ∧ dFor (iRg1 (dF1 semLen (dVar 1))) (.name 7) bDue (eA D0 cs h k (.val (eT w)) (.val (eT u)) (.own (.lst (eI []))) a) = some (.nx (eA D0 cs h k (.val (eT w)) (.val (eT u)) (.own (.lst (eI (iN (places cs (pN w u)))))) a')) := by
  obtain ⟨e, s, a', hf, rfl⟩ := for_rel (enc := fun n : Nat => D.int (n : Int)) (xs := List.range cs.length) (di := iRg1 (dF1 semLen (dVar 1))) (t := .name 7) (db := bDue) (env := eA D0 cs h k (.val (eT w)) (.val (eT u)) (.own (.lst (eI []))) a) (e0 := eA D0 cs h k (.val (eT w)) (.val (eT u)) (.own (.lst (eI []))) a) (u := none)
    (R := fun i e => ∃ a : Sl, a.free = true ∧ e = eA D0 cs h k (.val (eT w)) (.val (eT u)) (.own (.lst (eI (iN ((List.range i).filter fun j => pN w u (cs.getD j [])))))) a) (iRg1_nat (n := cs.length) (f1_ok (x := eC cs) rfl rfl (eC_lenF cs)) rfl (by omega)) ⟨a, ha, rfl⟩ (fun i x e hx ⟨a, ha, he⟩ => by
      subst he
      obtain rfl : x = i := by
        have := (List.getElem?_eq_some_iff.mp hx).2
        simpa using this.symm
      have hi : x < cs.length := by have := (List.getElem?_eq_some_iff.mp hx).1; simpa using this
      have gx := getD_of hi
      let E : Ev := eA D0 cs h k (.val (eT w)) (.val (eT u)) (.own (.lst (eI (iN ((List.range x).filter fun j => pN w u (cs.getD j [])))))) (.val (.int (x : Int)))
      have q1 := lc_pure (enc := D.int) (enc' := D.int) (xs := w) E (fun h => !decide (h ∈ cs.getD x [])) id (di := iVar 4) (i := 2) (dt := dTest (dBin semNotIn (dVar 2) (dBin semIx (dVar 1) (dVar 7)))) (de := dVar 2) (env := E) (e0 := E) (u := none) rfl rfl (by show 2 < 8; decide) rfl (by show _ ≤ 16777216; omega) (fun y _ => ⟨test_eq (bin_ok rfl (bin_ok rfl rfl rfl rfl (ix_eC gx)) rfl rfl (notIn_eT _ _)), fun _ => rfl⟩)
      have q2 := lc_pure (enc := D.int) (enc' := D.int) (xs := u) E (fun h => decide (h ∈ cs.getD x [])) id (di := iVar 5) (i := 2) (dt := dTest (dBin semIn (dVar 2) (dBin semIx (dVar 1) (dVar 7)))) (de := dVar 2) (env := E) (e0 := E) (u := none) rfl rfl (by show 2 < 8; decide) rfl (by show _ ≤ 16777216; omega) (fun y _ => ⟨test_eq (bin_ok rfl (bin_ok rfl rfl rfl rfl (ix_eC gx)) rfl rfl (in_eT _ _)), fun _ => rfl⟩)
      have tt := test_eq (bin_ok (bin_ok (len_lst q1 rfl) (len_lst q2 rfl) rfl rfl (show semAdd (.int _) (.int _) = some (.val (.int (_ + _))) from rfl)) (show dC (.int 0) E = some (.val (.int 0), E) from rfl) rfl rfl (eqI _ _))
      have ef : ((((((w.filter fun h => !decide (h ∈ cs.getD x [])).map id).map D.int).length : Nat) : Int) + (((((u.filter fun h => decide (h ∈ cs.getD x [])).map id).map D.int).length : Nat) : Int) == 0) = pN w u (cs.getD x []) := by
        rw [List.map_id, List.map_id, List.length_map, List.length_map, Bool.eq_iff_iff, beq_iff_eq]
        unfold pN
        rw [Bool.and_eq_true, List.all_eq_true, Bool.not_eq_true', List.any_eq_false]
        constructor
        · intro z
          have z1 : (w.filter fun h => !decide (h ∈ cs.getD x [])).length = 0 := by omega
          have z2 : (u.filter fun h => decide (h ∈ cs.getD x [])).length = 0 := by omega
          rw [List.length_eq_zero_iff, List.filter_eq_nil_iff] at z1 z2
          exact ⟨fun y hy => by simpa using z1 y hy, fun y hy => by simpa using z2 y hy⟩
        · rintro ⟨z1, z2⟩
          have z1 : (w.filter fun h => !decide (h ∈ cs.getD x [])) = [] := List.filter_eq_nil_iff.mpr fun y hy => by simpa using z1 y hy
          have z2 : (u.filter fun h => decide (h ∈ cs.getD x [])) = [] := List.filter_eq_nil_iff.mpr fun y hy => by simpa using z2 y hy
          rw [z1, z2]
          rfl
      rw [ef] at tt
      have rs : (List.range (x + 1)).filter (fun j => pN w u (cs.getD j [])) = (List.range x).filter (fun j => pN w u (cs.getD j [])) ++ (if pN w u (cs.getD x []) = true then [x] else []) := by
        rw [List.range_succ, List.filter_append]
        congr 1
        by_cases f : pN w u (cs.getD x []) = true
        · rw [if_pos f]; simp only [List.filter_cons, f, if_true, List.filter_nil]
        · rw [if_neg f]; simp only [List.filter_cons, f, List.filter_nil]; rfl
      refine ⟨E, by simp [setT, putv, eA, ha, E], eA D0 cs h k (.val (eT w)) (.val (eT u)) (.own (.lst (eI (iN ((List.range (x + 1)).filter fun j => pN w u (cs.getD j [])))))) (.val (.int (x : Int))), .inl ?_, _, rfl, rfl⟩
      by_cases f : pN w u (cs.getD x []) = true
      · rw [f] at tt
        have lt : ((eI (iN ((List.range x).filter fun j => pN w u (cs.getD j [])))).length < LN) := by
          have : ((List.range x).filter fun j => pN w u (cs.getD j [])).length ≤ x := Nat.le_trans (List.length_filter_le _ _) (by rw [List.length_range]; exact Nat.le_refl _)
          unfold eI iN
          rw [List.length_map, List.length_map]
          show _ < 16777216
          omega
        rw [show bDue E = _ from if_true' tt, rs, if_pos f]
        have ap : eI (iN ((List.range x).filter fun j => pN w u (cs.getD j []))) ++ [.int (x : Int)] = eI (iN (((List.range x).filter fun j => pN w u (cs.getD j [])) ++ [x])) := by unfold eI iN; simp
        rw [← ap]
        simp only [eA, E, dExpr, dAppend, isL, dVal, dVar, frz, onL, Sl.mt, Sl.data, asL, Sl.wt, Rs.data, List.getElem?_cons_zero, List.getElem?_cons_succ, Option.bind_some, if_true, if_pos lt, List.set_cons_zero, List.set_cons_succ]
      · have f' : pN w u (cs.getD x []) = false := by simpa using f
        rw [f'] at tt
        rw [show bDue E = _ from if_false' tt, rs, if_neg f, List.append_nil]
        rfl)
  rw [List.length_range] at s
  exact ⟨a', hf, s⟩
end G62
set_option Elab.async false
set_option linter.all false
set_option maxRecDepth 100000
namespace G62
open PySem PySem.Spec L2 VL
theorem put_val {i : Nat} {d : D} {e : Ev} {s : Sl} (h : e[i]? = some s) (hf : s.free = true) : put i (.val d) e = some (e.set i (.val d)) := by
  show (e[i]?).bind _ = _
  rw [h]
  show (if s.free = true then _ else _) = _
  rw [if_pos hf]
theorem put_fresh {i : Nat} {d : D} {e : Ev} {s : Sl} (h : e[i]? = some s) (hf : s.free = true) : put i (.fresh d) e = some (e.set i (.own d)) := by
  show (e[i]?).bind _ = _
  rw [h]
  show (if s.free = true then _ else _) = _
  rw [if_pos hf]
def dPick : DE := dF1 semTuple (dLc (iRg1 (dC (.int 8))) [2] (.name 2) (dTest (dBin semEq (dCall f__law_take (dCons (dVar 0) (dCons (dC (.int 5)) dNil))) (dC (.int 0)))) (dVar 2))
theorem pick_ok (cs : List (List Int)) (h k w u d a : Sl) (ds : List Int) : ∃ (c ds' : List Int), c.length ≤ 8 ∧ dPick (eA (dS false ds) cs h k w u d a) = some (.val (eT c), eA (dS false ds') cs h k w u d a) := by
  obtain ⟨c, ds', hc, z⟩ := lc_some2 (n := 8) (by decide) (di := iRg1 (dC (.int 8))) (i := 2) (dt := dTest (dBin semEq (dCall f__law_take (dCons (dVar 0) (dCons (dC (.int 5)) dNil))) (dC (.int 0)))) (s0 := h) (fun ds => eA (dS false ds) cs h k w u d a) ds (iRg1_nat (n := 8) rfl rfl (by decide)) (fun _ => rfl) (fun ds x => by
    obtain ⟨r, _, _, hr⟩ := take_call (j := 0) (env := (eA (dS false ds) cs h k w u d a).set 2 (.val (.int (x : Int)))) (kd := false) (ds := ds) (m := 5) (d := dC (.int 5)) rfl rfl (by decide)
    exact ⟨r == 0, ds.dropLast, test_eq (bin_ok hr rfl rfl rfl (eqI _ _))⟩)
  exact ⟨c, ds', hc, f1_tup z⟩
def bL2 : DS := (dSeq (dAsg 4 dPick) (dSeq (dAsg 5 dPick) (dSeq (dAsg 6 (dLst dNil)) (dSeq (dFor (iRg1 (dF1 semLen (dVar 1))) (.name 7) bDue) (dIfS (dNotT (dTest (dCall (r__law_same 8) (dCons (dVal (dCall f_needled (dCons (dVal (dVar 1)) (dCons (dVal (dVar 4)) (dCons (dVal (dVar 5)) dNil))))) (dCons (dF1 semTuple (dVar 6)) dNil))))) (dRet (dC (.bl false))) dNext)))))
theorem loop2_ok (cs : List (List Int)) (hl : cs.length ≤ 1000) (h : Sl) (ds : List Int) : ∃ (ds' : List Int) (k w u d a : Sl), dFor (iRg1 (dC (.int 3))) (.name 3) bL2 (eA (dS false ds) cs h .un .un .un .un .un) = some (.nx (eA (dS false ds') cs h k w u d a)) := by
  obtain ⟨e, s, ds', k, w, u, d, a, _, _, _, _, _, rfl⟩ := for_rel (enc := fun n : Nat => D.int (n : Int)) (xs := List.range 3) (di := iRg1 (dC (.int 3))) (t := .name 3) (db := bL2) (env := eA (dS false ds) cs h .un .un .un .un .un) (e0 := eA (dS false ds) cs h .un .un .un .un .un) (u := none)
    (R := fun i e => ∃ (ds : List Int) (k w u d a : Sl), k.free = true ∧ w.free = true ∧ u.free = true ∧ d.free = true ∧ a.free = true ∧ e = eA (dS false ds) cs h k w u d a) (iRg1_nat (n := 3) rfl rfl (by decide)) ⟨ds, .un, .un, .un, .un, .un, rfl, rfl, rfl, rfl, rfl, rfl⟩ (fun i x e hx ⟨ds, k, w, u, d, a, hk, hw, hu, hd, ha, he⟩ => by
      subst he
      obtain ⟨c1, ds1, l1, p1⟩ := pick_ok cs h (.val (.int (x : Int))) w u d a ds
      obtain ⟨c2, ds2, l2, p2⟩ := pick_ok cs h (.val (.int (x : Int))) (.val (eT c1)) u d a ds1
      obtain ⟨a', ha', t⟩ := due_loop (dS false ds2) cs hl h (.val (.int (x : Int))) c1 c2 (by omega) (by omega) a ha
      refine ⟨eA (dS false ds) cs h (.val (.int (x : Int))) w u d a, by simp [setT, putv, eA, hk], eA (dS false ds2) cs h (.val (.int (x : Int))) (.val (eT c1)) (.val (eT c2)) (.own (.lst (eI (iN (places cs (pN c1 c2)))))) a', .inl ?_, ds2, _, _, _, _, _, rfl, rfl, rfl, rfl, ha', rfl⟩
      refine seq_ok (asg_eq p1 (put_val (i := 4) rfl hw)) (seq_ok (asg_eq p2 (put_val (i := 5) rfl hu)) (seq_ok (asg_eq (r := .fresh (.lst (eI []))) rfl (put_fresh (i := 6) rfl hd)) (seq_ok t ?_)))
      exact if_false' (notT_eq (test_eq (same_call (val_val (call3 rfl rfl rfl (needled_ok cs hl c1 c2 (by omega) (by omega)))) (f1_ok (r := .slot 6) rfl rfl rfl) (gd_eT (len_iN _ hl))))))
  exact ⟨ds', k, w, u, d, a, s⟩
theorem cards_right_ok (ds : List Int) (cs : List (List Int)) (hl : cs.length ≤ 1000) : ∃ ds' : List Int, f__law_are_cards_right [.io (.lst (eI ds)), .val (eC cs)] = some (.val (.bl true), [.lst (eI ds')]) := by
  obtain ⟨h, _, s1⟩ := loop1_ok (dS false ds) cs hl
  obtain ⟨ds', k, w, u, d, a, s2⟩ := loop2_ok cs hl h ds
  exact ⟨ds', runF_rt (e := eA (dS false ds') cs h k w u d a) (seq_ok s1 (seq_ok s2 (ret_val rfl))) rfl rfl⟩
end G62
set_option Elab.async false
set_option linter.all false
set_option maxRecDepth 100000
namespace G62
open PySem PySem.Spec L2 VL
def eW (ns ds : List Int) (g co ca wa ma to ho st fe : Sl) : Ev := [.val (.scr (eI ns)), dS true ds, g, co, ca, wa, ma, to, ho, st, fe, .un, .un]
/-- two numbers, one of them taken -/
theorem ix01 (a b : Int) (c : Bool) : ∃ r, (r = a ∨ r = b) ∧ semIx (.lst [.int a, .int b]) (.int (if c = true then 1 else 0)) = some (.val (.int r)) := by
  cases c with
  | true => exact ⟨b, .inr rfl, rfl⟩
  | false => exact ⟨a, .inl rfl, rfl⟩
def dCode : DE := (dBin semIx (dLst (dCons (dVal (dCall f__law_take (dCons (dVar 1) (dCons (dC (.int 20)) dNil)))) (dCons (dVal (dBin semAdd (dVar 2) (dCall f__law_take (dCons (dVar 1) (dCons (dC (.int 300)) dNil))))) dNil))) (dF1 semInt (dBin semEq (dCall f__law_take (dCons (dVar 1) (dCons (dC (.int 4)) dNil))) (dC (.int 0)))))
theorem lst2 {a b : DE} {env e e2 : Ev} {x y : D} (ha : a env = some (.val x, e)) (hb : b e = some (.val y, e2)) : dLst (dCons a (dCons b dNil)) env = some (.fresh (.lst [x, y]), e2) := by
  show (dCons a (dCons b dNil) env).bind _ = _
  rw [cons_ok ha (cons_ok hb rfl)]
  show (if ([x, y] : List D).length ≤ LN then some (Rs.fresh (D.lst [x, y]), e2) else none) = _
  rw [if_pos (show ([x, y] : List D).length ≤ LN from (by decide : 2 ≤ LN))]
theorem code_ok (ns ds : List Int) (g : Int) (co ca wa ma to ho st fe k : Sl) : ∃ (c : Int) (ds' : List Int), dCode ((eW ns ds (.val (.int g)) co ca wa ma to ho st fe).set 11 k) = some (.val (.int c), (eW ns ds' (.val (.int g)) co ca wa ma to ho st fe).set 11 k) := by
  obtain ⟨a, _, _, ha⟩ := take_call (j := 1) (env := (eW ns ds (.val (.int g)) co ca wa ma to ho st fe).set 11 k) (kd := true) (ds := ds) (m := 20) (d := dC (.int 20)) rfl rfl (by decide)
  obtain ⟨b, _, _, hb⟩ := take_call (j := 1) (env := (eW ns ds.dropLast (.val (.int g)) co ca wa ma to ho st fe).set 11 k) (kd := true) (ds := ds.dropLast) (m := 300) (d := dC (.int 300)) rfl rfl (by decide)
  obtain ⟨r, _, _, hr⟩ := take_call (j := 1) (env := (eW ns ds.dropLast.dropLast (.val (.int g)) co ca wa ma to ho st fe).set 11 k) (kd := true) (ds := ds.dropLast.dropLast) (m := 4) (d := dC (.int 4)) rfl rfl (by decide)
  obtain ⟨c, _, hc⟩ := ix01 a (g + b) (r == 0)
  exact ⟨c, _, bin_ok (lst2 (val_val ha) (val_val (bin_ok rfl hb rfl rfl rfl))) (f1_ok (bin_ok hr rfl rfl rfl (eqI _ _)) rfl rfl) rfl rfl hc⟩
theorem codes_ok (ns ds : List Int) (g : Int) (co ca wa ma to ho st fe : Sl) : ∃ (cs ds' : List Int), cs.length ≤ 10 ∧ dF1 semTuple (dLc (iRg1 (dCall f__law_take (dCons (dVar 1) (dCons (dC (.int 10)) dNil)))) [11] (.name 11) dYes dCode) (eW ns ds (.val (.int g)) co ca wa ma to ho st fe) = some (.val (eT cs), eW ns ds' (.val (.int g)) co ca wa ma to ho st fe) := by
  obtain ⟨q, q0, q1, hq⟩ := take_call (j := 1) (env := eW ns ds (.val (.int g)) co ca wa ma to ho st fe) (kd := true) (ds := ds) (m := 10) (d := dC (.int 10)) rfl rfl (by decide)
  obtain ⟨m, rfl⟩ : ∃ m : Nat, q = (m : Int) := ⟨q.toNat, by omega⟩
  obtain ⟨e, a, h, ds', cs, hc, rfl, rfl⟩ := lc_rel (enc := fun n : Nat => D.int (n : Int)) (t := .name 11) (vs := [11]) (stp := stp1 dYes dCode) (xs := List.range m) (di := iRg1 (dCall f__law_take (dCons (dVar 1) (dCons (dC (.int 10)) dNil)))) (env := eW ns ds (.val (.int g)) co ca wa ma to ho st fe) (e0 := eW ns ds.dropLast (.val (.int g)) co ca wa ma to ho st fe) (u := none)
    (fun k e a => ∃ (ds cs : List Int), cs.length ≤ k ∧ a = eI cs ∧ e = eW ns ds (.val (.int g)) co ca wa ma to ho st fe) (iRg1_nat hq rfl (by omega)) ⟨_, [], Nat.le_refl 0, rfl, rfl⟩ (fun k x e a hx ⟨ds, cs, hc, ha, he⟩ => by
      subst he ha
      have hk : k < m := by have := (List.getElem?_eq_some_iff.mp hx).1; simpa using this
      obtain ⟨c, ds', ht⟩ := code_ok ns ds g co ca wa ma to ho st fe (.val (.int (x : Int)))
      have lt : (eI cs).length < LN := by rw [eI_len]; show _ < 16777216; omega
      exact ⟨(eW ns ds (.val (.int g)) co ca wa ma to ho st fe).set 11 (.val (.int (x : Int))), (eW ns ds' (.val (.int g)) co ca wa ma to ho st fe).set 11 (.val (.int (x : Int))), eI cs ++ [.int c], rfl, stp1_true rfl (val_val ht) lt, ds', cs ++ [c], by rw [List.length_append]; simp; omega, eI_append _ _, rfl⟩)
  rw [List.length_range] at hc
  exact ⟨cs, ds', by omega, f1_tup h⟩
theorem set11_ok (ns ds : List Int) (g co ca wa ma to ho st fe k : Sl) (most n : Nat) (hm : most ≤ 900) (hn : n ≤ 1000) {m1 n1 : Int} (em : m1 = (most : Int)) (en : n1 = (n : Int)) : ∃ (cs : List (List Int)) (ds' : List Int), cs.length ≤ most ∧ (∀ c ∈ cs, c.length ≤ n) ∧ dCall f__law_cards (dCons (dVar 1) (dCons (dC (.int m1)) (dCons (dC (.int n1)) dNil))) ((eW ns ds g co ca wa ma to ho st fe).set 11 k) = some (.val (eC cs), (eW ns ds' g co ca wa ma to ho st fe).set 11 k) := by
  subst em en
  obtain ⟨cs, ds', h1, h2, h3⟩ := cards_ok ds most hm n hn
  exact ⟨cs, ds', h1, h2, call_eq (rs := [.slot 1, .val _, .val _]) (cons_ok rfl (cons_ok rfl (cons_ok rfl rfl))) rfl (by simp) h3 rfl⟩
theorem flat_le {c : List (List Int)} {a b : Nat} (h1 : c.length ≤ a) (h2 : ∀ x ∈ c, x.length ≤ b) : c.flatten.length ≤ a * b := by
  induction c generalizing a with
  | nil => simp
  | cons x xs ih =>
    obtain ⟨a, rfl⟩ : ∃ k, a = k + 1 := ⟨a - 1, by simp at h1; omega⟩
    have z := ih (a := a) (by simpa using h1) (fun y hy => h2 y (List.mem_cons_of_mem _ hy))
    have y := h2 x List.mem_cons_self
    rw [List.flatten_cons, List.length_append, Nat.add_mul]
    omega
theorem shelf_ok (ns ds : List Int) (g co ca wa ma to ho st fe : Sl) : ∃ (cs : List (List (List Int))) (ds' : List Int), cs.length ≤ 7 ∧ (∀ c ∈ cs, c.length ≤ 3 ∧ c.flatten.length ≤ 63) ∧ dF1 semTuple (dLc (iRg1 (dCall f__law_take (dCons (dVar 1) (dCons (dC (.int 7)) dNil)))) [11] (.name 11) dYes (dCall f__law_cards (dCons (dVar 1) (dCons (dC (.int 3)) (dCons (dC (.int 5)) dNil))))) (eW ns ds g co ca wa ma to ho st fe) = some (.val (e3 cs), eW ns ds' g co ca wa ma to ho st fe) := by
  obtain ⟨q, q0, q1, hq⟩ := take_call (j := 1) (env := eW ns ds g co ca wa ma to ho st fe) (kd := true) (ds := ds) (m := 7) (d := dC (.int 7)) rfl rfl (by decide)
  obtain ⟨m, rfl⟩ : ∃ m : Nat, q = (m : Int) := ⟨q.toNat, by omega⟩
  obtain ⟨e, a, h, ds', cs, hc, hcs, rfl, rfl⟩ := lc_rel (enc := fun n : Nat => D.int (n : Int)) (t := .name 11) (vs := [11]) (stp := stp1 dYes (dCall f__law_cards (dCons (dVar 1) (dCons (dC (.int 3)) (dCons (dC (.int 5)) dNil))))) (xs := List.range m) (di := iRg1 (dCall f__law_take (dCons (dVar 1) (dCons (dC (.int 7)) dNil)))) (env := eW ns ds g co ca wa ma to ho st fe) (e0 := eW ns ds.dropLast g co ca wa ma to ho st fe) (u := none)
    (fun k e a => ∃ (ds : List Int) (cs : List (List (List Int))), cs.length ≤ k ∧ (∀ c ∈ cs, c.length ≤ 3 ∧ c.flatten.length ≤ 63) ∧ a = cs.map eC ∧ e = eW ns ds g co ca wa ma to ho st fe) (iRg1_nat hq rfl (by omega)) ⟨_, [], Nat.le_refl 0, (fun _ z => by cases z), rfl, rfl⟩ (fun k x e a hx ⟨ds, cs, hc, hcs, ha, he⟩ => by
      subst he ha
      have hk : k < m := by have := (List.getElem?_eq_some_iff.mp hx).1; simpa using this
      obtain ⟨c, ds', h1, h2, ht⟩ := set11_ok ns ds g co ca wa ma to ho st fe (.val (.int (x : Int))) 3 5 (by decide) (by decide) (m1 := 3) (n1 := 5) rfl rfl
      have lt : (cs.map eC).length < LN := by rw [List.length_map]; show _ < 16777216; omega
      refine ⟨(eW ns ds g co ca wa ma to ho st fe).set 11 (.val (.int (x : Int))), (eW ns ds' g co ca wa ma to ho st fe).set 11 (.val (.int (x : Int))), cs.map eC ++ [eC c], rfl, stp1_true rfl (val_val ht) lt, ds', cs ++ [c], by rw [List.length_append]; simp; omega, fun y hy => ?_, by rw [List.map_append]; rfl, rfl⟩
      rcases List.mem_append.mp hy with hy | hy
      · exact hcs _ hy
      · rw [List.mem_singleton.mp hy]
        have := flat_le h1 h2
        exact ⟨h1, by omega⟩)
  rw [List.length_range] at hc
  exact ⟨cs, ds', by omega, hcs, f1_tup h⟩
theorem wanted_ok (ns ds : List Int) (g co ca wa ma to ho st fe : Sl) : ∃ (c ds' : List Int), c.length ≤ 5 ∧ dF1 semTuple (dLc (iRg1 (dC (.int 5))) [12] (.name 12) (dTest (dBin semEq (dCall f__law_take (dCons (dVar 1) (dCons (dC (.int 3)) dNil))) (dC (.int 0)))) (dVar 12)) (eW ns ds g co ca wa ma to ho st fe) = some (.val (eT c), eW ns ds' g co ca wa ma to ho st fe) := by
  obtain ⟨c, ds', hc, z⟩ := lc_some2 (n := 5) (by decide) (di := iRg1 (dC (.int 5))) (i := 12) (dt := dTest (dBin semEq (dCall f__law_take (dCons (dVar 1) (dCons (dC (.int 3)) dNil))) (dC (.int 0)))) (s0 := .un) (fun ds => eW ns ds g co ca wa ma to ho st fe) ds (iRg1_nat (n := 5) rfl rfl (by decide)) (fun _ => rfl) (fun ds x => by
    obtain ⟨r, _, _, hr⟩ := take_call (j := 1) (env := (eW ns ds g co ca wa ma to ho st fe).set 12 (.val (.int (x : Int)))) (kd := true) (ds := ds) (m := 3) (d := dC (.int 3)) rfl rfl (by decide)
    exact ⟨r == 0, ds.dropLast, test_eq (bin_ok hr rfl rfl rfl (eqI _ _))⟩)
  exact ⟨c, ds', hc, f1_tup z⟩
end G62
set_option Elab.async false
set_option linter.all false
set_option maxRecDepth 100000
namespace G62
open PySem PySem.Spec L2 VL
/-! ### the law, statement by statement -/
def l0 : DS := (dAsg 1 (dCall f__law_draws (dCons (dVal (dVar 0)) (dCons (dC (.int 300)) dNil))))
def l1 : DS := (dIfS (dNotT (dTest (dCall f__law_are_cards_right (dCons (dVar 1) (dCons (dVal (dCall f__law_cards (dCons (dVar 1) (dCons (dC (.int 9)) (dCons (dC (.int 8)) dNil))))) dNil))))) (dRet (dC (.bl false))) dNext)
def l2 : DS := (dAsg 2 (dBin modI (dF1 semAbs (dCall f__law_cell (dCons (dVal (dVar 0)) (dCons (dVar 1) dNil)))) (dBin powI (dC (.int 10)) (dC (.int 29)))))
def l3 : DS := (dAsg 3 (dF1 semTuple (dLc (iRg1 (dCall f__law_take (dCons (dVar 1) (dCons (dC (.int 10)) dNil)))) [11] (.name 11) dYes (dBin semIx (dLst (dCons (dVal (dCall f__law_take (dCons (dVar 1) (dCons (dC (.int 20)) dNil)))) (dCons (dVal (dBin semAdd (dVar 2) (dCall f__law_take (dCons (dVar 1) (dCons (dC (.int 300)) dNil))))) dNil))) (dF1 semInt (dBin semEq (dCall f__law_take (dCons (dVar 1) (dCons (dC (.int 4)) dNil))) (dC (.int 0))))))))
def l4 : DS := (dIfS (dNotT (dTest (dCall f__law_is_sorted_right (dCons (dVal (dVar 3)) (dCons (dVal (dCall f__law_take (dCons (dVar 1) (dCons (dC (.int 9)) dNil)))) dNil))))) (dRet (dC (.bl false))) dNext)
def l5 : DS := (dAsg 4 (dF1 semTuple (dLc (iRg1 (dCall f__law_take (dCons (dVar 1) (dCons (dC (.int 7)) dNil)))) [11] (.name 11) dYes (dCall f__law_cards (dCons (dVar 1) (dCons (dC (.int 3)) (dCons (dC (.int 5)) dNil)))))))
def l6 : DS := (dAsg 5 (dF1 semTuple (dLc (iRg1 (dC (.int 5))) [12] (.name 12) (dTest (dBin semEq (dCall f__law_take (dCons (dVar 1) (dCons (dC (.int 3)) dNil))) (dC (.int 0)))) (dVar 12))))
def l7 : DS := (dIfS (dNotT (dTest (dCall f__law_is_false_right (dCons (dVar 1) (dCons (dVal (dVar 4)) (dCons (dVal (dVar 5)) dNil)))))) (dRet (dC (.bl false))) dNext)
def l8 : DS := (dFor (iSeq (dLst (dCons (dVal (dBin semAdd (dC (.int 1)) (dCall f__law_take (dCons (dVar 1) (dCons (dC (.int 70)) dNil))))) (dCons (dVal (dBin semAdd (dC (.int 1)) (dVar 2))) dNil)))) (.name 6) (dSeq (dAsgT (.tup [7, 8]) (dTup (dCons (dC (.int 1)) (dCons (dC (.int 0)) dNil)))) (dSeq (dFor (iRg1 (dC (.int 100))) (.name 9) (dIfS (dTest (dBin semLt (dVar 7) (dVar 6))) (dPar [7, 8] (dCons (dVal (dBin semMul (dVar 7) (dC (.int 2)))) (dCons (dVal (dBin semAdd (dVar 8) (dC (.int 1)))) dNil))) dNext)) (dIfS (dNotT (dTest (dCall (r__law_same 8) (dCons (dVal (dCall f_needles_for (dCons (dVal (dVar 6)) dNil))) (dCons (dVal (dVar 8)) dNil))))) (dRet (dC (.bl false))) dNext))))
def l9 : DS := (dAsg 8 (dCall f__law_take (dCons (dVar 1) (dCons (dC (.int 20)) dNil))))
def l10 : DS := (dIfS (dOrT (dNotT (dTest (dCall (r__law_same 8) (dCons (dVal (dCall f_two_of (dCons (dVal (dVar 8)) dNil))) (dCons (dF1 semSum (dListR (dR1 (dVar 8)))) dNil))))) (dNotT (dTest (dCall (r__law_same 8) (dCons (dVal (dCall f_two_of (dCons (dVal (dBin semAdd (dVar 2) (dC (.int 1)))) dNil))) (dCons (dVal (dBin semAdd (dCall f_two_of (dCons (dVal (dVar 2)) dNil)) (dVar 2))) dNil)))))) (dRet (dC (.bl false))) dNext)
def l11 : DS := (dAsg 10 (dTup (dCons (dTup (dCons (dC (.int 0)) (dCons (dC (.int 2)) dNil))) (dCons (dTup (dCons (dC (.int 1)) dNil)) (dCons (dTup dNil) (dCons (dTup (dCons (dC (.int 0)) (dCons (dC (.int 1)) (dCons (dC (.int 2)) dNil)))) (dCons (dTup (dCons (dC (.int 2)) (dCons (dC (.int 5)) dNil))) dNil)))))))
def l12 : DS := (dIfS (dOrT (dNotT (dTest (dCall (r__law_same 8) (dCons (dVal (dCall f_fallen (dCons (dVal (dVar 10)) (dCons (dC (.int 2)) dNil)))) (dCons (dTup (dCons (dC (.int 0)) (dCons (dC (.int 3)) (dCons (dC (.int 4)) dNil)))) dNil))))) (dOrT (dNotT (dTest (dCall (r__law_same 8) (dCons (dVal (dCall f_needled (dCons (dVal (dVar 10)) (dCons (dTup (dCons (dC (.int 2)) dNil)) (dCons (dTup (dCons (dC (.int 1)) (dCons (dC (.int 5)) dNil))) dNil))))) (dCons (dTup (dCons (dC (.int 0)) dNil)) dNil))))) (dNotT (dTest (dCall (r__law_same 8) (dCons (dVal (dCall f_needled (dCons (dVal (dVar 10)) (dCons (dTup dNil) (dCons (dTup (dCons (dC (.int 0)) dNil)) dNil))))) (dCons (dTup (dCons (dC (.int 1)) (dCons (dC (.int 2)) (dCons (dC (.int 4)) dNil)))) dNil))))))) (dRet (dC (.bl false))) dNext)
def l13 : DS := (dIfS (dOrT (dNotT (dTest (dCall (r__law_same 8) (dCons (dVal (dCall f_sorted_by_needles (dCons (dTup (dCons (dC (.int 5)) (dCons (dC (.int 2)) (dCons (dC (.int 7)) (dCons (dC (.int 2)) (dCons (dC (.int 0)) (dCons (dC (.int 13)) dNil))))))) (dCons (dC (.int 3)) dNil)))) (dCons (dTup (dCons (dC (.int 4)) (dCons (dC (.int 1)) (dCons (dC (.int 3)) (dCons (dC (.int 0)) (dCons (dC (.int 5)) (dCons (dC (.int 2)) dNil))))))) dNil))))) (dOrT (dNotT (dTest (dCall (r__law_same 8) (dCons (dVal (dCall f_needles_for (dCons (dC (.int 8)) dNil))) (dCons (dC (.int 3)) dNil))))) (dOrT (dNotT (dTest (dCall (r__law_same 8) (dCons (dVal (dCall f_needles_for (dCons (dC (.int 9)) dNil))) (dCons (dC (.int 4)) dNil))))) (dNotT (dTest (dCall (r__law_same 8) (dCons (dVal (dCall f_needles_for (dCons (dC (.int 1)) dNil))) (dCons (dC (.int 0)) dNil)))))))) (dRet (dC (.bl false))) dNext)
def l14 : DS := (dIfS (dOrT (dNotT (dTest (dCall (r__law_same 8) (dCons (dVal (dCall f_false_falls (dCons (dTup (dCons (dTup (dCons (dTup (dCons (dC (.int 0)) (dCons (dC (.int 1)) dNil))) (dCons (dTup (dCons (dC (.int 2)) (dCons (dC (.int 3)) dNil))) dNil))) (dCons (dTup (dCons (dTup (dCons (dC (.int 0)) (dCons (dC (.int 2)) dNil))) dNil)) (dCons (dTup (dCons (dTup (dCons (dC (.int 0)) (dCons (dC (.int 2)) dNil))) (dCons (dTup (dCons (dC (.int 1)) (dCons (dC (.int 4)) dNil))) dNil))) (dCons (dTup dNil) dNil))))) (dCons (dTup (dCons (dC (.int 0)) (dCons (dC (.int 2)) dNil))) dNil)))) (dCons (dTup (dCons (dC (.int 0)) dNil)) dNil))))) (dOrT (dNotT (dTest (dCall (r__law_same 8) (dCons (dVal (dCall f_two_of (dCons (dC (.int 5)) dNil))) (dCons (dC (.int 10)) dNil))))) (dNotT (dTest (dCall (r__law_same 8) (dCons (dVal (dCall f_false_falls (dCons (dTup (dCons (dTup (dCons (dTup (dCons (dC (.int 1)) dNil)) dNil)) (dCons (dTup dNil) dNil))) (dCons (dTup dNil) dNil)))) (dCons (dTup (dCons (dC (.int 0)) (dCons (dC (.int 1)) dNil))) dNil))))))) (dRet (dC (.bl false))) dNext)
def l15 : DS := (dRet (dAndV (dCall f__law_are_cards_right (dCons (dVar 1) (dCons (dVal (dVar 10)) dNil))) (dAndV (dCall f__law_is_sorted_right (dCons (dTup (dCons (dC (.int 3)) (dCons (dC (.int 1)) (dCons (dC (.int 2)) dNil)))) (dCons (dC (.int 0)) dNil))) (dCall (r__law_same 8) (dCons (dVal (dCall f_two_of (dCons (dC (.int 0)) dNil))) (dCons (dC (.int 0)) dNil))))))
theorem b_law_eq : b_law = (dSeq l0 (dSeq l1 (dSeq l2 (dSeq l3 (dSeq l4 (dSeq l5 (dSeq l6 (dSeq l7 (dSeq l8 (dSeq l9 (dSeq l10 (dSeq l11 (dSeq l12 (dSeq l13 (dSeq l14 l15))))))))))))))) := rfl
theorem no_ok {a b : DE} {env e e2 : Ev} {d : D} (ha : a env = some (.val d, e)) (hb : b e = some (.val d, e2)) (h : d.gd 7 = true) : dNotT (dTest (dCall (r__law_same 8) (dCons a (dCons b dNil)))) env = some (false, e2) := notT_eq (test_eq (same_call ha hb h))
theorem gd_int (i : Int) : (D.int i).gd 7 = true := rfl
/-! needles for -/
def tL : DT := dTest (dBin semLt (dVar 7) (dVar 6))
def sL : DS := dPar [7, 8] (dCons (dVal (dBin semMul (dVar 7) (dC (.int 2)))) (dCons (dVal (dBin semAdd (dVar 8) (dC (.int 1)))) dNil))
theorem tL_eq (ns ds : List Int) (g co ca wa st fe : Sl) (m t h : Int) : tL (eW ns ds g co ca wa (.val (.int m)) (.val (.int t)) (.val (.int h)) st fe) = some (decide (t < m), eW ns ds g co ca wa (.val (.int m)) (.val (.int t)) (.val (.int h)) st fe) := test_eq (bin_ok rfl rfl rfl rfl rfl)
theorem sL_eq (ns ds : List Int) (g co ca wa st fe : Sl) (m t h : Int) : sL (eW ns ds g co ca wa (.val (.int m)) (.val (.int t)) (.val (.int h)) st fe) = some (.nx (eW ns ds g co ca wa (.val (.int m)) (.val (.int (t * 2))) (.val (.int (h + 1))) st fe)) := by
  have e := semMul_int (i := t) (j := 2) (cMul_r (by decide))
  have a1 : dVal (dBin semMul (dVar 7) (dC (.int 2))) (eW ns ds g co ca wa (.val (.int m)) (.val (.int t)) (.val (.int h)) st fe) = some (.val (.int (t * 2)), eW ns ds g co ca wa (.val (.int m)) (.val (.int t)) (.val (.int h)) st fe) := val_val (bin_ok rfl rfl rfl rfl e)
  have a2 : dVal (dBin semAdd (dVar 8) (dC (.int 1))) (eW ns ds g co ca wa (.val (.int m)) (.val (.int t)) (.val (.int h)) st fe) = some (.val (.int (h + 1)), eW ns ds g co ca wa (.val (.int m)) (.val (.int t)) (.val (.int h)) st fe) := val_val (bin_ok rfl rfl rfl rfl rfl)
  have a3 := cons_ok a1 (cons_ok a2 (show dNil _ = some ([], _) from rfl))
  show (dCons _ _ _).bind _ = _
  rw [a3]
  rfl
theorem steps_ok (ns ds : List Int) (g co ca wa fe st : Sl) (hst : st.free = true) (m : Int) : ∃ st' : Sl, st'.free = true ∧ dFor (iRg1 (dC (.int 100))) (.name 9) (dIfS tL sL dNext) (eW ns ds g co ca wa (.val (.int m)) (.val (.int 1)) (.val (.int 0)) st fe) = some (.nx (eW ns ds g co ca wa (.val (.int m)) (.val (.int (2 ^ go m 100 0))) (.val (.int (go m 100 0 : Nat))) st' fe)) := by
  obtain ⟨e, s, h, st', hf, hg, rfl⟩ := for_rel (enc := fun n : Nat => D.int (n : Int)) (xs := List.range 100) (di := iRg1 (dC (.int 100))) (t := .name 9) (db := dIfS tL sL dNext) (env := eW ns ds g co ca wa (.val (.int m)) (.val (.int 1)) (.val (.int 0)) st fe) (e0 := eW ns ds g co ca wa (.val (.int m)) (.val (.int 1)) (.val (.int 0)) st fe) (u := none)
    (R := fun k e => ∃ (h : Nat) (st' : Sl), st'.free = true ∧ go m (100 - k) h = go m 100 0 ∧ e = eW ns ds g co ca wa (.val (.int m)) (.val (.int (2 ^ h))) (.val (.int (h : Int))) st' fe) (iRg1_nat (n := 100) rfl rfl (by decide)) ⟨0, st, hst, rfl, by rw [Int.pow_zero]; rfl⟩ (fun i x e hx ⟨h, st', hf, hg, he⟩ => by
      subst he
      have hi : i < 100 := by have := (List.getElem?_eq_some_iff.mp hx).1; simpa using this
      obtain ⟨n, hn⟩ : ∃ n, 100 - i = n + 1 := ⟨99 - i, by omega⟩
      have hn2 : 100 - (i + 1) = n := by omega
      rw [hn] at hg
      have t := tL_eq ns ds g co ca wa (.val (.int (x : Int))) fe m (2 ^ h) (h : Int)
      refine ⟨eW ns ds g co ca wa (.val (.int m)) (.val (.int (2 ^ h))) (.val (.int (h : Int))) (.val (.int (x : Int))) fe, by simp [setT, putv, eW, hf], ?_⟩
      by_cases c : (2 : Int) ^ h < m
      · rw [decide_eq_true c] at t
        have e1 : go m (n + 1) h = go m n (h + 1) := if_pos c
        refine ⟨_, .inl ((if_true' t).trans (sL_eq _ _ _ _ _ _ _ _ _ _ _)), h + 1, .val (.int (x : Int)), rfl, by rw [hn2, ← e1]; exact hg, ?_⟩
        rw [pow_dbl]
        rfl
      · rw [decide_eq_false c] at t
        have e1 : go m (n + 1) h = h := if_neg c
        have e2 : go m n h = h := by
          cases n with
          | zero => rfl
          | succ n => exact if_neg c
        exact ⟨_, .inl ((if_false' t).trans rfl), h, .val (.int (x : Int)), rfl, by rw [hn2, e2, ← e1]; exact hg, rfl⟩)
  rw [List.length_range] at hg
  have hg : h = go m 100 0 := hg
  subst hg
  exact ⟨st', hf, s⟩
theorem many_ok (ns ds : List Int) (g : Int) (g0 : 0 ≤ g) (g1 : g < 100000000000000000000000000000) (co ca wa fe : Sl) : ∃ (ds' : List Int) (ma to ho st : Sl), ho.free = true ∧ l8 (eW ns ds (.val (.int g)) co ca wa .un .un .un .un fe) = some (.nx (eW ns ds' (.val (.int g)) co ca wa ma to ho st fe)) := by
  obtain ⟨r, r0, r1, hr⟩ := take_call (j := 1) (env := eW ns ds (.val (.int g)) co ca wa .un .un .un .un fe) (kd := true) (ds := ds) (m := 70) (d := dC (.int 70)) rfl rfl (by decide)
  have hp : (100000000000000000000000000000 : Int) < 2 ^ 100 := by decide
  have di : iSeq (dLst (dCons (dVal (dBin semAdd (dC (.int 1)) (dCall f__law_take (dCons (dVar 1) (dCons (dC (.int 70)) dNil))))) (dCons (dVal (dBin semAdd (dC (.int 1)) (dVar 2))) dNil))) (eW ns ds (.val (.int g)) co ca wa .un .un .un .un fe) = some ([1 + r, 1 + g].map D.int, eW ns ds.dropLast (.val (.int g)) co ca wa .un .un .un .un fe, none) :=
    seq_fresh (lst2 (val_val (bin_ok rfl hr rfl rfl rfl)) (val_val (bin_ok rfl rfl rfl rfl rfl)))
  obtain ⟨e, s, ma, to, ho, st, _, _, f3, _, rfl⟩ := for_rel (enc := D.int) (xs := [1 + r, 1 + g]) (t := .name 6) (db := (dSeq (dAsgT (.tup [7, 8]) (dTup (dCons (dC (.int 1)) (dCons (dC (.int 0)) dNil)))) (dSeq (dFor (iRg1 (dC (.int 100))) (.name 9) (dIfS tL sL dNext)) (dIfS (dNotT (dTest (dCall (r__law_same 8) (dCons (dVal (dCall f_needles_for (dCons (dVal (dVar 6)) dNil))) (dCons (dVal (dVar 8)) dNil))))) (dRet (dC (.bl false))) dNext)))) (env := eW ns ds (.val (.int g)) co ca wa .un .un .un .un fe) (e0 := eW ns ds.dropLast (.val (.int g)) co ca wa .un .un .un .un fe) (u := none)
    (R := fun _ e => ∃ ma to ho st : Sl, ma.free = true ∧ to.free = true ∧ ho.free = true ∧ st.free = true ∧ e = eW ns ds.dropLast (.val (.int g)) co ca wa ma to ho st fe) di ⟨.un, .un, .un, .un, rfl, rfl, rfl, rfl, rfl⟩ (fun i x e hx ⟨ma, to, ho, st, f1, f2, f3, f4, he⟩ => by
      subst he
      have hx : x ≤ 2 ^ 100 := by
        have := List.mem_of_getElem? hx
        simp only [List.mem_cons, List.not_mem_nil, or_false] at this
        rcases this with rfl | rfl <;> omega
      obtain ⟨st', f5, t⟩ := steps_ok ns ds.dropLast (.val (.int g)) co ca wa fe st f4 x
      refine ⟨eW ns ds.dropLast (.val (.int g)) co ca wa (.val (.int x)) to ho st fe, by simp [setT, putv, eW, f1], eW ns ds.dropLast (.val (.int g)) co ca wa (.val (.int x)) (.val (.int (2 ^ go x 100 0))) (.val (.int (go x 100 0 : Nat))) st' fe, .inl (seq_ok (e := eW ns ds.dropLast (.val (.int g)) co ca wa (.val (.int x)) (.val (.int 1)) (.val (.int 0)) st fe) ?_ (seq_ok t (if_false' (no_ok (val_val (call1 rfl (needles_ok x hx))) rfl (gd_int _))))), _, _, _, _, rfl, rfl, rfl, f5, rfl⟩
      have a := tup2 (a := dC (.int 1)) (b := dC (.int 0)) (env := eW ns ds.dropLast (.val (.int g)) co ca wa (.val (.int x)) to ho st fe) rfl rfl
      show (dVal _ _).bind _ = _
      rw [val_val a]
      show (putvs [7, 8] [.int 1, .int 0] (eW ns ds.dropLast (.val (.int g)) co ca wa (.val (.int x)) to ho st fe)).bind _ = _
      have p : putvs [7, 8] [.int 1, .int 0] (eW ns ds.dropLast (.val (.int g)) co ca wa (.val (.int x)) to ho st fe) = some (eW ns ds.dropLast (.val (.int g)) co ca wa (.val (.int x)) (.val (.int 1)) (.val (.int 0)) st fe) := by
        simp [putvs, putv, eW, f2, f3]
      rw [p]
      rfl)
  exact ⟨ds.dropLast, ma, to, ho, st, f3, s⟩
end G62
set_option Elab.async false
set_option linter.all false
set_option maxRecDepth 100000
namespace G62
open PySem PySem.Spec L2 VL
theorem andV_true {a b : DE} {env e : Ev} {o : Option (Rs × Ev)} (h : a env = some (.val (.bl true), e)) (k : b e = o) : dAndV a b env = o := by
  show (dTest a env).bind _ = _
  rw [test_eq h]
  exact k
theorem tri : ∀ h : Nat, h < 20 → (h : Int) * ((h : Int) - 1) / 2 = (iN (List.range h)).sum := by decide
theorem tri_step (g : Int) : (g + 1) * (g + 1 - 1) / 2 = g * (g - 1) / 2 + g := by
  have e : (g + 1) * (g + 1 - 1) = g * (g - 1) + g * 2 := by
    rw [Int.add_sub_cancel, Int.add_mul, Int.one_mul, Int.mul_sub, Int.mul_one]
    omega
  rw [e, Int.add_mul_ediv_right _ _ (by decide)]
def few : List (List Int) := [[0, 2], [1], [], [0, 1, 2], [2, 5]]
theorem few1 : iN (places few fun c => decide ((2 : Int) ∈ c)) = [0, 3, 4] := by decide
theorem few2 : iN (places few fun c => (([2] : List Int).all fun h => decide (h ∈ c)) && !(([1, 5] : List Int).any fun h => decide (h ∈ c))) = [0] := by decide
theorem few3 : iN (places few fun c => (([] : List Int).all fun h => decide (h ∈ c)) && !(([0] : List Int).any fun h => decide (h ∈ c))) = [1, 2, 4] := by decide
theorem few4 : iN (rdx [5, 2, 7, 2, 0, 13] 3 3) = [4, 1, 3, 0, 5, 2] := by decide
def fal1 : List (List (List Int)) := [[[0, 1], [2, 3]], [[0, 2]], [[0, 2], [1, 4]], []]
def fal2 : List (List (List Int)) := [[[1]], []]
theorem few5 : iN ((List.range fal1.length).filter (fall fal1 [0, 2])) = [0] := by decide
theorem few6 : iN ((List.range fal2.length).filter (fall fal2 [])) = [0, 1] := by decide
theorem go8 : go 8 100 0 = 3 := by decide
theorem go9 : go 9 100 0 = 4 := by decide
theorem go1 : go 1 100 0 = 0 := by decide
theorem f_needles8 : f_needles_for [.val (.int 8)] = some (.val (.int 3), []) := by have := needles_ok 8 (by decide); rw [go8] at this; exact this
theorem f_needles9 : f_needles_for [.val (.int 9)] = some (.val (.int 4), []) := by have := needles_ok 9 (by decide); rw [go9] at this; exact this
theorem f_needles1 : f_needles_for [.val (.int 1)] = some (.val (.int 0), []) := by have := needles_ok 1 (by decide); rw [go1] at this; exact this
theorem f_fallen2 : f_fallen [.val (eC few), .val (.int 2)] = some (.val (eT [0, 3, 4]), []) := by have := fallen_ok few (by decide) 2; rw [few1] at this; exact this
theorem f_needled2 : f_needled [.val (eC few), .val (eT [2]), .val (eT [1, 5])] = some (.val (eT [0]), []) := by have := needled_ok few (by decide) [2] [1, 5] (by decide) (by decide); rw [few2] at this; exact this
theorem f_needled3 : f_needled [.val (eC few), .val (eT []), .val (eT [0])] = some (.val (eT [1, 2, 4]), []) := by have := needled_ok few (by decide) [] [0] (by decide) (by decide); rw [few3] at this; exact this
theorem f_sorted1 : f_sorted_by_needles [.val (eT [5, 2, 7, 2, 0, 13]), .val (.int 3)] = some (.val (eT [4, 1, 3, 0, 5, 2]), []) := by have := sorted_ok [5, 2, 7, 2, 0, 13] (by decide) 3 (by decide); rw [few4] at this; exact this
theorem f_falls1 : f_false_falls [.val (e3 fal1), .val (eT [0, 2])] = some (.val (eT [0]), []) := by have := falls_ok fal1 [0, 2] (by decide) (by decide) (by decide); rw [few5] at this; exact this
theorem f_falls2 : f_false_falls [.val (e3 fal2), .val (eT [])] = some (.val (eT [0, 1]), []) := by have := falls_ok fal2 [] (by decide) (by decide) (by decide); rw [few6] at this; exact this
theorem l11_ok (ns ds : List Int) (g co ca wa ma to ho st : Sl) : l11 (eW ns ds g co ca wa ma to ho st .un) = some (.nx (eW ns ds g co ca wa ma to ho st (.val (eC few)))) := rfl
theorem l12_ok (ns ds : List Int) (g co ca wa ma to ho st : Sl) : l12 (eW ns ds g co ca wa ma to ho st (.val (eC few))) = some (.nx (eW ns ds g co ca wa ma to ho st (.val (eC few)))) :=
  if_false' ((or_false' (no_ok (d := eT [0, 3, 4]) (val_val (call2 rfl rfl f_fallen2)) rfl (gd_eT (by decide)))).trans ((or_false' (no_ok (d := eT [0]) (val_val (call3 (y := eT [2]) (z := eT [1, 5]) rfl rfl rfl f_needled2)) rfl (gd_eT (by decide)))).trans (no_ok (d := eT [1, 2, 4]) (val_val (call3 (y := eT []) (z := eT [0]) rfl rfl rfl f_needled3)) rfl (gd_eT (by decide)))))
theorem l13_ok (e : Ev) : l13 e = some (.nx e) :=
  if_false' ((or_false' (no_ok (d := eT [4, 1, 3, 0, 5, 2]) (val_val (call2 (x := eT [5, 2, 7, 2, 0, 13]) rfl rfl f_sorted1)) rfl (gd_eT (by decide)))).trans ((or_false' (no_ok (d := .int 3) (val_val (call1 rfl f_needles8)) rfl (gd_int _))).trans ((or_false' (no_ok (d := .int 4) (val_val (call1 rfl f_needles9)) rfl (gd_int _))).trans (no_ok (d := .int 0) (val_val (call1 rfl f_needles1)) rfl (gd_int _)))))
theorem l14_ok (e : Ev) : l14 e = some (.nx e) :=
  if_false' ((or_false' (no_ok (d := eT [0]) (val_val (call2 (x := e3 fal1) (y := eT [0, 2]) rfl rfl f_falls1)) rfl (gd_eT (by decide)))).trans ((or_false' (no_ok (d := .int 10) (val_val (call1 rfl (two_ok 5 (by decide)))) rfl (gd_int _))).trans (no_ok (d := eT [0, 1]) (val_val (call2 (x := e3 fal2) (y := eT []) rfl rfl f_falls2)) rfl (gd_eT (by decide)))))
end G62
set_option Elab.async false
set_option linter.all false
set_option maxRecDepth 100000
namespace G62
open PySem PySem.Spec L2 VL
theorem l0_ok (ns : List Int) (hn : ns.length ≤ 63) : ∃ ds : List Int, l0 [.val (.scr (eI ns)), .un, .un, .un, .un, .un, .un, .un, .un, .un, .un, .un, .un] = some (.nx (eW ns ds .un .un .un .un .un .un .un .un .un)) := by
  obtain ⟨ds, _, h⟩ := draws_ok ns hn 300 (by decide)
  have h : f__law_draws [.val (.scr (eI ns)), .val (.int 300)] = some (.fresh (.lst (eI ds)), []) := h
  exact ⟨ds, asg_eq (call2 (x := .scr (eI ns)) (y := .int 300) rfl rfl h) rfl⟩
theorem l1_ok (ns ds : List Int) : ∃ ds' : List Int, l1 (eW ns ds .un .un .un .un .un .un .un .un .un) = some (.nx (eW ns ds' .un .un .un .un .un .un .un .un .un)) := by
  obtain ⟨cs, ds1, h1, h2, h3⟩ := cards_ok ds 9 (by decide) 8 (by decide)
  have h3 : f__law_cards [.io (.lst (eI ds)), .val (.int 9), .val (.int 8)] = some (.val (eC cs), [.lst (eI ds1)]) := h3
  obtain ⟨ds2, h4⟩ := cards_right_ok ds1 cs (by omega)
  have c1 : dCall f__law_cards (dCons (dVar 1) (dCons (dC (.int 9)) (dCons (dC (.int 8)) dNil))) (eW ns ds .un .un .un .un .un .un .un .un .un) = some (.val (eC cs), eW ns ds1 .un .un .un .un .un .un .un .un .un) := call_eq (rs := [.slot 1, .val (.int 9), .val (.int 8)]) (cons_ok rfl (cons_ok rfl (cons_ok rfl rfl))) rfl (by simp) h3 rfl
  have c2 : dCall f__law_are_cards_right (dCons (dVar 1) (dCons (dVal (dCall f__law_cards (dCons (dVar 1) (dCons (dC (.int 9)) (dCons (dC (.int 8)) dNil))))) dNil)) (eW ns ds .un .un .un .un .un .un .un .un .un) = some (.val (.bl true), eW ns ds2 .un .un .un .un .un .un .un .un .un) := call_eq (rs := [.slot 1, .val (eC cs)]) (cons_ok rfl (cons_ok (val_val c1) rfl)) rfl (by simp) h4 rfl
  exact ⟨ds2, if_false' (notT_eq (test_eq c2))⟩
theorem l2_ok (ns ds : List Int) (hn : ns.length ≤ 63) : ∃ (g : Int) (ds' : List Int), 0 ≤ g ∧ g < 100000000000000000000000000000 ∧ l2 (eW ns ds .un .un .un .un .un .un .un .un .un) = some (.nx (eW ns ds' (.val (.int g)) .un .un .un .un .un .un .un .un)) := by
  obtain ⟨c, ds', _, _, h⟩ := cell_ok ns ds hn
  have h : f__law_cell [.val (.scr (eI ns)), .io (.lst (eI ds))] = some (.val (.int c), [.lst (eI ds')]) := h
  have c1 : dCall f__law_cell (dCons (dVal (dVar 0)) (dCons (dVar 1) dNil)) (eW ns ds .un .un .un .un .un .un .un .un .un) = some (.val (.int c), eW ns ds' .un .un .un .un .un .un .un .un .un) := call_eq (rs := [.val (.scr (eI ns)), .slot 1]) (cons_ok rfl (cons_ok rfl rfl)) rfl (by simp) h rfl
  exact ⟨_, ds', Int.emod_nonneg _ (by decide), Int.emod_lt_of_pos _ (by decide), asg_eq (bin_ok (f1_ok c1 rfl rfl) (bin_ok rfl rfl rfl rfl pow29) rfl rfl (modI_int (by decide))) rfl⟩
theorem l4_ok (ns ds cs : List Int) (hc : cs.length ≤ 1000) (g : Sl) : ∃ ds' : List Int, l4 (eW ns ds g (.val (eT cs)) .un .un .un .un .un .un .un) = some (.nx (eW ns ds' g (.val (eT cs)) .un .un .un .un .un .un .un)) := by
  obtain ⟨q, q0, q1, hq⟩ := take_call (j := 1) (env := eW ns ds g (.val (eT cs)) .un .un .un .un .un .un .un) (kd := true) (ds := ds) (m := 9) (d := dC (.int 9)) rfl rfl (by decide)
  obtain ⟨m, rfl⟩ : ∃ m : Nat, q = (m : Int) := ⟨q.toNat, by omega⟩
  exact ⟨ds.dropLast, if_false' (notT_eq (test_eq (call2 rfl (val_val hq) (law_sorted_ok cs hc m (by omega)))))⟩
theorem l7_ok (ns ds : List Int) (g co : Sl) (cs : List (List (List Int))) (w : List Int) (hl : cs.length ≤ 7) (hw : w.length ≤ 5) (hb : ∀ c ∈ cs, c.length ≤ 3 ∧ c.flatten.length ≤ 63) : l7 (eW ns ds g co (.val (e3 cs)) (.val (eT w)) .un .un .un .un .un) = some (.nx (eW ns ds g co (.val (e3 cs)) (.val (eT w)) .un .un .un .un .un)) := by
  have h := law_false_ok ds cs w (by omega) (by omega) (fun c hc => (hb c hc).2) (fun c hc => by have := (hb c hc).1; omega)
  have c1 : dCall f__law_is_false_right (dCons (dVar 1) (dCons (dVal (dVar 4)) (dCons (dVal (dVar 5)) dNil))) (eW ns ds g co (.val (e3 cs)) (.val (eT w)) .un .un .un .un .un) = some (.val (.bl true), eW ns ds g co (.val (e3 cs)) (.val (eT w)) .un .un .un .un .un) := call_eq (rs := [.slot 1, .val (e3 cs), .val (eT w)]) (cons_ok rfl (cons_ok rfl (cons_ok rfl rfl))) rfl (by simp) h rfl
  exact if_false' (notT_eq (test_eq c1))
theorem l9_ok (ns ds : List Int) (g co ca wa ma to ho st fe : Sl) (hh : ho.free = true) : ∃ (h : Nat) (ds' : List Int), h < 20 ∧ l9 (eW ns ds g co ca wa ma to ho st fe) = some (.nx (eW ns ds' g co ca wa ma to (.val (.int (h : Int))) st fe)) := by
  obtain ⟨q, q0, q1, hq⟩ := take_call (j := 1) (env := eW ns ds g co ca wa ma to ho st fe) (kd := true) (ds := ds) (m := 20) (d := dC (.int 20)) rfl rfl (by decide)
  obtain ⟨m, rfl⟩ : ∃ m : Nat, q = (m : Int) := ⟨q.toNat, by omega⟩
  exact ⟨m, ds.dropLast, by omega, asg_eq hq (put_val (i := 8) rfl hh)⟩
theorem l10_ok (ns ds : List Int) (g : Int) (g0 : 0 ≤ g) (g1 : g < 100000000000000000000000000000) (co ca wa ma to st fe : Sl) (h : Nat) (hh : h < 20) : l10 (eW ns ds (.val (.int g)) co ca wa ma to (.val (.int (h : Int))) st fe) = some (.nx (eW ns ds (.val (.int g)) co ca wa ma to (.val (.int (h : Int))) st fe)) := by
  have s : dF1 semSum (dListR (dR1 (dVar 8))) (eW ns ds (.val (.int g)) co ca wa ma to (.val (.int (h : Int))) st fe) = some (.val (.int (iN (List.range h)).sum), eW ns ds (.val (.int g)) co ca wa ma to (.val (.int (h : Int))) st fe) := by
    refine f1_ok (listR_nat (n := h) (r1_ok rfl rfl) (by omega)) rfl ?_
    show (intsOf (eI (iN (List.range h)))).bind _ = _
    rw [intsOf_eI]
    rfl
  have t1 := two_ok (h : Int) (by omega)
  rw [tri h hh] at t1
  have t2 := two_ok (g + 1) (by omega)
  rw [tri_step] at t2
  have t3 := two_ok g (by omega)
  refine if_false' ((or_false' (no_ok (val_val (call1 rfl t1)) s (gd_int _))).trans (no_ok (d := .int (g * (g - 1) / 2 + g)) (val_val (call1 (x := .int (g + 1)) (val_val (bin_ok rfl rfl rfl rfl rfl)) t2)) (val_val (bin_ok (call1 (x := .int g) rfl t3) rfl rfl rfl rfl)) (gd_int _)))
theorem l15_ok (ns ds : List Int) (g co ca wa ma to ho st : Sl) : ∃ ds' : List Int, l15 (eW ns ds g co ca wa ma to ho st (.val (eC few))) = some (.rt (.val (.bl true)) (eW ns ds' g co ca wa ma to ho st (.val (eC few)))) := by
  obtain ⟨ds', h⟩ := cards_right_ok ds few (by decide)
  have c1 : dCall f__law_are_cards_right (dCons (dVar 1) (dCons (dVal (dVar 10)) dNil)) (eW ns ds g co ca wa ma to ho st (.val (eC few))) = some (.val (.bl true), eW ns ds' g co ca wa ma to ho st (.val (eC few))) := call_eq (rs := [.slot 1, .val (eC few)]) (cons_ok rfl (cons_ok rfl rfl)) rfl (by simp) h rfl
  have h2 := law_sorted_ok [3, 1, 2] (by decide) 0 (by decide)
  have h2 : f__law_is_sorted_right [.val (eT [3, 1, 2]), .val (.int 0)] = some (.val (.bl true), []) := h2
  exact ⟨ds', ret_val (andV_true c1 (andV_true (call2 (x := eT [3, 1, 2]) rfl rfl h2) (same_call (d := .int 0) (val_val (call1 rfl (two_ok 0 (by decide)))) rfl (gd_int _))))⟩
theorem law_true (ns : List Int) (hn : ns.length ≤ 63) : f_law [.val (.scr (ns.map .int))] = some (.val (.bl true), []) := by
  obtain ⟨d0, s0⟩ := l0_ok ns hn
  obtain ⟨d1, s1⟩ := l1_ok ns d0
  obtain ⟨g, d2, g0, g1, s2⟩ := l2_ok ns d1 hn
  obtain ⟨co, d3, hco, s3⟩ := codes_ok ns d2 g .un .un .un .un .un .un .un .un
  obtain ⟨d4, s4⟩ := l4_ok ns d3 co (by omega) (.val (.int g))
  obtain ⟨ca, d5, h5, h5b, s5⟩ := shelf_ok ns d4 (.val (.int g)) (.val (eT co)) .un .un .un .un .un .un .un
  obtain ⟨wa, d6, h6, s6⟩ := wanted_ok ns d5 (.val (.int g)) (.val (eT co)) (.val (e3 ca)) .un .un .un .un .un .un
  have s7 := l7_ok ns d6 (.val (.int g)) (.val (eT co)) ca wa h5 h6 h5b
  obtain ⟨d8, ma, to, ho, st, hh, s8⟩ := many_ok ns d6 g g0 g1 (.val (eT co)) (.val (e3 ca)) (.val (eT wa)) .un
  obtain ⟨h, d9, h20, s9⟩ := l9_ok ns d8 (.val (.int g)) (.val (eT co)) (.val (e3 ca)) (.val (eT wa)) ma to ho st .un hh
  have s10 := l10_ok ns d9 g g0 g1 (.val (eT co)) (.val (e3 ca)) (.val (eT wa)) ma to st .un h h20
  have s11 := l11_ok ns d9 (.val (.int g)) (.val (eT co)) (.val (e3 ca)) (.val (eT wa)) ma to (.val (.int (h : Int))) st
  have s12 := l12_ok ns d9 (.val (.int g)) (.val (eT co)) (.val (e3 ca)) (.val (eT wa)) ma to (.val (.int (h : Int))) st
  obtain ⟨dz, s15⟩ := l15_ok ns d9 (.val (.int g)) (.val (eT co)) (.val (e3 ca)) (.val (eT wa)) ma to (.val (.int (h : Int))) st
  have m3 : l3 (eW ns d2 (.val (.int g)) .un .un .un .un .un .un .un .un) = some (.nx (eW ns d3 (.val (.int g)) (.val (eT co)) .un .un .un .un .un .un .un)) := asg_eq s3 rfl
  have m5 : l5 (eW ns d4 (.val (.int g)) (.val (eT co)) .un .un .un .un .un .un .un) = some (.nx (eW ns d5 (.val (.int g)) (.val (eT co)) (.val (e3 ca)) .un .un .un .un .un .un)) := asg_eq s5 rfl
  have m6 : l6 (eW ns d5 (.val (.int g)) (.val (eT co)) (.val (e3 ca)) .un .un .un .un .un .un) = some (.nx (eW ns d6 (.val (.int g)) (.val (eT co)) (.val (e3 ca)) (.val (eT wa)) .un .un .un .un .un)) := asg_eq s6 rfl
  refine runF_rt (n := 13) (body := b_law) (e := eW ns dz (.val (.int g)) (.val (eT co)) (.val (e3 ca)) (.val (eT wa)) ma to (.val (.int (h : Int))) st (.val (eC few))) ?_ rfl rfl
  rw [b_law_eq]
  exact seq_ok s0 (seq_ok s1 (seq_ok s2 (seq_ok m3 (seq_ok s4 (seq_ok m5 (seq_ok m6 (seq_ok s7 (seq_ok s8 (seq_ok s9 (seq_ok s10 (seq_ok s11 (seq_ok s12 (seq_ok (l13_ok _) (seq_ok (l14_ok _) s15))))))))))))))
end G62
set_option Elab.async false
set_option linter.all false
set_option maxRecDepth 100000
set_option maxHeartbeats 0
namespace G62
open PySem PySem.Spec L2 VL
def topS (i : Nat) : Stmt := PySem.Challenge.pw_leadstrue_k62_cards_and_needles.main.body.getD i (.Pass ⟨0, 0, 0, 0⟩)
/-! ### each def does it -/
structure Bi (mg : Str → Option Value) : Prop where
  abs : mg "abs" = none
  all : mg "all" = none
  any : mg "any" = none
  bool : mg "bool" = none
  int : mg "int" = none
  isinstance : mg "isinstance" = none
  len : mg "len" = none
  list : mg "list" = none
  range : mg "range" = none
  set : mg "set" = none
  sorted : mg "sorted" = none
  str : mg "str" = none
  sum : mg "sum" = none
  tuple : mg "tuple" = none
section
variable {P : Program} {w : World} {K : PySem.W.Frag} {mg : Str → Option Value} {base : Heap}
theorem sc_fallen : FnScope ["cards", "hole", "number"] ["cards", "hole"] (defScope (topS 1)) := ⟨rfl, rfl, rfl, by decide +kernel, rfl, by decide +kernel, by decide +kernel⟩
theorem ok_fallen (R : Raw K mg "fallen" (topS 1) ["cards", "hole"]) (b : Bi mg)  : Kn P w K mg base "fallen" ["cards", "hole"] 1 f_fallen := by
  have S := sc_fallen
  refine R.kn (d := 0) S (by decide) fun f cdv A outer s H E hr => ?_
  exact (pssd_one (psd_ret (ped_tuplec (by rfl) b.tuple (ped_lc rfl S.nd (pid_rg1 (by rfl) b.range (ped_len (by rfl) b.len (ped_var 0 (pv 0)))) lk_rg1 hj_rg1 (own := [("number", 2)]) (blk_of rfl (by kernel_rfl)) (by decide) (fun _ _ _ _ _ => (pgd_name (pg_name (i := 2) S.nd rfl (Or.inl rfl)))) (fun _ _ _ _ _ => (ptsd_one (ptd_cmp (op_inA (hu65 hr)) semIn_ok (ped_var 1 (pv 1)) (ped_ix ix_seq semIx_ok (ped_var 0 (pv 0)) (ped_var 2 (pv 2))) (by rfl)))) (fun _ _ _ _ _ => (ped_var 2 (pv 2)))))))
theorem sc_holes_of : FnScope ["code", "holes", "found", "hole"] ["code", "holes"] (defScope (topS 2)) := ⟨rfl, rfl, rfl, by decide +kernel, rfl, by decide +kernel, by decide +kernel⟩
theorem ok_holes_of (R : Raw K mg "holes_of" (topS 2) ["code", "holes"]) (b : Bi mg)  : Kn P w K mg base "holes_of" ["code", "holes"] 1 f_holes_of := by
  have S := sc_holes_of
  refine R.kn (d := 0) S (by decide) fun f cdv A outer s H E hr => ?_
  exact (pssd_cons (psd_set 2 (ps_set S.nd rfl (Or.inl rfl) (ped_tup pad_nil)))
      (pssd_cons (psd_for PassesOwn.never rfl (pid_rg1 (by rfl) b.range (ped_var 1 (pv 1))) lk_rg1 (pgd_name (pg_name (i := 3) S.nd rfl (Or.inl rfl))) (pssd_cons (psd_if (ptd_cmp (op_eqD hr.units) semEq_ok (ped_op op_mod modI_ok (ped_var 0 (pv 0)) ped_int) ped_int (nomark _)) (pssd_one (psd_aug (i := 2) S.nd rfl (Or.inl rfl) (ped_tup (pad_cons (ped_val (ped_var 3 (pv 3))) pad_nil)) iop_addA semAug_ok)) pssd_nil)
      (pssd_one (psd_aug (i := 0) S.nd rfl (Or.inl rfl) ped_int iop_fdivA fdivI_ok))))
      (pssd_one (psd_ret (ped_var 2 (pv 2))))))
theorem sc_sorted_by_needles : FnScope ["codes", "holes", "cards", "order", "hole", "stay", "code", "number"] ["codes", "holes"] (defScope (topS 3)) := ⟨rfl, rfl, rfl, by decide +kernel, rfl, by decide +kernel, by decide +kernel⟩
theorem ok_sorted_by_needles (R : Raw K mg "sorted_by_needles" (topS 3) ["codes", "holes"]) (b : Bi mg) (G_holes_of : Kn P w K mg base "holes_of" ["code", "holes"] 1 f_holes_of) : Kn P w K mg base "sorted_by_needles" ["codes", "holes"] 2 f_sorted_by_needles := by
  have S := sc_sorted_by_needles
  refine R.kn (d := 1) S (by decide) fun f cdv A outer s H E hr => ?_
  exact (pssd_cons (psd_set 2 (ps_set S.nd rfl (Or.inr rfl) (ped_lc rfl S.nd (pid_var 0 (pv 0)) lk_var (hj_var (by decide)) (own := [("code", 6)]) (blk_of rfl (by kernel_rfl)) (by decide) (fun _ _ _ _ _ => (pgd_name (pg_name (i := 6) S.nd rfl (Or.inl rfl)))) (fun _ _ _ _ _ => ptsd_nil) (fun _ _ _ _ _ => (ped_callD G_holes_of hr (by decide) (by rfl) (pad_cons (ped_val (ped_var 6 (pv 6))) (pad_cons (ped_val (ped_var 1 (pv 1))) pad_nil)) (lenA_cons (lenA_cons lenA_nil)))))))
      (pssd_cons (psd_set 3 (ps_set S.nd rfl (Or.inl rfl) (ped_listR rfl (by rfl) b.list (prd_1 (by rfl) b.range (ped_len (by rfl) b.len (ped_var 2 (pv 2)))))))
      (pssd_cons (psd_for PassesOwn.never rfl (pid_rg1 (by rfl) b.range (ped_var 1 (pv 1))) lk_rg1 (pgd_name (pg_name (i := 4) S.nd rfl (Or.inr rfl))) (pssd_cons (psd_setLc (i := 5) rfl S.nd rfl rfl (sw_true rfl rfl rfl rfl) (pid_var 3 (pv 3)) lk_var (hj_var (by decide)) (own := [("number", 7)]) (blk_of rfl (by kernel_rfl)) (by decide) (fun _ _ _ _ _ => (pgd_name (pg_name (i := 7) S.nd rfl (Or.inl rfl)))) (fun _ _ _ _ _ => (ptsd_one (ptd_cmp (op_notInA (hu65 hr)) semNotIn_ok (ped_var 4 (pv 4)) (ped_ix ix_seq semIx_ok (ped_var 2 (pv 2)) (ped_var 7 (pv 7))) (by rfl)))) (fun _ _ _ _ _ => (ped_var 7 (pv 7))))
      (pssd_one (psd_set 3 (ps_set S.nd rfl (Or.inl rfl) (ped_op op_addA semAdd_ok (ped_var 5 (pv 5)) (ped_lc rfl S.nd (pid_var 3 (pv 3)) lk_var (hj_var (by decide)) (own := [("number", 7)]) (blk_of rfl (by kernel_rfl)) (by decide) (fun _ _ _ _ _ => (pgd_name (pg_name (i := 7) S.nd rfl (Or.inl rfl)))) (fun _ _ _ _ _ => (ptsd_one (ptd_cmp (op_inA (hu65 hr)) semIn_ok (ped_var 4 (pv 4)) (ped_ix ix_seq semIx_ok (ped_var 2 (pv 2)) (ped_var 7 (pv 7))) (by rfl)))) (fun _ _ _ _ _ => (ped_var 7 (pv 7))))))))))
      (pssd_one (psd_ret (ped_tuplec (by rfl) b.tuple (ped_var 3 (pv 3))))))))
theorem sc_has_all : FnScope ["card", "holes", "hole"] ["card", "holes"] (defScope (topS 4)) := ⟨rfl, rfl, rfl, by decide +kernel, rfl, by decide +kernel, by decide +kernel⟩
theorem ok_has_all (R : Raw K mg "has_all" (topS 4) ["card", "holes"]) (b : Bi mg)  : Kn P w K mg base "has_all" ["card", "holes"] 1 f_has_all := by
  have S := sc_has_all
  refine R.kn (d := 0) S (by decide) fun f cdv A outer s H E hr => ?_
  exact (pssd_one (psd_ret (ped_all rfl (by rfl) b.all (ped_lc rfl S.nd (pid_var 1 (pv 1)) lk_var (hj_var (by decide)) (own := [("hole", 2)]) (blk_of rfl (by kernel_rfl)) (by decide) (fun _ _ _ _ _ => (pgd_name (pg_name (i := 2) S.nd rfl (Or.inl rfl)))) (fun _ _ _ _ _ => ptsd_nil) (fun _ _ _ _ _ => (ped_cmp (op_inA (hu65 hr)) semIn_ok (ped_var 2 (pv 2)) (ped_var 0 (pv 0)) (by rfl)))))))
theorem sc_has_none : FnScope ["card", "holes", "hole"] ["card", "holes"] (defScope (topS 5)) := ⟨rfl, rfl, rfl, by decide +kernel, rfl, by decide +kernel, by decide +kernel⟩
theorem ok_has_none (R : Raw K mg "has_none" (topS 5) ["card", "holes"]) (b : Bi mg)  : Kn P w K mg base "has_none" ["card", "holes"] 1 f_has_none := by
  have S := sc_has_none
  refine R.kn (d := 0) S (by decide) fun f cdv A outer s H E hr => ?_
  exact (pssd_one (psd_ret (ped_not (ped_any rfl (by rfl) b.any (ped_lc rfl S.nd (pid_var 1 (pv 1)) lk_var (hj_var (by decide)) (own := [("hole", 2)]) (blk_of rfl (by kernel_rfl)) (by decide) (fun _ _ _ _ _ => (pgd_name (pg_name (i := 2) S.nd rfl (Or.inl rfl)))) (fun _ _ _ _ _ => ptsd_nil) (fun _ _ _ _ _ => (ped_cmp (op_inA (hu65 hr)) semIn_ok (ped_var 2 (pv 2)) (ped_var 0 (pv 0)) (by rfl))))))))
theorem sc_needled : FnScope ["cards", "all_of", "none_of", "there", "number"] ["cards", "all_of", "none_of"] (defScope (topS 6)) := ⟨rfl, rfl, rfl, by decide +kernel, rfl, by decide +kernel, by decide +kernel⟩
theorem ok_needled (R : Raw K mg "needled" (topS 6) ["cards", "all_of", "none_of"]) (b : Bi mg) (G_has_all : Kn P w K mg base "has_all" ["card", "holes"] 1 f_has_all) (G_has_none : Kn P w K mg base "has_none" ["card", "holes"] 1 f_has_none) : Kn P w K mg base "needled" ["cards", "all_of", "none_of"] 2 f_needled := by
  have S := sc_needled
  refine R.kn (d := 1) S (by decide) fun f cdv A outer s H E hr => ?_
  exact (pssd_cons (psd_setLc (i := 3) rfl S.nd rfl rfl (sw_true rfl rfl rfl rfl) (pid_rg1 (by rfl) b.range (ped_len (by rfl) b.len (ped_var 0 (pv 0)))) lk_rg1 hj_rg1 (own := [("number", 4)]) (blk_of rfl (by kernel_rfl)) (by decide) (fun _ _ _ _ _ => (pgd_name (pg_name (i := 4) S.nd rfl (Or.inl rfl)))) (fun _ _ _ _ _ => (ptsd_one (ptd_val (ped_callD G_has_all hr (by decide) (by rfl) (pad_cons (ped_val (ped_ix ix_seq semIx_ok (ped_var 0 (pv 0)) (ped_var 4 (pv 4)))) (pad_cons (ped_val (ped_var 1 (pv 1))) pad_nil)) (lenA_cons (lenA_cons lenA_nil)))))) (fun _ _ _ _ _ => (ped_var 4 (pv 4))))
      (pssd_one (psd_ret (ped_tuplec (by rfl) b.tuple (ped_lc rfl S.nd (pid_var 3 (pv 3)) lk_var (hj_var (by decide)) (own := [("number", 4)]) (blk_of rfl (by kernel_rfl)) (by decide) (fun _ _ _ _ _ => (pgd_name (pg_name (i := 4) S.nd rfl (Or.inl rfl)))) (fun _ _ _ _ _ => (ptsd_one (ptd_val (ped_callD G_has_none hr (by decide) (by rfl) (pad_cons (ped_val (ped_ix ix_seq semIx_ok (ped_var 0 (pv 0)) (ped_var 4 (pv 4)))) (pad_cons (ped_val (ped_var 2 (pv 2))) pad_nil)) (lenA_cons (lenA_cons lenA_nil)))))) (fun _ _ _ _ _ => (ped_var 4 (pv 4))))))))
theorem sc_needles_for : FnScope ["many", "holes", "told"] ["many"] (defScope (topS 7)) := ⟨rfl, rfl, rfl, by decide +kernel, rfl, by decide +kernel, by decide +kernel⟩
theorem ok_needles_for (R : Raw K mg "needles_for" (topS 7) ["many"]) (b : Bi mg)  : Kn P w K mg base "needles_for" ["many"] 1 f_needles_for := by
  have S := sc_needles_for
  refine R.kn (d := 0) S (by decide) fun f cdv A outer s H E hr => ?_
  exact (pssd_cons (psd_asgT (ped_tup (pad_cons ped_int (pad_cons ped_int pad_nil))) (pgd_tup rfl (pgsd_cons (pg_name (i := 1) S.nd rfl (Or.inl rfl)) (pgsd_cons (pg_name (i := 2) S.nd rfl (Or.inl rfl)) pgsd_nil))))
      (pssd_cons (psd_wh PassesOwn.never (ptd_cmp op_ltA cmpD_ok (ped_var 2 (pv 2)) (ped_var 0 (pv 0)) (nomark _)) (pssd_one (psd_par2 (i := 1) (j := 2) rfl S.nd rfl rfl (by decide) rfl rfl (pad_cons (ped_val (ped_op op_addA semAdd_ok (ped_var 1 (pv 1)) ped_int)) (pad_cons (ped_val (ped_op op_mulAny semMul_ok (ped_var 2 (pv 2)) ped_int)) pad_nil)) rfl)))
      (pssd_one (psd_ret (ped_var 1 (pv 1))))))
theorem sc_two_of : FnScope ["holes"] ["holes"] (defScope (topS 8)) := ⟨rfl, rfl, rfl, by decide +kernel, rfl, by decide +kernel, by decide +kernel⟩
theorem ok_two_of (R : Raw K mg "two_of" (topS 8) ["holes"]) (b : Bi mg)  : Kn P w K mg base "two_of" ["holes"] 1 f_two_of := by
  have S := sc_two_of
  refine R.kn (d := 0) S (by decide) fun f cdv A outer s H E hr => ?_
  exact (pssd_one (psd_ret (ped_op op_fdivA fdivI_ok (ped_op op_mulAny semMul_ok (ped_var 0 (pv 0)) (ped_op op_sub subI_ok (ped_var 0 (pv 0)) ped_int)) ped_int)))
theorem sc_holes_in : FnScope ["card", "code", "hole"] ["card"] (defScope (topS 9)) := ⟨rfl, rfl, rfl, by decide +kernel, rfl, by decide +kernel, by decide +kernel⟩
theorem ok_holes_in (R : Raw K mg "holes_in" (topS 9) ["card"]) (b : Bi mg)  : Kn P w K mg base "holes_in" ["card"] 1 f_holes_in := by
  have S := sc_holes_in
  refine R.kn (d := 0) S (by decide) fun f cdv A outer s H E hr => ?_
  exact (pssd_one (psd_ret (ped_tuplec (by rfl) b.tuple (ped_sortSet rfl (by rfl) b.sorted (by rfl) b.set (ped_lc2 rfl S.nd (pid_var 0 (pv 0)) lk_var (hj_var (by decide)) (own := [("code", 1), ("hole", 2)]) (vs1 := [2]) (blk_of rfl (by kernel_rfl)) (by decide) (by decide) (by decide) (fun _ _ _ _ _ => (pgd_name (pg_name (i := 1) S.nd rfl (Or.inl rfl)))) (fun _ _ _ _ _ => ptsd_nil) (fun _ _ _ _ _ => (pid_var 1 (pv 1))) (fun _ _ _ _ _ => (pgd_name (pg_name (i := 2) S.nd rfl (Or.inl rfl)))) (fun _ _ _ _ _ => ptsd_nil) (fun _ _ _ _ _ => (ped_var 2 (pv 2))))))))
theorem sc_false_falls : FnScope ["cards", "wanted", "there", "number"] ["cards", "wanted"] (defScope (topS 10)) := ⟨rfl, rfl, rfl, by decide +kernel, rfl, by decide +kernel, by decide +kernel⟩
theorem ok_false_falls (R : Raw K mg "false_falls" (topS 10) ["cards", "wanted"]) (b : Bi mg) (G_has_all : Kn P w K mg base "has_all" ["card", "holes"] 1 f_has_all) (G_holes_in : Kn P w K mg base "holes_in" ["card"] 1 f_holes_in) : Kn P w K mg base "false_falls" ["cards", "wanted"] 2 f_false_falls := by
  have S := sc_false_falls
  refine R.kn (d := 1) S (by decide) fun f cdv A outer s H E hr => ?_
  exact (pssd_cons (psd_setLc (i := 2) rfl S.nd rfl rfl (sw_true rfl rfl rfl rfl) (pid_rg1 (by rfl) b.range (ped_len (by rfl) b.len (ped_var 0 (pv 0)))) lk_rg1 hj_rg1 (own := [("number", 3)]) (blk_of rfl (by kernel_rfl)) (by decide) (fun _ _ _ _ _ => (pgd_name (pg_name (i := 3) S.nd rfl (Or.inl rfl)))) (fun _ _ _ _ _ => (ptsd_one (ptd_val (ped_callD G_has_all hr (by decide) (by rfl) (pad_cons (ped_val (ped_callD G_holes_in hr (by decide) (by rfl) (pad_cons (ped_val (ped_ix ix_seq semIx_ok (ped_var 0 (pv 0)) (ped_var 3 (pv 3)))) pad_nil) (lenA_cons lenA_nil))) (pad_cons (ped_val (ped_var 1 (pv 1))) pad_nil)) (lenA_cons (lenA_cons lenA_nil)))))) (fun _ _ _ _ _ => (ped_var 3 (pv 3))))
      (pssd_one (psd_ret (ped_tuplec (by rfl) b.tuple (ped_lc rfl S.nd (pid_var 2 (pv 2)) lk_var (hj_var (by decide)) (own := [("number", 3)]) (blk_of rfl (by kernel_rfl)) (by decide) (fun _ _ _ _ _ => (pgd_name (pg_name (i := 3) S.nd rfl (Or.inl rfl)))) (fun _ _ _ _ _ => (ptsd_one (ptd_cmp (op_notInA (hu65 hr)) semNotIn_ok (ped_var 1 (pv 1)) (ped_ix ix_seq semIx_ok (ped_var 0 (pv 0)) (ped_var 3 (pv 3))) (by rfl)))) (fun _ _ _ _ _ => (ped_var 3 (pv 3))))))))
theorem sc__law_draws : FnScope ["script", "many", "cells", "rest", "drawn", "k", "at", "once", "cell"] ["script", "many"] (defScope (topS 12)) := ⟨rfl, rfl, rfl, by decide +kernel, rfl, by decide +kernel, by decide +kernel⟩
theorem ok__law_draws (R : Raw K mg "_law_draws" (topS 12) ["script", "many"]) (b : Bi mg)  : Kn P w K mg base "_law_draws" ["script", "many"] 1 f__law_draws := by
  have S := sc__law_draws
  refine R.kn (d := 0) S (by decide) fun f cdv A outer s H E hr => ?_
  exact (pssd_cons (psd_setLc (i := 2) rfl S.nd rfl rfl (sw_true rfl rfl rfl rfl) (pid_var 0 (pv 0)) lk_var (hj_var (by decide)) (own := [("cell", 8)]) (blk_of rfl (by kernel_rfl)) (by decide) (fun _ _ _ _ _ => (pgd_name (pg_name (i := 8) S.nd rfl (Or.inl rfl)))) (fun _ _ _ _ _ => ptsd_nil) (fun _ _ _ _ _ => (ped_intc (by rfl) b.int (ped_var 8 (pv 8)))))
      (pssd_cons (psd_if (ptd_cmp (op_eqD hr.units) semEq_ok (ped_len (by rfl) b.len (ped_var 2 (pv 2))) ped_int (nomark _)) (pssd_one (psd_expr (ped_append (pv 2) ped_int))) pssd_nil)
      (pssd_cons (psd_set 3 (ps_set S.nd rfl (Or.inl rfl) (ped_listc (by rfl) b.list (ped_var 2 (pv 2)))))
      (pssd_cons (psd_set 4 (ps_set S.nd rfl (Or.inl rfl) (ped_lst pad_nil)))
      (pssd_cons (psd_for PassesOwn.never rfl (pid_rg1 (by rfl) b.range (ped_var 1 (pv 1))) lk_rg1 (pgd_name (pg_name (i := 5) S.nd rfl (Or.inl rfl))) (pssd_cons (psd_set 6 (ps_set S.nd rfl (Or.inl rfl) (ped_op op_mod modI_ok (ped_var 5 (pv 5)) (ped_len (by rfl) b.len (ped_var 2 (pv 2))))))
      (pssd_one (psd_if (PW.pt (pwd_and (ptd_cmp op_geA cmpD_ok (ped_ix ix_seq semIx_ok (ped_var 2 (pv 2)) (ped_var 6 (pv 6))) (ped_op op_pow powI_ok ped_int ped_int) (nomark _)) (pwd_and1 (ptd_cmp op_gtA cmpD_ok (ped_ix ix_seq semIx_ok (ped_var 3 (pv 3)) (ped_var 6 (pv 6))) ped_int (nomark _))))) (pssd_cons (psd_expr (ped_append (pv 4) (ped_op op_mod modI_ok (ped_intc (by rfl) b.int (ped_ix ix_seq semIx_ok (ped_var 3 (pv 3)) (ped_var 6 (pv 6)))) ped_int)))
      (pssd_one (psd_setL (pv 3) (ped_var 6 (pv 6)) (ped_op op_fdivA fdivI_ok (ped_ix ix_seq semIx_ok (ped_var 3 (pv 3)) (ped_var 6 (pv 6))) ped_int)))) (pssd_cons (psd_set 7 (ps_set S.nd rfl (Or.inl rfl) (ped_op op_mod modI_ok (ped_intc (by rfl) b.int (ped_op op_addA semAdd_ok (ped_op op_addA semAdd_ok (ped_op op_mulAny semMul_ok (ped_ix ix_seq semIx_ok (ped_var 2 (pv 2)) (ped_var 6 (pv 6))) ped_int) (ped_op op_mulAny semMul_ok (ped_var 5 (pv 5)) ped_int)) ped_int)) ped_int)))
      (pssd_one (psd_expr (ped_append (pv 4) (ped_op op_mod modI_ok (ped_intc (by rfl) b.int (ped_op op_addA semAdd_ok (ped_op op_addA semAdd_ok (ped_op op_mulAny semMul_ok (ped_var 7 (pv 7)) (ped_var 7 (pv 7))) (ped_op op_mulAny semMul_ok ped_int (ped_var 7 (pv 7)))) (ped_var 5 (pv 5)))) ped_int)))))))))
      (pssd_cons (psd_expr (ped_reverse (pv 4)))
      (pssd_one (psd_ret (ped_var 4 (pv 4))))))))))
theorem sc__law_take : FnScope ["draws", "many"] ["draws", "many"] (defScope (topS 13)) := ⟨rfl, rfl, rfl, by decide +kernel, rfl, by decide +kernel, by decide +kernel⟩
theorem ok__law_take (R : Raw K mg "_law_take" (topS 13) ["draws", "many"]) (b : Bi mg)  : Kn P w K mg base "_law_take" ["draws", "many"] 1 f__law_take := by
  have S := sc__law_take
  refine R.kn (d := 0) S (by decide) fun f cdv A outer s H E hr => ?_
  exact (pssd_cons (psd_if (ptd_cmp (op_eqD hr.units) semEq_ok (ped_len (by rfl) b.len (ped_var 0 (pv 0))) ped_int (nomark _)) (pssd_one (psd_ret ped_int)) pssd_nil)
      (pssd_one (psd_ret (ped_op op_mod modI_ok (ped_intc (by rfl) b.int (ped_pop (pv 0))) (ped_var 1 (pv 1))))))
theorem sc__law_cell : FnScope ["script", "draws", "cell"] ["script", "draws"] (defScope (topS 14)) := ⟨rfl, rfl, rfl, by decide +kernel, rfl, by decide +kernel, by decide +kernel⟩
theorem ok__law_cell (R : Raw K mg "_law_cell" (topS 14) ["script", "draws"]) (b : Bi mg) (G__law_take : Kn P w K mg base "_law_take" ["draws", "many"] 1 f__law_take) : Kn P w K mg base "_law_cell" ["script", "draws"] 2 f__law_cell := by
  have S := sc__law_cell
  refine R.kn (d := 1) S (by decide) fun f cdv A outer s H E hr => ?_
  exact (pssd_cons (psd_if (ptd_cmp (op_eqD hr.units) semEq_ok (ped_len (by rfl) b.len (ped_var 0 (pv 0))) ped_int (nomark _)) (pssd_one (psd_ret ped_int)) pssd_nil)
      (pssd_cons (psd_set 2 (ps_set S.nd rfl (Or.inl rfl) (ped_intc (by rfl) b.int (ped_ix ix_seq semIx_ok (ped_var 0 (pv 0)) (ped_callD G__law_take hr (by decide) (by rfl) (pad_cons (ped_var 1 (pv 1)) (pad_cons (ped_len (by rfl) b.len (ped_var 0 (pv 0))) pad_nil)) (lenA_cons (lenA_cons lenA_nil)))))))
      (pssd_one (psd_ret (ped_op op_mulAny semMul_ok (ped_op op_mod modI_ok (ped_abs (by rfl) b.abs (ped_var 2 (pv 2))) (ped_op op_pow powI_ok ped_int ped_int)) (ped_ix ix_seq semIx_ok (ped_lst (pad_cons ped_int (pad_cons (ped_un un_neg negI_ok ped_int) pad_nil))) (ped_intc (by rfl) b.int (ped_cmp op_ltA cmpD_ok (ped_var 2 (pv 2)) ped_int (nomark _)))))))))
theorem sc__law_same : FnScope ["actual", "due", "k"] ["actual", "due"] (defScope (topS 15)) := ⟨rfl, rfl, rfl, by decide +kernel, rfl, by decide +kernel, by decide +kernel⟩
theorem ok__law_same (R : Raw K mg "_law_same" (topS 15) ["actual", "due"]) (b : Bi mg)  : ∀ n, Kn P w K mg base "_law_same" ["actual", "due"] (n + 1) (r__law_same n)
  | 0 => R.none
  | n + 1 => by
    have G_rec := ok__law_same R b  n
    have S := sc__law_same
    refine Kn.up (R.kn (d := n + 1) S (by decide) fun f cdv A outer s H E hr => ?_) (by omega)
    exact (pssd_cons (psd_if (ptd_cmp op_isA semIs_ok (ped_var 1 (pv 1)) ped_non (nomark _)) (pssd_one (psd_ret (ped_cmp op_isA semIs_ok (ped_var 0 (pv 0)) ped_non (nomark _)))) pssd_nil)
      (pssd_cons (psd_if (ptd_val (ped_isi "bool" (by decide) (by rfl) b.isinstance (ped_var 1 (pv 1)) (pe_tyc "bool" (by rfl) b.bool bt_bool))) (pssd_one (psd_ret (ped_and (ped_isi "bool" (by decide) (by rfl) b.isinstance (ped_var 0 (pv 0)) (pe_tyc "bool" (by rfl) b.bool bt_bool)) (ped_one (ped_cmp (op_eqD hr.units) semEq_ok (ped_var 0 (pv 0)) (ped_var 1 (pv 1)) (nomark _)))))) pssd_nil)
      (pssd_cons (psd_if (ptd_val (ped_isi "int" (by decide) (by rfl) b.isinstance (ped_var 1 (pv 1)) (pe_tyc "int" (by rfl) b.int bt_int))) (pssd_one (psd_ret (ped_and (ped_isi "int" (by decide) (by rfl) b.isinstance (ped_var 0 (pv 0)) (pe_tyc "int" (by rfl) b.int bt_int)) (ped_and (ped_not (ped_isi "bool" (by decide) (by rfl) b.isinstance (ped_var 0 (pv 0)) (pe_tyc "bool" (by rfl) b.bool bt_bool))) (ped_one (ped_cmp (op_eqD hr.units) semEq_ok (ped_var 0 (pv 0)) (ped_var 1 (pv 1)) (nomark _))))))) pssd_nil)
      (pssd_cons (psd_if (ptd_val (ped_isi "str" (by decide) (by rfl) b.isinstance (ped_var 1 (pv 1)) (pe_tyc "str" (by rfl) b.str bt_str))) (pssd_one (psd_ret (ped_and (ped_isi "str" (by decide) (by rfl) b.isinstance (ped_var 0 (pv 0)) (pe_tyc "str" (by rfl) b.str bt_str)) (ped_one (ped_cmp (op_eqD hr.units) semEq_ok (ped_var 0 (pv 0)) (ped_var 1 (pv 1)) (nomark _)))))) pssd_nil)
      (pssd_cons (psd_if (PW.pt (pwd_or (ptd_not (ptd_val (ped_isi "tuple" (by decide) (by rfl) b.isinstance (ped_var 0 (pv 0)) (pe_tyc "tuple" (by rfl) b.tuple bt_tuple)))) (pwd_or1 (ptd_cmp (op_neD hr.units) semNe_ok (ped_len (by rfl) b.len (ped_var 0 (pv 0))) (ped_len (by rfl) b.len (ped_var 1 (pv 1))) (nomark _))))) (pssd_one (psd_ret ped_bl)) pssd_nil)
      (pssd_cons (psd_for PassesOwn.never rfl (pid_rg1 (by rfl) b.range (ped_len (by rfl) b.len (ped_var 1 (pv 1)))) lk_rg1 (pgd_name (pg_name (i := 2) S.nd rfl (Or.inl rfl))) (pssd_one (psd_if (ptd_not (ptd_val (ped_callD G_rec hr (by omega) (by rfl) (pad_cons (ped_val (ped_ix ix_seq semIx_ok (ped_var 0 (pv 0)) (ped_var 2 (pv 2)))) (pad_cons (ped_val (ped_ix ix_seq semIx_ok (ped_var 1 (pv 1)) (ped_var 2 (pv 2)))) pad_nil)) (lenA_cons (lenA_cons lenA_nil))))) (pssd_one (psd_ret ped_bl)) pssd_nil)))
      (pssd_one (psd_ret ped_bl))))))))
theorem sc__law_cards : FnScope ["draws", "most", "holes", "rare", "k", "hole"] ["draws", "most", "holes"] (defScope (topS 16)) := ⟨rfl, rfl, rfl, by decide +kernel, rfl, by decide +kernel, by decide +kernel⟩
theorem ok__law_cards (R : Raw K mg "_law_cards" (topS 16) ["draws", "most", "holes"]) (b : Bi mg) (G__law_take : Kn P w K mg base "_law_take" ["draws", "many"] 1 f__law_take) : Kn P w K mg base "_law_cards" ["draws", "most", "holes"] 2 f__law_cards := by
  have S := sc__law_cards
  refine R.kn (d := 1) S (by decide) fun f cdv A outer s H E hr => ?_
  exact (pssd_cons (psd_set 3 (ps_set S.nd rfl (Or.inr rfl) (ped_op op_addA semAdd_ok ped_int (ped_callD G__law_take hr (by decide) (by rfl) (pad_cons (ped_var 0 (pv 0)) (pad_cons ped_int pad_nil)) (lenA_cons (lenA_cons lenA_nil))))))
      (pssd_one (psd_ret (ped_tuplec (by rfl) b.tuple (ped_lc rfl S.nd (pid_rg1 (by rfl) b.range (ped_callD G__law_take hr (by decide) (by rfl) (pad_cons (ped_var 0 (pv 0)) (pad_cons (ped_val (ped_op op_addA semAdd_ok (ped_var 1 (pv 1)) ped_int)) pad_nil)) (lenA_cons (lenA_cons lenA_nil)))) lk_rg1 hj_rg1 (own := [("k", 4)]) (blk_of rfl (by kernel_rfl)) (by decide) (fun _ _ _ _ _ => (pgd_name (pg_name (i := 4) S.nd rfl (Or.inl rfl)))) (fun _ _ _ _ _ => ptsd_nil) (fun _ _ _ _ _ => (ped_tuplec (by rfl) b.tuple (ped_lc rfl S.nd (pid_rg1 (by rfl) b.range (ped_var 2 (pv 2))) lk_rg1 hj_rg1 (own := [("hole", 5)]) (blk_of rfl (by kernel_rfl)) (by decide) (fun _ _ _ _ _ => (pgd_name (pg_name (i := 5) S.nd rfl (Or.inl rfl)))) (fun _ _ _ _ _ => (ptsd_one (ptd_cmp op_ltA cmpD_ok (ped_callD G__law_take hr (by decide) (by rfl) (pad_cons (ped_var 0 (pv 0)) (pad_cons ped_int pad_nil)) (lenA_cons (lenA_cons lenA_nil))) (ped_var 3 (pv 3)) (nomark _)))) (fun _ _ _ _ _ => (ped_var 5 (pv 5)))))))))))
theorem sc__law_are_cards_right : FnScope ["draws", "cards", "hole", "k", "wanted", "unwanted", "due", "at"] ["draws", "cards"] (defScope (topS 17)) := ⟨rfl, rfl, rfl, by decide +kernel, rfl, by decide +kernel, by decide +kernel⟩
theorem ok__law_are_cards_right (R : Raw K mg "_law_are_cards_right" (topS 17) ["draws", "cards"]) (b : Bi mg) (G__law_same : Kn P w K mg base "_law_same" ["actual", "due"] 9 (r__law_same 8)) (G__law_take : Kn P w K mg base "_law_take" ["draws", "many"] 1 f__law_take) (G_fallen : Kn P w K mg base "fallen" ["cards", "hole"] 1 f_fallen) (G_needled : Kn P w K mg base "needled" ["cards", "all_of", "none_of"] 2 f_needled) : Kn P w K mg base "_law_are_cards_right" ["draws", "cards"] 10 f__law_are_cards_right := by
  have S := sc__law_are_cards_right
  refine R.kn (d := 9) S (by decide) fun f cdv A outer s H E hr => ?_
  exact (pssd_cons (psd_for PassesOwn.never rfl (pid_rg1 (by rfl) b.range ped_int) lk_rg1 (pgd_name (pg_name (i := 2) S.nd rfl (Or.inr rfl))) (pssd_one (psd_if (ptd_not (ptd_val (ped_callD G__law_same hr (by decide) (by rfl) (pad_cons (ped_val (ped_callD G_fallen hr (by decide) (by rfl) (pad_cons (ped_val (ped_var 1 (pv 1))) (pad_cons (ped_val (ped_var 2 (pv 2))) pad_nil)) (lenA_cons (lenA_cons lenA_nil)))) (pad_cons (ped_tuplec (by rfl) b.tuple (ped_lc rfl S.nd (pid_rg1 (by rfl) b.range (ped_len (by rfl) b.len (ped_var 1 (pv 1)))) lk_rg1 hj_rg1 (own := [("at", 7)]) (blk_of rfl (by kernel_rfl)) (by decide) (fun _ _ _ _ _ => (pgd_name (pg_name (i := 7) S.nd rfl (Or.inl rfl)))) (fun _ _ _ _ _ => (ptsd_one (ptd_cmp (op_inA (hu65 hr)) semIn_ok (ped_var 2 (pv 2)) (ped_ix ix_seq semIx_ok (ped_var 1 (pv 1)) (ped_var 7 (pv 7))) (by rfl)))) (fun _ _ _ _ _ => (ped_var 7 (pv 7))))) pad_nil)) (lenA_cons (lenA_cons lenA_nil))))) (pssd_one (psd_ret ped_bl)) pssd_nil)))
      (pssd_cons (psd_for PassesOwn.never rfl (pid_rg1 (by rfl) b.range ped_int) lk_rg1 (pgd_name (pg_name (i := 3) S.nd rfl (Or.inl rfl))) (pssd_cons (psd_set 4 (ps_set S.nd rfl (Or.inl rfl) (ped_tuplec (by rfl) b.tuple (ped_lc rfl S.nd (pid_rg1 (by rfl) b.range ped_int) lk_rg1 hj_rg1 (own := [("hole", 2)]) (blk_of rfl (by kernel_rfl)) (by decide) (fun _ _ _ _ _ => (pgd_name (pg_name (i := 2) S.nd rfl (Or.inl rfl)))) (fun _ _ _ _ _ => (ptsd_one (ptd_cmp (op_eqD hr.units) semEq_ok (ped_callD G__law_take hr (by decide) (by rfl) (pad_cons (ped_var 0 (pv 0)) (pad_cons ped_int pad_nil)) (lenA_cons (lenA_cons lenA_nil))) ped_int (nomark _)))) (fun _ _ _ _ _ => (ped_var 2 (pv 2)))))))
      (pssd_cons (psd_set 5 (ps_set S.nd rfl (Or.inl rfl) (ped_tuplec (by rfl) b.tuple (ped_lc rfl S.nd (pid_rg1 (by rfl) b.range ped_int) lk_rg1 hj_rg1 (own := [("hole", 2)]) (blk_of rfl (by kernel_rfl)) (by decide) (fun _ _ _ _ _ => (pgd_name (pg_name (i := 2) S.nd rfl (Or.inl rfl)))) (fun _ _ _ _ _ => (ptsd_one (ptd_cmp (op_eqD hr.units) semEq_ok (ped_callD G__law_take hr (by decide) (by rfl) (pad_cons (ped_var 0 (pv 0)) (pad_cons ped_int pad_nil)) (lenA_cons (lenA_cons lenA_nil))) ped_int (nomark _)))) (fun _ _ _ _ _ => (ped_var 2 (pv 2)))))))
      (pssd_cons (psd_set 6 (ps_set S.nd rfl (Or.inl rfl) (ped_lst pad_nil)))
      (pssd_cons (psd_for PassesOwn.never rfl (pid_rg1 (by rfl) b.range (ped_len (by rfl) b.len (ped_var 1 (pv 1)))) lk_rg1 (pgd_name (pg_name (i := 7) S.nd rfl (Or.inr rfl))) (pssd_one (psd_if (ptd_cmp (op_eqD hr.units) semEq_ok (ped_op op_addA semAdd_ok (ped_len (by rfl) b.len (ped_lc rfl S.nd (pid_var 4 (pv 4)) lk_var (hj_var (by decide)) (own := [("hole", 2)]) (blk_of rfl (by kernel_rfl)) (by decide) (fun _ _ _ _ _ => (pgd_name (pg_name (i := 2) S.nd rfl (Or.inl rfl)))) (fun _ _ _ _ _ => (ptsd_one (ptd_cmp (op_notInA (hu65 hr)) semNotIn_ok (ped_var 2 (pv 2)) (ped_ix ix_seq semIx_ok (ped_var 1 (pv 1)) (ped_var 7 (pv 7))) (by rfl)))) (fun _ _ _ _ _ => (ped_var 2 (pv 2))))) (ped_len (by rfl) b.len (ped_lc rfl S.nd (pid_var 5 (pv 5)) lk_var (hj_var (by decide)) (own := [("hole", 2)]) (blk_of rfl (by kernel_rfl)) (by decide) (fun _ _ _ _ _ => (pgd_name (pg_name (i := 2) S.nd rfl (Or.inl rfl)))) (fun _ _ _ _ _ => (ptsd_one (ptd_cmp (op_inA (hu65 hr)) semIn_ok (ped_var 2 (pv 2)) (ped_ix ix_seq semIx_ok (ped_var 1 (pv 1)) (ped_var 7 (pv 7))) (by rfl)))) (fun _ _ _ _ _ => (ped_var 2 (pv 2)))))) ped_int (nomark _)) (pssd_one (psd_expr (ped_append (pv 6) (ped_var 7 (pv 7))))) pssd_nil)))
      (pssd_one (psd_if (ptd_not (ptd_val (ped_callD G__law_same hr (by decide) (by rfl) (pad_cons (ped_val (ped_callD G_needled hr (by decide) (by rfl) (pad_cons (ped_val (ped_var 1 (pv 1))) (pad_cons (ped_val (ped_var 4 (pv 4))) (pad_cons (ped_val (ped_var 5 (pv 5))) pad_nil))) (lenA_cons (lenA_cons (lenA_cons lenA_nil))))) (pad_cons (ped_tuplec (by rfl) b.tuple (ped_var 6 (pv 6))) pad_nil)) (lenA_cons (lenA_cons lenA_nil))))) (pssd_one (psd_ret ped_bl)) pssd_nil)))))))
      (pssd_one (psd_ret ped_bl))))
theorem sc__law_is_sorted_right : FnScope ["codes", "holes", "scale", "hole", "due", "pair", "at"] ["codes", "holes"] (defScope (topS 18)) := ⟨rfl, rfl, rfl, by decide +kernel, rfl, by decide +kernel, by decide +kernel⟩
theorem ok__law_is_sorted_right (R : Raw K mg "_law_is_sorted_right" (topS 18) ["codes", "holes"]) (b : Bi mg) (G__law_same : Kn P w K mg base "_law_same" ["actual", "due"] 9 (r__law_same 8)) (G_sorted_by_needles : Kn P w K mg base "sorted_by_needles" ["codes", "holes"] 2 f_sorted_by_needles) : Kn P w K mg base "_law_is_sorted_right" ["codes", "holes"] 10 f__law_is_sorted_right := by
  have S := sc__law_is_sorted_right
  refine R.kn (d := 9) S (by decide) fun f cdv A outer s H E hr => ?_
  exact (pssd_cons (psd_set 2 (ps_set S.nd rfl (Or.inr rfl) ped_int))
      (pssd_cons (psd_for PassesOwn.never rfl (pid_rg1 (by rfl) b.range (ped_var 1 (pv 1))) lk_rg1 (pgd_name (pg_name (i := 3) S.nd rfl (Or.inl rfl))) (pssd_one (psd_set 2 (ps_set S.nd rfl (Or.inr rfl) (ped_op op_mulAny semMul_ok ped_int (ped_var 2 (pv 2)))))))
      (pssd_cons (psd_setLc (i := 4) rfl S.nd rfl rfl (sw_true rfl rfl rfl rfl) (pid_seq (ped_sorted (by rfl) b.sorted (ped_lc rfl S.nd (pid_rg1 (by rfl) b.range (ped_len (by rfl) b.len (ped_var 0 (pv 0)))) lk_rg1 hj_rg1 (own := [("at", 6)]) (blk_of rfl (by kernel_rfl)) (by decide) (fun _ _ _ _ _ => (pgd_name (pg_name (i := 6) S.nd rfl (Or.inl rfl)))) (fun _ _ _ _ _ => ptsd_nil) (fun _ _ _ _ _ => (ped_tup (pad_cons (ped_op op_mod modI_ok (ped_intc (by rfl) b.int (ped_ix ix_seq semIx_ok (ped_var 0 (pv 0)) (ped_var 6 (pv 6)))) (ped_var 2 (pv 2))) (pad_cons (ped_val (ped_var 6 (pv 6))) pad_nil))))))) lk_seq hj_seq (own := [("pair", 5)]) (blk_of rfl (by kernel_rfl)) (by decide) (fun _ _ _ _ _ => (pgd_name (pg_name (i := 5) S.nd rfl (Or.inl rfl)))) (fun _ _ _ _ _ => ptsd_nil) (fun _ _ _ _ _ => (ped_ix ix_seq semIx_ok (ped_var 5 (pv 5)) ped_int)))
      (pssd_one (psd_ret (ped_callD G__law_same hr (by decide) (by rfl) (pad_cons (ped_val (ped_callD G_sorted_by_needles hr (by decide) (by rfl) (pad_cons (ped_val (ped_var 0 (pv 0))) (pad_cons (ped_val (ped_var 1 (pv 1))) pad_nil)) (lenA_cons (lenA_cons lenA_nil)))) (pad_cons (ped_tuplec (by rfl) b.tuple (ped_var 4 (pv 4))) pad_nil)) (lenA_cons (lenA_cons lenA_nil))))))))
theorem sc__law_is_false_right : FnScope ["draws", "cards", "wanted", "due", "at", "held", "code", "hole"] ["draws", "cards", "wanted"] (defScope (topS 19)) := ⟨rfl, rfl, rfl, by decide +kernel, rfl, by decide +kernel, by decide +kernel⟩
theorem ok__law_is_false_right (R : Raw K mg "_law_is_false_right" (topS 19) ["draws", "cards", "wanted"]) (b : Bi mg) (G__law_same : Kn P w K mg base "_law_same" ["actual", "due"] 9 (r__law_same 8)) (G_false_falls : Kn P w K mg base "false_falls" ["cards", "wanted"] 2 f_false_falls) : Kn P w K mg base "_law_is_false_right" ["draws", "cards", "wanted"] 10 f__law_is_false_right := by
  have S := sc__law_is_false_right
  refine R.kn (d := 9) S (by decide) fun f cdv A outer s H E hr => ?_
  exact (pssd_cons (psd_set 3 (ps_set S.nd rfl (Or.inl rfl) (ped_lst pad_nil)))
      (pssd_cons (psd_for PassesOwn.never rfl (pid_rg1 (by rfl) b.range (ped_len (by rfl) b.len (ped_var 1 (pv 1)))) lk_rg1 (pgd_name (pg_name (i := 4) S.nd rfl (Or.inl rfl))) (pssd_cons (psd_set 5 (ps_set S.nd rfl (Or.inr rfl) (ped_lst pad_nil)))
      (pssd_cons (psd_for PassesOwn.never rfl (pid_seq (ped_ix ix_seq semIx_ok (ped_var 1 (pv 1)) (ped_var 4 (pv 4)))) lk_seq (pgd_name (pg_name (i := 6) S.nd rfl (Or.inl rfl))) (pssd_one (psd_set 5 (ps_set S.nd rfl (Or.inr rfl) (ped_op op_addA semAdd_ok (ped_var 5 (pv 5)) (ped_listc (by rfl) b.list (ped_var 6 (pv 6))))))))
      (pssd_one (psd_if (PW.pt (pwd_and (ptd_cmp (op_eqD hr.units) semEq_ok (ped_len (by rfl) b.len (ped_lc rfl S.nd (pid_var 2 (pv 2)) lk_var (hj_var (by decide)) (own := [("hole", 7)]) (blk_of rfl (by kernel_rfl)) (by decide) (fun _ _ _ _ _ => (pgd_name (pg_name (i := 7) S.nd rfl (Or.inl rfl)))) (fun _ _ _ _ _ => (ptsd_one (ptd_cmp (op_notInA (hu65 hr)) semNotIn_ok (ped_var 7 (pv 7)) (ped_var 5 (pv 5)) (by rfl)))) (fun _ _ _ _ _ => (ped_var 7 (pv 7))))) ped_int (nomark _)) (pwd_and1 (ptd_cmp (op_eqD hr.units) semEq_ok (ped_len (by rfl) b.len (ped_lc rfl S.nd (pid_seq (ped_ix ix_seq semIx_ok (ped_var 1 (pv 1)) (ped_var 4 (pv 4)))) lk_seq hj_seq (own := [("code", 6)]) (blk_of rfl (by kernel_rfl)) (by decide) (fun _ _ _ _ _ => (pgd_name (pg_name (i := 6) S.nd rfl (Or.inl rfl)))) (fun _ _ _ _ _ => (ptsd_one (ptd_cmp (op_eqD hr.units) semEq_ok (ped_var 6 (pv 6)) (ped_var 2 (pv 2)) (nomark _)))) (fun _ _ _ _ _ => (ped_var 6 (pv 6))))) ped_int (nomark _))))) (pssd_one (psd_expr (ped_append (pv 3) (ped_var 4 (pv 4))))) pssd_nil)))))
      (pssd_one (psd_ret (ped_callD G__law_same hr (by decide) (by rfl) (pad_cons (ped_val (ped_callD G_false_falls hr (by decide) (by rfl) (pad_cons (ped_val (ped_var 1 (pv 1))) (pad_cons (ped_val (ped_var 2 (pv 2))) pad_nil)) (lenA_cons (lenA_cons lenA_nil)))) (pad_cons (ped_tuplec (by rfl) b.tuple (ped_var 3 (pv 3))) pad_nil)) (lenA_cons (lenA_cons lenA_nil)))))))
theorem sc_law : FnScope ["script", "draws", "great", "codes", "cards", "wanted", "many", "told", "holes", "step", "few", "k", "hole"] ["script"] (defScope (topS 20)) := ⟨rfl, rfl, rfl, by decide +kernel, rfl, by decide +kernel, by decide +kernel⟩
theorem ok_law {f : Addr} {fd : FuncData} (FF : FunD K "law" "law" (defArgs (topS 20)) (defBody (topS 20)) (defScope (topS 20)) [] [] f fd) (b : Bi mg) (G__law_are_cards_right : Kn P w K mg base "_law_are_cards_right" ["draws", "cards"] 10 f__law_are_cards_right) (G__law_cards : Kn P w K mg base "_law_cards" ["draws", "most", "holes"] 2 f__law_cards) (G__law_cell : Kn P w K mg base "_law_cell" ["script", "draws"] 2 f__law_cell) (G__law_draws : Kn P w K mg base "_law_draws" ["script", "many"] 1 f__law_draws) (G__law_is_false_right : Kn P w K mg base "_law_is_false_right" ["draws", "cards", "wanted"] 10 f__law_is_false_right) (G__law_is_sorted_right : Kn P w K mg base "_law_is_sorted_right" ["codes", "holes"] 10 f__law_is_sorted_right) (G__law_same : Kn P w K mg base "_law_same" ["actual", "due"] 9 (r__law_same 8)) (G__law_take : Kn P w K mg base "_law_take" ["draws", "many"] 1 f__law_take) (G_fallen : Kn P w K mg base "fallen" ["cards", "hole"] 1 f_fallen) (G_false_falls : Kn P w K mg base "false_falls" ["cards", "wanted"] 2 f_false_falls) (G_needled : Kn P w K mg base "needled" ["cards", "all_of", "none_of"] 2 f_needled) (G_needles_for : Kn P w K mg base "needles_for" ["many"] 1 f_needles_for) (G_sorted_by_needles : Kn P w K mg base "sorted_by_needles" ["codes", "holes"] 2 f_sorted_by_needles) (G_two_of : Kn P w K mg base "two_of" ["holes"] 1 f_two_of) : FnOk P w K mg base CX0 11 f fd ["script"] (spD K 1 f_law) := by
  have S := sc_law
  refine fn_okF (d := 10) FF S (by decide) fun cdv A outer s H E hr => ?_
  exact (pssd_cons (psd_set 1 (ps_set S.nd rfl (Or.inr rfl) (ped_callD G__law_draws hr (by decide) (by rfl) (pad_cons (ped_val (ped_var 0 (pv 0))) (pad_cons ped_int pad_nil)) (lenA_cons (lenA_cons lenA_nil)))))
      (pssd_cons (psd_if (ptd_not (ptd_val (ped_callD G__law_are_cards_right hr (by decide) (by rfl) (pad_cons (ped_var 1 (pv 1)) (pad_cons (ped_val (ped_callD G__law_cards hr (by decide) (by rfl) (pad_cons (ped_var 1 (pv 1)) (pad_cons ped_int (pad_cons ped_int pad_nil))) (lenA_cons (lenA_cons (lenA_cons lenA_nil))))) pad_nil)) (lenA_cons (lenA_cons lenA_nil))))) (pssd_one (psd_ret ped_bl)) pssd_nil)
      (pssd_cons (psd_set 2 (ps_set S.nd rfl (Or.inr rfl) (ped_op op_mod modI_ok (ped_abs (by rfl) b.abs (ped_callD G__law_cell hr (by decide) (by rfl) (pad_cons (ped_val (ped_var 0 (pv 0))) (pad_cons (ped_var 1 (pv 1)) pad_nil)) (lenA_cons (lenA_cons lenA_nil)))) (ped_op op_pow powI_ok ped_int ped_int))))
      (pssd_cons (psd_set 3 (ps_set S.nd rfl (Or.inl rfl) (ped_tuplec (by rfl) b.tuple (ped_lc rfl S.nd (pid_rg1 (by rfl) b.range (ped_callD G__law_take hr (by decide) (by rfl) (pad_cons (ped_var 1 (pv 1)) (pad_cons ped_int pad_nil)) (lenA_cons (lenA_cons lenA_nil)))) lk_rg1 hj_rg1 (own := [("k", 11)]) (blk_of rfl (by kernel_rfl)) (by decide) (fun _ _ _ _ _ => (pgd_name (pg_name (i := 11) S.nd rfl (Or.inl rfl)))) (fun _ _ _ _ _ => ptsd_nil) (fun _ _ _ _ _ => (ped_ix ix_seq semIx_ok (ped_lst (pad_cons (ped_val (ped_callD G__law_take hr (by decide) (by rfl) (pad_cons (ped_var 1 (pv 1)) (pad_cons ped_int pad_nil)) (lenA_cons (lenA_cons lenA_nil)))) (pad_cons (ped_val (ped_op op_addA semAdd_ok (ped_var 2 (pv 2)) (ped_callD G__law_take hr (by decide) (by rfl) (pad_cons (ped_var 1 (pv 1)) (pad_cons ped_int pad_nil)) (lenA_cons (lenA_cons lenA_nil))))) pad_nil))) (ped_intc (by rfl) b.int (ped_cmp (op_eqD hr.units) semEq_ok (ped_callD G__law_take hr (by decide) (by rfl) (pad_cons (ped_var 1 (pv 1)) (pad_cons ped_int pad_nil)) (lenA_cons (lenA_cons lenA_nil))) ped_int (nomark _)))))))))
      (pssd_cons (psd_if (ptd_not (ptd_val (ped_callD G__law_is_sorted_right hr (by decide) (by rfl) (pad_cons (ped_val (ped_var 3 (pv 3))) (pad_cons (ped_val (ped_callD G__law_take hr (by decide) (by rfl) (pad_cons (ped_var 1 (pv 1)) (pad_cons ped_int pad_nil)) (lenA_cons (lenA_cons lenA_nil)))) pad_nil)) (lenA_cons (lenA_cons lenA_nil))))) (pssd_one (psd_ret ped_bl)) pssd_nil)
      (pssd_cons (psd_set 4 (ps_set S.nd rfl (Or.inl rfl) (ped_tuplec (by rfl) b.tuple (ped_lc rfl S.nd (pid_rg1 (by rfl) b.range (ped_callD G__law_take hr (by decide) (by rfl) (pad_cons (ped_var 1 (pv 1)) (pad_cons ped_int pad_nil)) (lenA_cons (lenA_cons lenA_nil)))) lk_rg1 hj_rg1 (own := [("k", 11)]) (blk_of rfl (by kernel_rfl)) (by decide) (fun _ _ _ _ _ => (pgd_name (pg_name (i := 11) S.nd rfl (Or.inl rfl)))) (fun _ _ _ _ _ => ptsd_nil) (fun _ _ _ _ _ => (ped_callD G__law_cards hr (by decide) (by rfl) (pad_cons (ped_var 1 (pv 1)) (pad_cons ped_int (pad_cons ped_int pad_nil))) (lenA_cons (lenA_cons (lenA_cons lenA_nil)))))))))
      (pssd_cons (psd_set 5 (ps_set S.nd rfl (Or.inl rfl) (ped_tuplec (by rfl) b.tuple (ped_lc rfl S.nd (pid_rg1 (by rfl) b.range ped_int) lk_rg1 hj_rg1 (own := [("hole", 12)]) (blk_of rfl (by kernel_rfl)) (by decide) (fun _ _ _ _ _ => (pgd_name (pg_name (i := 12) S.nd rfl (Or.inl rfl)))) (fun _ _ _ _ _ => (ptsd_one (ptd_cmp (op_eqD hr.units) semEq_ok (ped_callD G__law_take hr (by decide) (by rfl) (pad_cons (ped_var 1 (pv 1)) (pad_cons ped_int pad_nil)) (lenA_cons (lenA_cons lenA_nil))) ped_int (nomark _)))) (fun _ _ _ _ _ => (ped_var 12 (pv 12)))))))
      (pssd_cons (psd_if (ptd_not (ptd_val (ped_callD G__law_is_false_right hr (by decide) (by rfl) (pad_cons (ped_var 1 (pv 1)) (pad_cons (ped_val (ped_var 4 (pv 4))) (pad_cons (ped_val (ped_var 5 (pv 5))) pad_nil))) (lenA_cons (lenA_cons (lenA_cons lenA_nil)))))) (pssd_one (psd_ret ped_bl)) pssd_nil)
      (pssd_cons (psd_for PassesOwn.never rfl (pid_seq (ped_lst (pad_cons (ped_val (ped_op op_addA semAdd_ok ped_int (ped_callD G__law_take hr (by decide) (by rfl) (pad_cons (ped_var 1 (pv 1)) (pad_cons ped_int pad_nil)) (lenA_cons (lenA_cons lenA_nil))))) (pad_cons (ped_val (ped_op op_addA semAdd_ok ped_int (ped_var 2 (pv 2)))) pad_nil)))) lk_seq (pgd_name (pg_name (i := 6) S.nd rfl (Or.inl rfl))) (pssd_cons (psd_asgT (ped_tup (pad_cons ped_int (pad_cons ped_int pad_nil))) (pgd_tup rfl (pgsd_cons (pg_name (i := 7) S.nd rfl (Or.inl rfl)) (pgsd_cons (pg_name (i := 8) S.nd rfl (Or.inl rfl)) pgsd_nil))))
      (pssd_cons (psd_for PassesOwn.never rfl (pid_rg1 (by rfl) b.range ped_int) lk_rg1 (pgd_name (pg_name (i := 9) S.nd rfl (Or.inl rfl))) (pssd_one (psd_if (ptd_cmp op_ltA cmpD_ok (ped_var 7 (pv 7)) (ped_var 6 (pv 6)) (nomark _)) (pssd_one (psd_par2 (i := 7) (j := 8) rfl S.nd rfl rfl (by decide) rfl rfl (pad_cons (ped_val (ped_op op_mulAny semMul_ok (ped_var 7 (pv 7)) ped_int)) (pad_cons (ped_val (ped_op op_addA semAdd_ok (ped_var 8 (pv 8)) ped_int)) pad_nil)) rfl)) pssd_nil)))
      (pssd_one (psd_if (ptd_not (ptd_val (ped_callD G__law_same hr (by decide) (by rfl) (pad_cons (ped_val (ped_callD G_needles_for hr (by decide) (by rfl) (pad_cons (ped_val (ped_var 6 (pv 6))) pad_nil) (lenA_cons lenA_nil))) (pad_cons (ped_val (ped_var 8 (pv 8))) pad_nil)) (lenA_cons (lenA_cons lenA_nil))))) (pssd_one (psd_ret ped_bl)) pssd_nil)))))
      (pssd_cons (psd_set 8 (ps_set S.nd rfl (Or.inl rfl) (ped_callD G__law_take hr (by decide) (by rfl) (pad_cons (ped_var 1 (pv 1)) (pad_cons ped_int pad_nil)) (lenA_cons (lenA_cons lenA_nil)))))
      (pssd_cons (psd_if (PW.pt (pwd_or (ptd_not (ptd_val (ped_callD G__law_same hr (by decide) (by rfl) (pad_cons (ped_val (ped_callD G_two_of hr (by decide) (by rfl) (pad_cons (ped_val (ped_var 8 (pv 8))) pad_nil) (lenA_cons lenA_nil))) (pad_cons (ped_sum rfl (by rfl) b.sum (ped_listR rfl (by rfl) b.list (prd_1 (by rfl) b.range (ped_var 8 (pv 8))))) pad_nil)) (lenA_cons (lenA_cons lenA_nil))))) (pwd_or1 (ptd_not (ptd_val (ped_callD G__law_same hr (by decide) (by rfl) (pad_cons (ped_val (ped_callD G_two_of hr (by decide) (by rfl) (pad_cons (ped_val (ped_op op_addA semAdd_ok (ped_var 2 (pv 2)) ped_int)) pad_nil) (lenA_cons lenA_nil))) (pad_cons (ped_val (ped_op op_addA semAdd_ok (ped_callD G_two_of hr (by decide) (by rfl) (pad_cons (ped_val (ped_var 2 (pv 2))) pad_nil) (lenA_cons lenA_nil)) (ped_var 2 (pv 2)))) pad_nil)) (lenA_cons (lenA_cons lenA_nil)))))))) (pssd_one (psd_ret ped_bl)) pssd_nil)
      (pssd_cons (psd_set 10 (ps_set S.nd rfl (Or.inl rfl) (ped_tup (pad_cons (ped_tup (pad_cons ped_int (pad_cons ped_int pad_nil))) (pad_cons (ped_tup (pad_cons ped_int pad_nil)) (pad_cons (ped_tup pad_nil) (pad_cons (ped_tup (pad_cons ped_int (pad_cons ped_int (pad_cons ped_int pad_nil)))) (pad_cons (ped_tup (pad_cons ped_int (pad_cons ped_int pad_nil))) pad_nil))))))))
      (pssd_cons (psd_if (PW.pt (pwd_or (ptd_not (ptd_val (ped_callD G__law_same hr (by decide) (by rfl) (pad_cons (ped_val (ped_callD G_fallen hr (by decide) (by rfl) (pad_cons (ped_val (ped_var 10 (pv 10))) (pad_cons ped_int pad_nil)) (lenA_cons (lenA_cons lenA_nil)))) (pad_cons (ped_tup (pad_cons ped_int (pad_cons ped_int (pad_cons ped_int pad_nil)))) pad_nil)) (lenA_cons (lenA_cons lenA_nil))))) (pwd_or (ptd_not (ptd_val (ped_callD G__law_same hr (by decide) (by rfl) (pad_cons (ped_val (ped_callD G_needled hr (by decide) (by rfl) (pad_cons (ped_val (ped_var 10 (pv 10))) (pad_cons (ped_tup (pad_cons ped_int pad_nil)) (pad_cons (ped_tup (pad_cons ped_int (pad_cons ped_int pad_nil))) pad_nil))) (lenA_cons (lenA_cons (lenA_cons lenA_nil))))) (pad_cons (ped_tup (pad_cons ped_int pad_nil)) pad_nil)) (lenA_cons (lenA_cons lenA_nil))))) (pwd_or1 (ptd_not (ptd_val (ped_callD G__law_same hr (by decide) (by rfl) (pad_cons (ped_val (ped_callD G_needled hr (by decide) (by rfl) (pad_cons (ped_val (ped_var 10 (pv 10))) (pad_cons (ped_tup pad_nil) (pad_cons (ped_tup (pad_cons ped_int pad_nil)) pad_nil))) (lenA_cons (lenA_cons (lenA_cons lenA_nil))))) (pad_cons (ped_tup (pad_cons ped_int (pad_cons ped_int (pad_cons ped_int pad_nil)))) pad_nil)) (lenA_cons (lenA_cons lenA_nil))))))))) (pssd_one (psd_ret ped_bl)) pssd_nil)
      (pssd_cons (psd_if (PW.pt (pwd_or (ptd_not (ptd_val (ped_callD G__law_same hr (by decide) (by rfl) (pad_cons (ped_val (ped_callD G_sorted_by_needles hr (by decide) (by rfl) (pad_cons (ped_tup (pad_cons ped_int (pad_cons ped_int (pad_cons ped_int (pad_cons ped_int (pad_cons ped_int (pad_cons ped_int pad_nil))))))) (pad_cons ped_int pad_nil)) (lenA_cons (lenA_cons lenA_nil)))) (pad_cons (ped_tup (pad_cons ped_int (pad_cons ped_int (pad_cons ped_int (pad_cons ped_int (pad_cons ped_int (pad_cons ped_int pad_nil))))))) pad_nil)) (lenA_cons (lenA_cons lenA_nil))))) (pwd_or (ptd_not (ptd_val (ped_callD G__law_same hr (by decide) (by rfl) (pad_cons (ped_val (ped_callD G_needles_for hr (by decide) (by rfl) (pad_cons ped_int pad_nil) (lenA_cons lenA_nil))) (pad_cons ped_int pad_nil)) (lenA_cons (lenA_cons lenA_nil))))) (pwd_or (ptd_not (ptd_val (ped_callD G__law_same hr (by decide) (by rfl) (pad_cons (ped_val (ped_callD G_needles_for hr (by decide) (by rfl) (pad_cons ped_int pad_nil) (lenA_cons lenA_nil))) (pad_cons ped_int pad_nil)) (lenA_cons (lenA_cons lenA_nil))))) (pwd_or1 (ptd_not (ptd_val (ped_callD G__law_same hr (by decide) (by rfl) (pad_cons (ped_val (ped_callD G_needles_for hr (by decide) (by rfl) (pad_cons ped_int pad_nil) (lenA_cons lenA_nil))) (pad_cons ped_int pad_nil)) (lenA_cons (lenA_cons lenA_nil)))))))))) (pssd_one (psd_ret ped_bl)) pssd_nil)
      (pssd_cons (psd_if (PW.pt (pwd_or (ptd_not (ptd_val (ped_callD G__law_same hr (by decide) (by rfl) (pad_cons (ped_val (ped_callD G_false_falls hr (by decide) (by rfl) (pad_cons (ped_tup (pad_cons (ped_tup (pad_cons (ped_tup (pad_cons ped_int (pad_cons ped_int pad_nil))) (pad_cons (ped_tup (pad_cons ped_int (pad_cons ped_int pad_nil))) pad_nil))) (pad_cons (ped_tup (pad_cons (ped_tup (pad_cons ped_int (pad_cons ped_int pad_nil))) pad_nil)) (pad_cons (ped_tup (pad_cons (ped_tup (pad_cons ped_int (pad_cons ped_int pad_nil))) (pad_cons (ped_tup (pad_cons ped_int (pad_cons ped_int pad_nil))) pad_nil))) (pad_cons (ped_tup pad_nil) pad_nil))))) (pad_cons (ped_tup (pad_cons ped_int (pad_cons ped_int pad_nil))) pad_nil)) (lenA_cons (lenA_cons lenA_nil)))) (pad_cons (ped_tup (pad_cons ped_int pad_nil)) pad_nil)) (lenA_cons (lenA_cons lenA_nil))))) (pwd_or (ptd_not (ptd_val (ped_callD G__law_same hr (by decide) (by rfl) (pad_cons (ped_val (ped_callD G_two_of hr (by decide) (by rfl) (pad_cons ped_int pad_nil) (lenA_cons lenA_nil))) (pad_cons ped_int pad_nil)) (lenA_cons (lenA_cons lenA_nil))))) (pwd_or1 (ptd_not (ptd_val (ped_callD G__law_same hr (by decide) (by rfl) (pad_cons (ped_val (ped_callD G_false_falls hr (by decide) (by rfl) (pad_cons (ped_tup (pad_cons (ped_tup (pad_cons (ped_tup (pad_cons ped_int pad_nil)) pad_nil)) (pad_cons (ped_tup pad_nil) pad_nil))) (pad_cons (ped_tup pad_nil) pad_nil)) (lenA_cons (lenA_cons lenA_nil)))) (pad_cons (ped_tup (pad_cons ped_int (pad_cons ped_int pad_nil))) pad_nil)) (lenA_cons (lenA_cons lenA_nil))))))))) (pssd_one (psd_ret ped_bl)) pssd_nil)
      (pssd_one (psd_ret (ped_and (ped_callD G__law_are_cards_right hr (by decide) (by rfl) (pad_cons (ped_var 1 (pv 1)) (pad_cons (ped_val (ped_var 10 (pv 10))) pad_nil)) (lenA_cons (lenA_cons lenA_nil))) (ped_and (ped_callD G__law_is_sorted_right hr (by decide) (by rfl) (pad_cons (ped_tup (pad_cons ped_int (pad_cons ped_int (pad_cons ped_int pad_nil)))) (pad_cons ped_int pad_nil)) (lenA_cons (lenA_cons lenA_nil))) (ped_one (ped_callD G__law_same hr (by decide) (by rfl) (pad_cons (ped_val (ped_callD G_two_of hr (by decide) (by rfl) (pad_cons ped_int pad_nil) (lenA_cons lenA_nil))) (pad_cons ped_int pad_nil)) (lenA_cons (lenA_cons lenA_nil)))))))))))))))))))))))
end
end G62
namespace G62
open PySem PySem.Spec PyProof.Rows L2
/-! ### the head -/
def e_fallen : He.DefD := ⟨("fallen", none), "fallen", "fallen", defArgs (topS 1), defBody (topS 1), defScope (topS 1), [], []⟩
def e_holes_of : He.DefD := ⟨("holes_of", none), "holes_of", "holes_of", defArgs (topS 2), defBody (topS 2), defScope (topS 2), [], []⟩
def e_sorted_by_needles : He.DefD := ⟨("sorted_by_needles", none), "sorted_by_needles", "sorted_by_needles", defArgs (topS 3), defBody (topS 3), defScope (topS 3), [], []⟩
def e_has_all : He.DefD := ⟨("has_all", none), "has_all", "has_all", defArgs (topS 4), defBody (topS 4), defScope (topS 4), [], []⟩
def e_has_none : He.DefD := ⟨("has_none", none), "has_none", "has_none", defArgs (topS 5), defBody (topS 5), defScope (topS 5), [], []⟩
def e_needled : He.DefD := ⟨("needled", none), "needled", "needled", defArgs (topS 6), defBody (topS 6), defScope (topS 6), [], []⟩
def e_needles_for : He.DefD := ⟨("needles_for", none), "needles_for", "needles_for", defArgs (topS 7), defBody (topS 7), defScope (topS 7), [], []⟩
def e_two_of : He.DefD := ⟨("two_of", none), "two_of", "two_of", defArgs (topS 8), defBody (topS 8), defScope (topS 8), [], []⟩
def e_holes_in : He.DefD := ⟨("holes_in", none), "holes_in", "holes_in", defArgs (topS 9), defBody (topS 9), defScope (topS 9), [], []⟩
def e_false_falls : He.DefD := ⟨("false_falls", none), "false_falls", "false_falls", defArgs (topS 10), defBody (topS 10), defScope (topS 10), [], []⟩
def e__law_draws : He.DefD := ⟨("_law_draws", none), "_law_draws", "_law_draws", defArgs (topS 12), defBody (topS 12), defScope (topS 12), [], []⟩
def e__law_take : He.DefD := ⟨("_law_take", none), "_law_take", "_law_take", defArgs (topS 13), defBody (topS 13), defScope (topS 13), [], []⟩
def e__law_cell : He.DefD := ⟨("_law_cell", none), "_law_cell", "_law_cell", defArgs (topS 14), defBody (topS 14), defScope (topS 14), [], []⟩
def e__law_same : He.DefD := ⟨("_law_same", none), "_law_same", "_law_same", defArgs (topS 15), defBody (topS 15), defScope (topS 15), [], []⟩
def e__law_cards : He.DefD := ⟨("_law_cards", none), "_law_cards", "_law_cards", defArgs (topS 16), defBody (topS 16), defScope (topS 16), [], []⟩
def e__law_are_cards_right : He.DefD := ⟨("_law_are_cards_right", none), "_law_are_cards_right", "_law_are_cards_right", defArgs (topS 17), defBody (topS 17), defScope (topS 17), [], []⟩
def e__law_is_sorted_right : He.DefD := ⟨("_law_is_sorted_right", none), "_law_is_sorted_right", "_law_is_sorted_right", defArgs (topS 18), defBody (topS 18), defScope (topS 18), [], []⟩
def e__law_is_false_right : He.DefD := ⟨("_law_is_false_right", none), "_law_is_false_right", "_law_is_false_right", defArgs (topS 19), defBody (topS 19), defScope (topS 19), [], []⟩
def e_law : He.DefD := ⟨("law", none), "law", "law", defArgs (topS 20), defBody (topS 20), defScope (topS 20), [], []⟩
def fn : List He.DefD := [e_fallen, e_holes_of, e_sorted_by_needles, e_has_all, e_has_none, e_needled, e_needles_for, e_two_of, e_holes_in, e_false_falls, e__law_draws, e__law_take, e__law_cell, e__law_same, e__law_cards, e__law_are_cards_right, e__law_is_sorted_right, e__law_is_false_right, e_law]
def fa : List He.Fa := [.glo "fallen", .glo "holes_of", .glo "sorted_by_needles", .glo "has_all", .glo "has_none", .glo "needled", .glo "needles_for", .glo "two_of", .glo "holes_in", .glo "false_falls", .glo "_law_draws", .glo "_law_take", .glo "_law_cell", .glo "_law_same", .glo "_law_cards", .glo "_law_are_cards_right", .glo "_law_is_sorted_right", .glo "_law_is_false_right", .glo "law", .free "abs", .free "all", .free "any", .free "bool", .free "int", .free "isinstance", .free "len", .free "list", .free "range", .free "set", .free "sorted", .free "str", .free "sum", .free "tuple"]
abbrev R : PySem.W.OpenRow := PySem.W.OpenLaw.row PySem.Challenge.rw_leadstrue_k62_cards_and_needles
abbrev hk : PySem.W.Hook := He.hookD 4 fa fn
def ob (s : PySem.W.SharedT) : He.AlD := He.obsDG 4 fa fn (HandSHeadRun.getT s)
theorem ob_eq (s : PySem.W.SharedT) : ob s = hk.obs s.abs := He.obsDG_eq (HandSHeadRun.getT_eq s)
theorem run (w : World) : HandSHeadRun.RunEq R (PySem.W.view R.prog [20]) hk ob 1500 ["fallen", "holes_of", "sorted_by_needles", "has_all", "has_none", "needled", "needles_for", "two_of", "holes_in", "false_falls", "_law_draws", "_law_take", "_law_cell", "_law_same", "_law_cards", "_law_are_cards_right", "_law_is_sorted_right", "_law_is_false_right"] w := by
  intro os
  kernel_rfl
theorem facts {P : Program} {w : World} {K : PySem.W.Frag} {h : Heap} {mg : Str → Option Value} {f : Addr} (X : K.In h) (G : h.Ns mainGlobals mg) (hfa : mg ("law" : Str) = some (.ref f)) (c : He.SaysD fa fn K) :
    ∃ fd : FuncData, (∀ (s : Shared) (v : Value), BindsTo s fd ⟨[v], []⟩ [("script", v)]) ∧ ∀ base : Heap, FnOk P w K mg base CX0 11 f fd ["script"] (VL.spD K 1 f_law) := by
  have R_fallen : VL.Raw K mg "fallen" (topS 1) ["cards", "hole"] := by
    obtain ⟨fd, F⟩ := c.def_ 0 (d := e_fallen) rfl
    exact ⟨_, fd, F, He.glo_ok X G (c.fact 0 (f := .glo "fallen") rfl), F.bindsN fun _ _ _ _ _ _ us hl => match us, hl with | [_, _], _ => rfl⟩
  have R_holes_of : VL.Raw K mg "holes_of" (topS 2) ["code", "holes"] := by
    obtain ⟨fd, F⟩ := c.def_ 1 (d := e_holes_of) rfl
    exact ⟨_, fd, F, He.glo_ok X G (c.fact 1 (f := .glo "holes_of") rfl), F.bindsN fun _ _ _ _ _ _ us hl => match us, hl with | [_, _], _ => rfl⟩
  have R_sorted_by_needles : VL.Raw K mg "sorted_by_needles" (topS 3) ["codes", "holes"] := by
    obtain ⟨fd, F⟩ := c.def_ 2 (d := e_sorted_by_needles) rfl
    exact ⟨_, fd, F, He.glo_ok X G (c.fact 2 (f := .glo "sorted_by_needles") rfl), F.bindsN fun _ _ _ _ _ _ us hl => match us, hl with | [_, _], _ => rfl⟩
  have R_has_all : VL.Raw K mg "has_all" (topS 4) ["card", "holes"] := by
    obtain ⟨fd, F⟩ := c.def_ 3 (d := e_has_all) rfl
    exact ⟨_, fd, F, He.glo_ok X G (c.fact 3 (f := .glo "has_all") rfl), F.bindsN fun _ _ _ _ _ _ us hl => match us, hl with | [_, _], _ => rfl⟩
  have R_has_none : VL.Raw K mg "has_none" (topS 5) ["card", "holes"] := by
    obtain ⟨fd, F⟩ := c.def_ 4 (d := e_has_none) rfl
    exact ⟨_, fd, F, He.glo_ok X G (c.fact 4 (f := .glo "has_none") rfl), F.bindsN fun _ _ _ _ _ _ us hl => match us, hl with | [_, _], _ => rfl⟩
  have R_needled : VL.Raw K mg "needled" (topS 6) ["cards", "all_of", "none_of"] := by
    obtain ⟨fd, F⟩ := c.def_ 5 (d := e_needled) rfl
    exact ⟨_, fd, F, He.glo_ok X G (c.fact 5 (f := .glo "needled") rfl), F.bindsN fun _ _ _ _ _ _ us hl => match us, hl with | [_, _, _], _ => rfl⟩
  have R_needles_for : VL.Raw K mg "needles_for" (topS 7) ["many"] := by
    obtain ⟨fd, F⟩ := c.def_ 6 (d := e_needles_for) rfl
    exact ⟨_, fd, F, He.glo_ok X G (c.fact 6 (f := .glo "needles_for") rfl), F.bindsN fun _ _ _ _ _ _ us hl => match us, hl with | [_], _ => rfl⟩
  have R_two_of : VL.Raw K mg "two_of" (topS 8) ["holes"] := by
    obtain ⟨fd, F⟩ := c.def_ 7 (d := e_two_of) rfl
    exact ⟨_, fd, F, He.glo_ok X G (c.fact 7 (f := .glo "two_of") rfl), F.bindsN fun _ _ _ _ _ _ us hl => match us, hl with | [_], _ => rfl⟩
  have R_holes_in : VL.Raw K mg "holes_in" (topS 9) ["card"] := by
    obtain ⟨fd, F⟩ := c.def_ 8 (d := e_holes_in) rfl
    exact ⟨_, fd, F, He.glo_ok X G (c.fact 8 (f := .glo "holes_in") rfl), F.bindsN fun _ _ _ _ _ _ us hl => match us, hl with | [_], _ => rfl⟩
  have R_false_falls : VL.Raw K mg "false_falls" (topS 10) ["cards", "wanted"] := by
    obtain ⟨fd, F⟩ := c.def_ 9 (d := e_false_falls) rfl
    exact ⟨_, fd, F, He.glo_ok X G (c.fact 9 (f := .glo "false_falls") rfl), F.bindsN fun _ _ _ _ _ _ us hl => match us, hl with | [_, _], _ => rfl⟩
  have R__law_draws : VL.Raw K mg "_law_draws" (topS 12) ["script", "many"] := by
    obtain ⟨fd, F⟩ := c.def_ 10 (d := e__law_draws) rfl
    exact ⟨_, fd, F, He.glo_ok X G (c.fact 10 (f := .glo "_law_draws") rfl), F.bindsN fun _ _ _ _ _ _ us hl => match us, hl with | [_, _], _ => rfl⟩
  have R__law_take : VL.Raw K mg "_law_take" (topS 13) ["draws", "many"] := by
    obtain ⟨fd, F⟩ := c.def_ 11 (d := e__law_take) rfl
    exact ⟨_, fd, F, He.glo_ok X G (c.fact 11 (f := .glo "_law_take") rfl), F.bindsN fun _ _ _ _ _ _ us hl => match us, hl with | [_, _], _ => rfl⟩
  have R__law_cell : VL.Raw K mg "_law_cell" (topS 14) ["script", "draws"] := by
    obtain ⟨fd, F⟩ := c.def_ 12 (d := e__law_cell) rfl
    exact ⟨_, fd, F, He.glo_ok X G (c.fact 12 (f := .glo "_law_cell") rfl), F.bindsN fun _ _ _ _ _ _ us hl => match us, hl with | [_, _], _ => rfl⟩
  have R__law_same : VL.Raw K mg "_law_same" (topS 15) ["actual", "due"] := by
    obtain ⟨fd, F⟩ := c.def_ 13 (d := e__law_same) rfl
    exact ⟨_, fd, F, He.glo_ok X G (c.fact 13 (f := .glo "_law_same") rfl), F.bindsN fun _ _ _ _ _ _ us hl => match us, hl with | [_, _], _ => rfl⟩
  have R__law_cards : VL.Raw K mg "_law_cards" (topS 16) ["draws", "most", "holes"] := by
    obtain ⟨fd, F⟩ := c.def_ 14 (d := e__law_cards) rfl
    exact ⟨_, fd, F, He.glo_ok X G (c.fact 14 (f := .glo "_law_cards") rfl), F.bindsN fun _ _ _ _ _ _ us hl => match us, hl with | [_, _, _], _ => rfl⟩
  have R__law_are_cards_right : VL.Raw K mg "_law_are_cards_right" (topS 17) ["draws", "cards"] := by
    obtain ⟨fd, F⟩ := c.def_ 15 (d := e__law_are_cards_right) rfl
    exact ⟨_, fd, F, He.glo_ok X G (c.fact 15 (f := .glo "_law_are_cards_right") rfl), F.bindsN fun _ _ _ _ _ _ us hl => match us, hl with | [_, _], _ => rfl⟩
  have R__law_is_sorted_right : VL.Raw K mg "_law_is_sorted_right" (topS 18) ["codes", "holes"] := by
    obtain ⟨fd, F⟩ := c.def_ 16 (d := e__law_is_sorted_right) rfl
    exact ⟨_, fd, F, He.glo_ok X G (c.fact 16 (f := .glo "_law_is_sorted_right") rfl), F.bindsN fun _ _ _ _ _ _ us hl => match us, hl with | [_, _], _ => rfl⟩
  have R__law_is_false_right : VL.Raw K mg "_law_is_false_right" (topS 19) ["draws", "cards", "wanted"] := by
    obtain ⟨fd, F⟩ := c.def_ 17 (d := e__law_is_false_right) rfl
    exact ⟨_, fd, F, He.glo_ok X G (c.fact 17 (f := .glo "_law_is_false_right") rfl), F.bindsN fun _ _ _ _ _ _ us hl => match us, hl with | [_, _, _], _ => rfl⟩
  have R_law : VL.Raw K mg "law" (topS 20) ["script"] := by
    obtain ⟨fd, F⟩ := c.def_ 18 (d := e_law) rfl
    exact ⟨_, fd, F, He.glo_ok X G (c.fact 18 (f := .glo "law") rfl), F.bindsN fun _ _ _ _ _ _ us hl => match us, hl with | [_], _ => rfl⟩
  have b : Bi mg := ⟨He.free_ok X G (c.fact 19 (f := .free "abs") rfl), He.free_ok X G (c.fact 20 (f := .free "all") rfl), He.free_ok X G (c.fact 21 (f := .free "any") rfl), He.free_ok X G (c.fact 22 (f := .free "bool") rfl), He.free_ok X G (c.fact 23 (f := .free "int") rfl), He.free_ok X G (c.fact 24 (f := .free "isinstance") rfl), He.free_ok X G (c.fact 25 (f := .free "len") rfl), He.free_ok X G (c.fact 26 (f := .free "list") rfl), He.free_ok X G (c.fact 27 (f := .free "range") rfl), He.free_ok X G (c.fact 28 (f := .free "set") rfl), He.free_ok X G (c.fact 29 (f := .free "sorted") rfl), He.free_ok X G (c.fact 30 (f := .free "str") rfl), He.free_ok X G (c.fact 31 (f := .free "sum") rfl), He.free_ok X G (c.fact 32 (f := .free "tuple") rfl)⟩
  obtain ⟨fd, F⟩ := c.def_ 18 (d := e_law) rfl
  have bb := FunD.bindsA (ps := ["script"]) F fun _ _ _ _ _ _ us hl => match us, hl with | [_], _ => rfl
  have e := hfa.symm.trans (He.glo_ok X G (c.fact 18 (f := .glo "law") rfl))
  cases e
  refine ⟨fd, fun s v => bb s [v] rfl, fun base => ?_⟩
  have G_fallen := ok_fallen (P := P) (w := w) (base := base) R_fallen b 
  have G_holes_of := ok_holes_of (P := P) (w := w) (base := base) R_holes_of b 
  have G_sorted_by_needles := ok_sorted_by_needles (P := P) (w := w) (base := base) R_sorted_by_needles b G_holes_of
  have G_has_all := ok_has_all (P := P) (w := w) (base := base) R_has_all b 
  have G_has_none := ok_has_none (P := P) (w := w) (base := base) R_has_none b 
  have G_needled := ok_needled (P := P) (w := w) (base := base) R_needled b G_has_all G_has_none
  have G_needles_for := ok_needles_for (P := P) (w := w) (base := base) R_needles_for b 
  have G_two_of := ok_two_of (P := P) (w := w) (base := base) R_two_of b 
  have G_holes_in := ok_holes_in (P := P) (w := w) (base := base) R_holes_in b 
  have G_false_falls := ok_false_falls (P := P) (w := w) (base := base) R_false_falls b G_has_all G_holes_in
  have G__law_draws := ok__law_draws (P := P) (w := w) (base := base) R__law_draws b 
  have G__law_take := ok__law_take (P := P) (w := w) (base := base) R__law_take b 
  have G__law_cell := ok__law_cell (P := P) (w := w) (base := base) R__law_cell b G__law_take
  have G__law_same := ok__law_same (P := P) (w := w) (base := base) R__law_same b  8
  have G__law_cards := ok__law_cards (P := P) (w := w) (base := base) R__law_cards b G__law_take
  have G__law_are_cards_right := ok__law_are_cards_right (P := P) (w := w) (base := base) R__law_are_cards_right b G__law_same G__law_take G_fallen G_needled
  have G__law_is_sorted_right := ok__law_is_sorted_right (P := P) (w := w) (base := base) R__law_is_sorted_right b G__law_same G_sorted_by_needles
  have G__law_is_false_right := ok__law_is_false_right (P := P) (w := w) (base := base) R__law_is_false_right b G__law_same G_false_falls
  exact ok_law (P := P) (w := w) (base := base) F b G__law_are_cards_right G__law_cards G__law_cell G__law_draws G__law_is_false_right G__law_is_sorted_right G__law_same G__law_take G_fallen G_false_falls G_needled G_needles_for G_sorted_by_needles G_two_of
end G62
open PySem PySem.W PySem.Calls PyProof.Rows
theorem PySem.Challenge.cw_leadstrue_k62_cards_and_needles_holds : PySem.Challenge.rw_leadstrue_k62_cards_and_needles.Holds := by
  w_on; o_law
  refine HandSHeadRun.head_any (r := OpenLaw.row PySem.Challenge.rw_leadstrue_k62_cards_and_needles) (q := view (OpenLaw.row PySem.Challenge.rw_leadstrue_k62_cards_and_needles).prog [20]) (H := G62.hk) (ob := G62.ob) (M := 1500) (loose := ["fallen", "holes_of", "sorted_by_needles", "has_all", "has_none", "needled", "needles_for", "two_of", "holes_in", "false_falls", "_law_draws", "_law_take", "_law_cell", "_law_same", "_law_cards", "_law_are_cards_right", "_law_is_sorted_right", "_law_is_false_right"]) (d := HandSHeadRun.topDef (OpenLaw.row PySem.Challenge.rw_leadstrue_k62_cards_and_needles).prog 20) (kwd := []) G62.ob_eq
    (by kernel_rfl) (fun s => by kernel_rfl) G62.run (by kernel_rfl) (by kernel_rfl) (by kernel_rfl) (by rfl) (by first | assumption | decide +kernel) (by decide +kernel) ⟨rfl, rfl, rfl, rfl, rfl, by decide +kernel⟩ ?hw ?hc
  case hw => w_witness2
  case hc =>
    refine L2.walk_ofE (l := PySem.Challenge.rw_leadstrue_k62_cards_and_needles) (n := 63) (k := 11) (x := "script") (CX := L2.CX0) rfl (by decide) (by kernel_rfl) ⟨rfl, by decide, by decide⟩ ?F (fun _ _ _ _ z => z)
    intro w mg fa h Y G hmg0
    obtain ⟨K, KX, c⟩ := Y
    have hmg : mg ("law" : PySem.Str) = some (.ref fa) := by
      have e : (HandSHeadRun.topDef (OpenLaw.row PySem.Challenge.rw_leadstrue_k62_cards_and_needles).prog 20).name = ("law" : PySem.Str) := by kernel_rfl
      rw [← e]
      exact hmg0
    obtain ⟨fd, hb, hF⟩ := G62.facts (P := (PySem.Challenge.rw_leadstrue_k62_cards_and_needles).prog) (w := w) KX G hmg c
    exact ⟨K, fd, VL.spD K 1 G62.f_law, KX, hb, fun H a ns hl _ hS => VL.law_end G62.law_true H a ns hl hS, fun base _ _ => hF base⟩

