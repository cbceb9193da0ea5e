import PyProof.Rows.All
import Wide.All
import OpenK.AllK
import Wide.FinOn
import HandS.ForMost
import HandS.Exc
import HandS.Flow
import HandS.IsInst
import HandS.More
import HandS.Style
import HandS.Text
import HandS.TryOnly
import HandS.WordsExc
import HandS.TupAny
import HandS.Deep
import HandS.Dict
import PyProof.FactsAll.dict_1
import PyProof.FactsAll.dict_2
import HandS.RaiseMore
import HandS.Iter
import HandS.Ends
import HandS.Defaults
import HandS.Head2
import HandS.HeadEnd
import HandS.HeadHook1
import HandS.HeadHook2
import HandS.Codes
import PySem.Challenge.RW_takeandhand_k20_deeds_known
set_option Elab.async false
set_option linter.all false
set_option maxRecDepth 100000
namespace DL
open PySem PySem.Spec PyProof.Rows L2

/-! ### deep data -/
inductive D where
  | non | bl (b : Bool) | int (i : Int) | str (x : Str)
  | lst (xs : List D) | tup (xs : List D)
  | dK (kvs : List (Key × D)) | dT (kvs : List (List Key × D))
  | obj (c : Str) (fs : List (Str × D))
  | scr (ns : List Int)

/-- what classes are: the class of a name stands at an address -/
structure Gx where
  K : PySem.W.Frag
  cls : Str → Addr → Prop

section
variable (G : Gx) (S : Hp)
mutual
def Rep : D → V → Prop
  | .non, v => v = .non
  | .bl b, v => v = .bl b
  | .int i, v => v = .int i
  | .str x, v => v = .str x
  | .lst ds, v => ∃ a vs, v = .ref a ∧ S a = some (.lst vs) ∧ RepL ds vs
  | .scr ns, v => ∃ a, v = .ref a ∧ SqL G.K S a (ns.map V.int)
  | .tup ds, v => ∃ a vs, v = .ref a ∧ SqT G.K S a vs ∧ RepL ds vs
  | .dK kvs, v => ∃ a ws, v = .ref a ∧ S a = some (.dK ws) ∧ RepK kvs ws
  | .dT kvs, v => ∃ a ws, v = .ref a ∧ S a = some (.dT ws) ∧ RepT kvs ws
  | .obj c fs, v => ∃ a C dx ws, v = .ref a ∧ S a = some (.ins C dx ws) ∧ S dx = some (.own a) ∧ G.cls c C ∧ RepF fs ws
def RepL : List D → List V → Prop
  | [], vs => vs = []
  | d :: ds, vs => ∃ v r, vs = v :: r ∧ Rep d v ∧ RepL ds r
def RepK : List (Key × D) → List (Key × V) → Prop
  | [], vs => vs = []
  | (k, d) :: ds, vs => ∃ v r, vs = (k, v) :: r ∧ Rep d v ∧ RepK ds r
def RepT : List (List Key × D) → List (List Key × V) → Prop
  | [], vs => vs = []
  | (k, d) :: ds, vs => ∃ v r, vs = (k, v) :: r ∧ Rep d v ∧ RepT ds r
def RepF : List (Str × D) → List (Str × V) → Prop
  | [], vs => vs = []
  | (k, d) :: ds, vs => ∃ v r, vs = (k, v) :: r ∧ Rep d v ∧ RepF ds r
end
end

def Sub (S H : Hp) : Prop := ∀ a o, S a = some o → H a = some o
theorem Sub.refl (S : Hp) : Sub S S := fun _ _ h => h
theorem Sub.trans {S H H' : Hp} (a : Sub S H) (b : Sub H H') : Sub S H' := fun c o h => b c o (a c o h)
theorem Sub.none {S H : Hp} (s : Sub S H) {a : Addr} (h : H a = none) : S a = none := by
  cases e : S a with
  | none => rfl
  | some o => rw [s a o e] at h; cases h
theorem Sub.sqL {K : PySem.W.Frag} {S H : Hp} (s : Sub S H) {a : Addr} {xs : List V} (h : SqL K S a xs) : SqL K H a xs := by
  rcases h with (h | ⟨o, h⟩) | h
  · exact .inl (.inl (s _ _ h))
  · exact .inl (.inr ⟨o, s _ _ h⟩)
  · exact .inr h
theorem Sub.sqT {K : PySem.W.Frag} {S H : Hp} (s : Sub S H) {a : Addr} {xs : List V} (h : SqT K S a xs) : SqT K H a xs := by
  rcases h with (h | ⟨o, h⟩) | h
  · exact .inl (.inl (s _ _ h))
  · exact .inl (.inr ⟨o, s _ _ h⟩)
  · exact .inr h

section
variable {G : Gx} {S S' : Hp}
mutual
theorem Rep.mono (s : Sub S S') : ∀ (d : D) (v : V), Rep G S d v → Rep G S' d v
  | .non, v, h => by simp only [Rep] at h ⊢; exact h
  | .bl b, v, h => by simp only [Rep] at h ⊢; exact h
  | .int i, v, h => by simp only [Rep] at h ⊢; exact h
  | .str x, v, h => by simp only [Rep] at h ⊢; exact h
  | .lst ds, v, h => by
    simp only [Rep] at h ⊢
    obtain ⟨a, vs, e, q, r⟩ := h
    exact ⟨a, vs, e, s _ _ q, RepL.mono s ds vs r⟩
  | .scr ns, v, h => by
    simp only [Rep] at h ⊢
    obtain ⟨a, e, q⟩ := h
    exact ⟨a, e, s.sqL q⟩
  | .tup ds, v, h => by
    simp only [Rep] at h ⊢
    obtain ⟨a, vs, e, q, r⟩ := h
    exact ⟨a, vs, e, s.sqT q, RepL.mono s ds vs r⟩
  | .dK kvs, v, h => by
    simp only [Rep] at h ⊢
    obtain ⟨a, ws, e, q, r⟩ := h
    exact ⟨a, ws, e, s _ _ q, RepK.mono s kvs ws r⟩
  | .dT kvs, v, h => by
    simp only [Rep] at h ⊢
    obtain ⟨a, ws, e, q, r⟩ := h
    exact ⟨a, ws, e, s _ _ q, RepT.mono s kvs ws r⟩
  | .obj c fs, v, h => by
    simp only [Rep] at h ⊢
    obtain ⟨a, C, dx, ws, e, q, q2, g, r⟩ := h
    exact ⟨a, C, dx, ws, e, s _ _ q, s _ _ q2, g, RepF.mono s fs ws r⟩
theorem RepL.mono (s : Sub S S') : ∀ (ds : List D) (vs : List V), RepL G S ds vs → RepL G S' ds vs
  | [], vs, h => by simp only [RepL] at h ⊢; exact h
  | d :: ds, vs, h => by
    simp only [RepL] at h ⊢
    obtain ⟨v, r, e, q, t⟩ := h
    exact ⟨v, r, e, Rep.mono s d v q, RepL.mono s ds r t⟩
theorem RepK.mono (s : Sub S S') : ∀ (ds : List (Key × D)) (vs : List (Key × V)), RepK G S ds vs → RepK G S' ds vs
  | [], vs, h => by simp only [RepK] at h ⊢; exact h
  | (k, d) :: ds, vs, h => by
    simp only [RepK] at h ⊢
    obtain ⟨v, r, e, q, t⟩ := h
    exact ⟨v, r, e, Rep.mono s d v q, RepK.mono s ds r t⟩
theorem RepT.mono (s : Sub S S') : ∀ (ds : List (List Key × D)) (vs : List (List Key × V)), RepT G S ds vs → RepT G S' ds vs
  | [], vs, h => by simp only [RepT] at h ⊢; exact h
  | (k, d) :: ds, vs, h => by
    simp only [RepT] at h ⊢
    obtain ⟨v, r, e, q, t⟩ := h
    exact ⟨v, r, e, Rep.mono s d v q, RepT.mono s ds r t⟩
theorem RepF.mono (s : Sub S S') : ∀ (ds : List (Str × D)) (vs : List (Str × V)), RepF G S ds vs → RepF G S' ds vs
  | [], vs, h => by simp only [RepF] at h ⊢; exact h
  | (k, d) :: ds, vs, h => by
    simp only [RepF] at h ⊢
    obtain ⟨v, r, e, q, t⟩ := h
    exact ⟨v, r, e, Rep.mono s d v q, RepF.mono s ds r t⟩
end
theorem RepL.len : ∀ {ds : List D} {vs : List V}, RepL G S ds vs → vs.length = ds.length
  | [], vs, h => by simp only [RepL] at h; rw [h]; rfl
  | d :: ds, vs, h => by
    simp only [RepL] at h
    obtain ⟨v, r, rfl, q, t⟩ := h
    simp [RepL.len t]
theorem RepL.nil : RepL G S [] [] := by simp only [RepL]
theorem RepL.cons {d v ds vs} (h : Rep G S d v) (t : RepL G S ds vs) : RepL G S (d :: ds) (v :: vs) := by
  simp only [RepL]; exact ⟨v, vs, rfl, h, t⟩
theorem RepL.append : ∀ {ds es : List D} {vs ws : List V}, RepL G S ds vs → RepL G S es ws → RepL G S (ds ++ es) (vs ++ ws)
  | [], es, vs, ws, h, t => by simp only [RepL] at h; subst h; exact t
  | d :: ds, es, vs, ws, h, t => by
    simp only [RepL] at h
    obtain ⟨v, r, rfl, q, h⟩ := h
    exact RepL.cons q (RepL.append h t)
theorem RepL.take : ∀ {ds : List D} {vs : List V} (n : Nat), RepL G S ds vs → RepL G S (ds.take n) (vs.take n)
  | ds, vs, 0, h => by simp; exact RepL.nil
  | [], vs, n + 1, h => by simp only [RepL] at h; subst h; exact RepL.nil
  | d :: ds, vs, n + 1, h => by
    simp only [RepL] at h
    obtain ⟨v, r, rfl, q, h⟩ := h
    exact RepL.cons q (RepL.take n h)
theorem RepL.drop : ∀ {ds : List D} {vs : List V} (n : Nat), RepL G S ds vs → RepL G S (ds.drop n) (vs.drop n)
  | ds, vs, 0, h => h
  | [], vs, n + 1, h => by simp only [RepL] at h; subst h; exact RepL.nil
  | d :: ds, vs, n + 1, h => by
    simp only [RepL] at h
    obtain ⟨v, r, rfl, q, h⟩ := h
    exact RepL.drop n h
theorem RepL.get : ∀ {ds : List D} {vs : List V} {i : Nat} {v : V}, RepL G S ds vs → vs[i]? = some v → ∃ d, ds[i]? = some d ∧ Rep G S d v
  | [], vs, i, v, h, e => by simp only [RepL] at h; subst h; simp at e
  | d :: ds, vs, 0, v, h, e => by
    simp only [RepL] at h
    obtain ⟨w, r, rfl, q, h⟩ := h
    simp at e; subst e
    exact ⟨d, rfl, q⟩
  | d :: ds, vs, i + 1, v, h, e => by
    simp only [RepL] at h
    obtain ⟨w, r, rfl, q, h⟩ := h
    exact RepL.get (i := i) h (by simpa using e)
theorem RepL.at : ∀ {ds : List D} {vs : List V} {i : Nat} {d : D}, RepL G S ds vs → ds[i]? = some d → ∃ v, vs[i]? = some v ∧ Rep G S d v
  | [], vs, i, v, h, e => by simp at e
  | d :: ds, vs, 0, v, h, e => by
    simp only [RepL] at h
    obtain ⟨w, r, rfl, q, h⟩ := h
    simp at e; subst e
    exact ⟨w, rfl, q⟩
  | d :: ds, vs, i + 1, v, h, e => by
    simp only [RepL] at h
    obtain ⟨w, r, rfl, q, h⟩ := h
    exact RepL.at (i := i) h (by simpa using e)
theorem RepL.reverse {ds : List D} : ∀ {vs : List V}, RepL G S ds vs → RepL G S ds.reverse vs.reverse := by
  induction ds with
  | nil => intro vs h; simp only [RepL] at h; subst h; exact RepL.nil
  | cons d ds ih =>
    intro vs h
    simp only [RepL] at h
    obtain ⟨v, r, rfl, q, h⟩ := h
    rw [List.reverse_cons, List.reverse_cons]
    exact RepL.append (ih h) (RepL.cons q RepL.nil)
end

/-! ### ownership: k levels of containers are owned, their addresses at F -/
def OwnL (P : D → V → List Addr → Prop) : List D → List V → List Addr → Prop
  | [], vs, F => vs = [] ∧ F = []
  | d :: ds, vs, F => ∃ v r F1 F2, vs = v :: r ∧ F = F1 ++ F2 ∧ P d v F1 ∧ OwnL P ds r F2
def OwnKV {κ : Type} (P : D → V → List Addr → Prop) : List (κ × D) → List (κ × V) → List Addr → Prop
  | [], vs, F => vs = [] ∧ F = []
  | (k, d) :: ds, vs, F => ∃ v r F1 F2, vs = (k, v) :: r ∧ F = F1 ++ F2 ∧ P d v F1 ∧ OwnKV P ds r F2
def Own (G : Gx) (S H : Hp) : Nat → D → V → List Addr → Prop
  | 0, d, v, F => F = [] ∧ Rep G S d v
  | k + 1, .lst ds, v, F => ∃ a vs F', v = .ref a ∧ F = a :: F' ∧ H a = some (.lst vs) ∧ OwnL (Own G S H k) ds vs F'
  | k + 1, .dK kvs, v, F => ∃ a ws F', v = .ref a ∧ F = a :: F' ∧ H a = some (.dK ws) ∧ OwnKV (Own G S H k) kvs ws F'
  | k + 1, .dT kvs, v, F => ∃ a ws F', v = .ref a ∧ F = a :: F' ∧ H a = some (.dT ws) ∧ OwnKV (Own G S H k) kvs ws F'
  | k + 1, .obj c fs, v, F => ∃ a C dx ws F', v = .ref a ∧ F = a :: dx :: F' ∧ H a = some (.ins C dx ws) ∧ H dx = some (.own a) ∧ G.cls c C ∧ OwnKV (Own G S H k) fs ws F'
  | _ + 1, d, v, F => F = [] ∧ Rep G S d v
/-- no containers that can be owned -/
def atom : D → Bool
  | .lst _ | .dK _ | .dT _ | .obj _ _ => false
  | _ => true

section
variable {G : Gx} {S S' H H' : Hp}
theorem OwnL.imp {P P' : D → V → List Addr → Prop} : ∀ {ds : List D} {vs : List V} {F : List Addr}, OwnL P ds vs F → (∀ d v F', (∀ a ∈ F', a ∈ F) → P d v F' → P' d v F') → OwnL P' ds vs F
  | [], vs, F, h, f => h
  | d :: ds, vs, F, ⟨v, r, F1, F2, e1, e2, p, t⟩, f =>
    ⟨v, r, F1, F2, e1, e2, f d v F1 (fun a h => by rw [e2]; exact List.mem_append_left _ h) p,
      OwnL.imp t fun d v F' h p => f d v F' (fun a z => by rw [e2]; exact List.mem_append_right _ (h a z)) p⟩
theorem OwnKV.imp {κ : Type} {P P' : D → V → List Addr → Prop} : ∀ {ds : List (κ × D)} {vs : List (κ × V)} {F : List Addr}, OwnKV P ds vs F → (∀ d v F', (∀ a ∈ F', a ∈ F) → P d v F' → P' d v F') → OwnKV P' ds vs F
  | [], vs, F, h, f => h
  | (k, d) :: ds, vs, F, ⟨v, r, F1, F2, e1, e2, p, t⟩, f =>
    ⟨v, r, F1, F2, e1, e2, f d v F1 (fun a h => by rw [e2]; exact List.mem_append_left _ h) p,
      OwnKV.imp t fun d v F' h p => f d v F' (fun a z => by rw [e2]; exact List.mem_append_right _ (h a z)) p⟩
theorem Own.mono (s : Sub S S') : ∀ (k : Nat) (d : D) (v : V) (F : List Addr), Own G S H k d v F → (∀ a ∈ F, H' a = H a) → Own G S' H' k d v F
  | 0, d, v, F, h, _ => ⟨h.1, Rep.mono s d v h.2⟩
  | k + 1, .lst ds, v, F, h, e => by
    obtain ⟨a, vs, F', rfl, rfl, q, r⟩ := h
    exact ⟨a, vs, F', rfl, rfl, by rw [e a (List.mem_cons_self)]; exact q,
      r.imp fun d v F2 hs p => Own.mono s k d v F2 p fun b hb => e b (List.mem_cons_of_mem _ (hs b hb))⟩
  | k + 1, .dK ds, v, F, h, e => by
    obtain ⟨a, vs, F', rfl, rfl, q, r⟩ := h
    exact ⟨a, vs, F', rfl, rfl, by rw [e a (List.mem_cons_self)]; exact q,
      r.imp fun d v F2 hs p => Own.mono s k d v F2 p fun b hb => e b (List.mem_cons_of_mem _ (hs b hb))⟩
  | k + 1, .dT ds, v, F, h, e => by
    obtain ⟨a, vs, F', rfl, rfl, q, r⟩ := h
    exact ⟨a, vs, F', rfl, rfl, by rw [e a (List.mem_cons_self)]; exact q,
      r.imp fun d v F2 hs p => Own.mono s k d v F2 p fun b hb => e b (List.mem_cons_of_mem _ (hs b hb))⟩
  | k + 1, .obj c ds, v, F, h, e => by
    obtain ⟨a, C, dx, vs, F', rfl, rfl, q, q2, g, r⟩ := h
    exact ⟨a, C, dx, vs, F', rfl, rfl, by rw [e a (List.mem_cons_self)]; exact q, by rw [e dx (by simp)]; exact q2, g,
      r.imp fun d v F2 hs p => Own.mono s k d v F2 p fun b hb => e b (List.mem_cons_of_mem _ (List.mem_cons_of_mem _ (hs b hb)))⟩
  | k + 1, .non, v, F, h, _ => ⟨h.1, Rep.mono s _ v h.2⟩
  | k + 1, .bl _, v, F, h, _ => ⟨h.1, Rep.mono s _ v h.2⟩
  | k + 1, .int _, v, F, h, _ => ⟨h.1, Rep.mono s _ v h.2⟩
  | k + 1, .str _, v, F, h, _ => ⟨h.1, Rep.mono s _ v h.2⟩
  | k + 1, .tup _, v, F, h, _ => ⟨h.1, Rep.mono s _ v h.2⟩
  | k + 1, .scr _, v, F, h, _ => ⟨h.1, Rep.mono s _ v h.2⟩
theorem Own.atom (k : Nat) {d : D} {v : V} {F : List Addr} (ha : atom d = true) : Own G S H k d v F ↔ (F = [] ∧ Rep G S d v) := by
  cases k with
  | zero => rfl
  | succ k => cases d <;> first | rfl | (exact absurd ha (by simp [DL.atom]))
theorem Own.shared {k : Nat} {d : D} {v : V} (ha : DL.atom d = true) (h : Rep G S d v) : Own G S H k d v [] := (Own.atom k ha).mpr ⟨rfl, h⟩
/-- what is owned stands -/
theorem OwnL.there {P : D → V → List Addr → Prop} (hp : ∀ d v F, P d v F → ∀ a ∈ F, ∃ o, H a = some o) : ∀ {ds : List D} {vs : List V} {F : List Addr}, OwnL P ds vs F → ∀ a ∈ F, ∃ o, H a = some o
  | [], vs, F, ⟨_, e⟩, a, h => by subst e; cases h
  | d :: ds, vs, F, ⟨v, r, F1, F2, e1, e2, p, t⟩, a, h => by
    subst e2
    rcases List.mem_append.mp h with h | h
    · exact hp _ _ _ p a h
    · exact OwnL.there hp t a h
theorem OwnKV.there {κ : Type} {P : D → V → List Addr → Prop} (hp : ∀ d v F, P d v F → ∀ a ∈ F, ∃ o, H a = some o) : ∀ {ds : List (κ × D)} {vs : List (κ × V)} {F : List Addr}, OwnKV P ds vs F → ∀ a ∈ F, ∃ o, H a = some o
  | [], vs, F, ⟨_, e⟩, a, h => by subst e; cases h
  | (k, d) :: ds, vs, F, ⟨v, r, F1, F2, e1, e2, p, t⟩, a, h => by
    subst e2
    rcases List.mem_append.mp h with h | h
    · exact hp _ _ _ p a h
    · exact OwnKV.there hp t a h
theorem Own.there : ∀ (k : Nat) (d : D) (v : V) (F : List Addr), Own G S H k d v F → ∀ a ∈ F, ∃ o, H a = some o
  | 0, d, v, F, h, a, ha => by rw [h.1] at ha; cases ha
  | k + 1, .lst ds, v, F, h, a, ha => by
    obtain ⟨b, vs, F', rfl, rfl, q, r⟩ := h
    rcases List.mem_cons.mp ha with rfl | ha
    · exact ⟨_, q⟩
    · exact r.there (Own.there k) a ha
  | k + 1, .dK ds, v, F, h, a, ha => by
    obtain ⟨b, vs, F', rfl, rfl, q, r⟩ := h
    rcases List.mem_cons.mp ha with rfl | ha
    · exact ⟨_, q⟩
    · exact r.there (Own.there k) a ha
  | k + 1, .dT ds, v, F, h, a, ha => by
    obtain ⟨b, vs, F', rfl, rfl, q, r⟩ := h
    rcases List.mem_cons.mp ha with rfl | ha
    · exact ⟨_, q⟩
    · exact r.there (Own.there k) a ha
  | k + 1, .obj c ds, v, F, h, a, ha => by
    obtain ⟨b, C, dx, vs, F', rfl, rfl, q, q2, g, r⟩ := h
    rcases List.mem_cons.mp ha with rfl | ha
    · exact ⟨_, q⟩
    · rcases List.mem_cons.mp ha with rfl | ha
      · exact ⟨_, q2⟩
      · exact r.there (Own.there k) a ha
  | k + 1, .non, v, F, h, a, ha => by rw [h.1] at ha; cases ha
  | k + 1, .bl _, v, F, h, a, ha => by rw [h.1] at ha; cases ha
  | k + 1, .int _, v, F, h, a, ha => by rw [h.1] at ha; cases ha
  | k + 1, .str _, v, F, h, a, ha => by rw [h.1] at ha; cases ha
  | k + 1, .tup _, v, F, h, a, ha => by rw [h.1] at ha; cases ha
  | k + 1, .scr _, v, F, h, a, ha => by rw [h.1] at ha; cases ha

/-- freezing: what is owned at F goes over to S -/
theorem OwnL.freeze (s : Sub S S') (k : Nat) (ih : ∀ (d : D) (v : V) (F : List Addr), Own G S H k d v F → (∀ a ∈ F, S' a = H a) → Rep G S' d v) :
    ∀ {ds : List D} {vs : List V} {F : List Addr}, OwnL (Own G S H k) ds vs F → (∀ a ∈ F, S' a = H a) → RepL G S' ds vs
  | [], vs, F, ⟨e, _⟩, _ => by subst e; exact RepL.nil
  | d :: ds, vs, F, ⟨v, r, F1, F2, e1, e2, p, t⟩, h => by
    subst e1 e2
    exact RepL.cons (ih d v F1 p fun a z => h a (List.mem_append_left _ z)) (OwnL.freeze s k ih t fun a z => h a (List.mem_append_right _ z))
theorem Own.freeze (s : Sub S S') : ∀ (k : Nat) (d : D) (v : V) (F : List Addr), Own G S H k d v F → (∀ a ∈ F, S' a = H a) → Rep G S' d v
  | 0, d, v, F, h, _ => Rep.mono s d v h.2
  | k + 1, .lst ds, v, F, h, e => by
    obtain ⟨a, vs, F', rfl, rfl, q, r⟩ := h
    simp only [Rep]
    exact ⟨a, vs, rfl, (by rw [e a List.mem_cons_self]; exact q), r.freeze s k (Own.freeze s k) fun b hb => e b (List.mem_cons_of_mem _ hb)⟩
  | k + 1, .dK ds, v, F, h, e => by
    obtain ⟨a, vs, F', rfl, rfl, q, r⟩ := h
    simp only [Rep]
    refine ⟨a, vs, rfl, (by rw [e a List.mem_cons_self]; exact q), ?_⟩
    have key : ∀ (ds : List (Key × D)) (vs : List (Key × V)) (F : List Addr), OwnKV (Own G S H k) ds vs F → (∀ a ∈ F, S' a = H a) → RepK G S' ds vs := by
      intro ds
      induction ds with
      | nil => intro vs F h _; simp only [RepK]; exact h.1
      | cons p ds ih =>
        obtain ⟨κ, d⟩ := p
        rintro vs F ⟨v, r, F1, F2, e1, e2, p, t⟩ h
        subst e1 e2
        simp only [RepK]
        exact ⟨v, r, rfl, Own.freeze s k d v F1 p fun a z => h a (List.mem_append_left _ z), ih r F2 t fun a z => h a (List.mem_append_right _ z)⟩
    exact key ds vs F' r fun b hb => e b (List.mem_cons_of_mem _ hb)
  | k + 1, .dT ds, v, F, h, e => by
    obtain ⟨a, vs, F', rfl, rfl, q, r⟩ := h
    simp only [Rep]
    refine ⟨a, vs, rfl, (by rw [e a List.mem_cons_self]; exact q), ?_⟩
    have key : ∀ (ds : List (List Key × D)) (vs : List (List Key × V)) (F : List Addr), OwnKV (Own G S H k) ds vs F → (∀ a ∈ F, S' a = H a) → RepT G S' ds vs := by
      intro ds
      induction ds with
      | nil => intro vs F h _; simp only [RepT]; exact h.1
      | cons p ds ih =>
        obtain ⟨κ, d⟩ := p
        rintro vs F ⟨v, r, F1, F2, e1, e2, p, t⟩ h
        subst e1 e2
        simp only [RepT]
        exact ⟨v, r, rfl, Own.freeze s k d v F1 p fun a z => h a (List.mem_append_left _ z), ih r F2 t fun a z => h a (List.mem_append_right _ z)⟩
    exact key ds vs F' r fun b hb => e b (List.mem_cons_of_mem _ hb)
  | k + 1, .obj c ds, v, F, h, e => by
    obtain ⟨a, C, dx, vs, F', rfl, rfl, q, q2, g, r⟩ := h
    simp only [Rep]
    refine ⟨a, C, dx, vs, rfl, (by rw [e a List.mem_cons_self]; exact q), (by rw [e dx (by simp)]; exact q2), g, ?_⟩
    have key : ∀ (ds : List (Str × D)) (vs : List (Str × V)) (F : List Addr), OwnKV (Own G S H k) ds vs F → (∀ a ∈ F, S' a = H a) → RepF G S' ds vs := by
      intro ds
      induction ds with
      | nil => intro vs F h _; simp only [RepF]; exact h.1
      | cons p ds ih =>
        obtain ⟨κ, d⟩ := p
        rintro vs F ⟨v, r, F1, F2, e1, e2, p, t⟩ h
        subst e1 e2
        simp only [RepF]
        exact ⟨v, r, rfl, Own.freeze s k d v F1 p fun a z => h a (List.mem_append_left _ z), ih r F2 t fun a z => h a (List.mem_append_right _ z)⟩
    exact key ds vs F' r fun b hb => e b (List.mem_cons_of_mem _ (List.mem_cons_of_mem _ hb))
  | k + 1, .non, v, F, h, _ => Rep.mono s _ v h.2
  | k + 1, .bl _, v, F, h, _ => Rep.mono s _ v h.2
  | k + 1, .int _, v, F, h, _ => Rep.mono s _ v h.2
  | k + 1, .str _, v, F, h, _ => Rep.mono s _ v h.2
  | k + 1, .tup _, v, F, h, _ => Rep.mono s _ v h.2
  | k + 1, .scr _, v, F, h, _ => Rep.mono s _ v h.2
end
end DL
namespace DL
open PySem PySem.Spec PyProof.Rows L2

abbrev Ent := V × D × Nat
def OwnE (G : Gx) (S H : Hp) : List Ent → List Addr → Prop
  | [], F => F = []
  | (v, d, k) :: r, F => ∃ F1 F2, F = F1 ++ F2 ∧ Own G S H k d v F1 ∧ OwnE G S H r F2
structure Sim (G : Gx) (S H : Hp) (E : List Ent) : Prop where
  sub : Sub S H
  own : ∃ F, OwnE G S H E F ∧ F.Nodup ∧ ∀ a ∈ F, S a = none

section
variable {G : Gx} {S S' H H' : Hp} {E E' : List Ent} {v w : V} {d e : D} {k j : Nat}
theorem OwnE.perm (p : E.Perm E') : ∀ F, OwnE G S H E F → ∃ F', F.Perm F' ∧ OwnE G S H E' F' := by
  induction p with
  | nil => intro F h; exact ⟨F, .refl _, h⟩
  | cons x p ih =>
    obtain ⟨v, d, k⟩ := x
    rintro F ⟨F1, F2, rfl, o, t⟩
    obtain ⟨F', p', t'⟩ := ih F2 t
    exact ⟨F1 ++ F', List.Perm.append_left F1 p', F1, F', rfl, o, t'⟩
  | swap x y l =>
    obtain ⟨v, d, k⟩ := x
    obtain ⟨w, e, j⟩ := y
    rintro F ⟨F1, F2, rfl, o, F3, F4, rfl, o', t⟩
    refine ⟨F3 ++ (F1 ++ F4), ?_, F3, F1 ++ F4, rfl, o', F1, F4, rfl, o, t⟩
    rw [← List.append_assoc, ← List.append_assoc]
    exact List.Perm.append_right F4 List.perm_append_comm
  | trans _ _ ih1 ih2 =>
    intro F h
    obtain ⟨F1, p1, h1⟩ := ih1 F h
    obtain ⟨F2, p2, h2⟩ := ih2 F1 h1
    exact ⟨F2, p1.trans p2, h2⟩
theorem Sim.perm (s : Sim G S H E) (p : E.Perm E') : Sim G S H E' := by
  obtain ⟨F, o, nd, fr⟩ := s.own
  obtain ⟨F', pf, o'⟩ := o.perm p
  exact ⟨s.sub, F', o', pf.nodup_iff.mp nd, fun a h => fr a (pf.mem_iff.mpr h)⟩
theorem Sim.tail {x : Ent} (s : Sim G S H (x :: E)) : Sim G S H E := by
  obtain ⟨v, d, k⟩ := x
  obtain ⟨F, ⟨F1, F2, rfl, o, t⟩, nd, fr⟩ := s.own
  exact ⟨s.sub, F2, t, (List.nodup_append.mp nd).2.1, fun a h => fr a (List.mem_append_right _ h)⟩
theorem Sim.left (s : Sim G S H (E ++ E')) : Sim G S H E' := by
  induction E with
  | nil => exact s
  | cons x E ih => exact ih (Sim.tail s)
theorem Sim.right (s : Sim G S H (E ++ E')) : Sim G S H E := Sim.left (s.perm List.perm_append_comm)
theorem Sim.head (s : Sim G S H ((v, d, k) :: E)) : ∃ F, Own G S H k d v F ∧ F.Nodup ∧ ∀ a ∈ F, S a = none := by
  obtain ⟨F, ⟨F1, F2, rfl, o, t⟩, nd, fr⟩ := s.own
  exact ⟨F1, o, (List.nodup_append.mp nd).1, fun a h => fr a (List.mem_append_left _ h)⟩
/-- a deep look at an entry -/
theorem Own.repH (s : Sub S H) {F : List Addr} (o : Own G S H k d v F) : Rep G H d v := Own.freeze s k d v F o fun _ _ => rfl
theorem Sim.rep (s : Sim G S H ((v, d, k) :: E)) : Rep G H d v := let ⟨_, o, _⟩ := s.head; o.repH s.sub
theorem Sim.rep0 (s : Sim G S H ((v, d, 0) :: E)) : Rep G S d v := let ⟨_, o, _⟩ := s.head; o.2
theorem Sim.repA (ha : atom d = true) (s : Sim G S H ((v, d, k) :: E)) : Rep G S d v := let ⟨_, o, _⟩ := s.head; ((Own.atom k ha).mp o).2
theorem Sim.mem {x : Ent} (s : Sim G S H E) (h : x ∈ E) : Rep G H x.2.1 x.1 := by
  obtain ⟨l1, l2, rfl⟩ := List.append_of_mem h
  obtain ⟨v, d, k⟩ := x
  exact Sim.rep (Sim.left (E := l1) s)
/-- entries over a heap that grew -/
theorem OwnE.mono (s : Sub S S') : ∀ {E : List Ent} {F : List Addr}, OwnE G S H E F → (∀ a ∈ F, H' a = H a) → OwnE G S' H' E F
  | [], F, h, _ => h
  | (v, d, k) :: r, F, ⟨F1, F2, e, o, t⟩, h => by
    subst e
    exact ⟨F1, F2, rfl, o.mono s k d v F1 fun a z => h a (List.mem_append_left _ z), OwnE.mono s t fun a z => h a (List.mem_append_right _ z)⟩
theorem OwnE.there : ∀ {E : List Ent} {F : List Addr}, OwnE G S H E F → ∀ a ∈ F, ∃ o, H a = some o
  | [], F, h, a, z => by cases h; cases z
  | (v, d, k) :: r, F, ⟨F1, F2, e, o, t⟩, a, z => by
    subst e
    rcases List.mem_append.mp z with z | z
    · exact o.there k d v F1 a z
    · exact OwnE.there t a z
/-- what grows: S to S', H to H' -/
structure Grow (S H S' H' : Hp) : Prop where
  s : Sub S S'
  h : Sub H H'
  sub : Sub S' H'
  new : ∀ a, S a = none → S' a ≠ none → H a = none
theorem Grow.refl (s : Sub S H) : Grow S H S H := ⟨.refl _, .refl _, s, fun a h n => absurd h n⟩
theorem Grow.trans {S2 H2 : Hp} (a : Grow S H S' H') (b : Grow S' H' S2 H2) : Grow S H S2 H2 :=
  ⟨a.s.trans b.s, a.h.trans b.h, b.sub, fun c h n => by
    by_cases z : S' c = none
    · exact a.h.none (b.new c z n)
    · exact a.new c h z⟩
theorem Sim.grow (s : Sim G S H E) (g : Grow S H S' H') : Sim G S' H' E := by
  obtain ⟨F, o, nd, fr⟩ := s.own
  have same : ∀ a ∈ F, H' a = H a := fun a h => by
    obtain ⟨u, e⟩ := o.there a h
    rw [e]; exact g.h a u e
  refine ⟨g.sub, F, o.mono g.s same, nd, fun a h => ?_⟩
  by_cases z : S' a = none
  · exact z
  · obtain ⟨u, e⟩ := o.there a h
    rw [g.new a (fr a h) z] at e
    cases e
/-- a new entry -/
theorem Sim.add (s : Sim G S H E) (g : Grow S H S' H') {F : List Addr} (o : Own G S' H' k d v F) (nd : F.Nodup) (hf : ∀ a ∈ F, H a = none) (hs : ∀ a ∈ F, S' a = none) : Sim G S' H' ((v, d, k) :: E) := by
  obtain ⟨F2, t, nd2, fr2⟩ := s.own
  have g2 := s.grow g
  have same : ∀ a ∈ F2, H' a = H a := fun a h => by
    obtain ⟨u, e⟩ := t.there a h
    rw [e]; exact g.h a u e
  refine ⟨g.sub, F ++ F2, ⟨F, F2, rfl, o, t.mono g.s same⟩, List.nodup_append.mpr ⟨nd, nd2, fun a ha b hb e => ?_⟩, fun a ha => ?_⟩
  · subst e
    obtain ⟨u, e⟩ := t.there a hb
    rw [hf a ha] at e; cases e
  · rcases List.mem_append.mp ha with h | h
    · exact hs a h
    · by_cases z : S' a = none
      · exact z
      · obtain ⟨u, e⟩ := t.there a h
        rw [g.new a (fr2 a h) z] at e
        cases e
/-- a value that owns nothing -/
theorem Sim.add0 (s : Sim G S H E) (r : Rep G S d v) (ha : k = 0 ∨ atom d = true) : Sim G S H ((v, d, k) :: E) := by
  refine s.add (.refl s.sub) (F := []) ?_ .nil (fun _ h => by cases h) (fun _ h => by cases h)
  rcases ha with rfl | ha
  · exact ⟨rfl, r⟩
  · exact Own.shared ha r
/-- some of what is owned goes over to S -/
def over (S H : Hp) (F : List Addr) : Hp := fun a => if a ∈ F then H a else S a
theorem over_sub (s : Sub S H) {F : List Addr} (fr : ∀ a ∈ F, S a = none) : Sub S (over S H F) ∧ Sub (over S H F) H ∧ (∀ a ∈ F, over S H F a = H a) ∧ ∀ a, a ∉ F → over S H F a = S a := by
  refine ⟨fun a o h => ?_, fun a o h => ?_, fun a h => ?_, fun a h => ?_⟩
  · unfold over
    by_cases z : a ∈ F
    · rw [fr a z] at h; cases h
    · rw [if_neg z]; exact h
  · unfold over at h
    by_cases z : a ∈ F
    · rw [if_pos z] at h; exact h
    · rw [if_neg z] at h; exact s _ _ h
  · unfold over; rw [if_pos h]
  · unfold over; rw [if_neg h]
theorem OwnL.lower (j : Nat) (ih : ∀ (d : D) (v : V) (F : List Addr), Own G S H k d v F → ∃ F1 F2, F.Perm (F1 ++ F2) ∧ ∀ S', Sub S S' → (∀ a ∈ F2, S' a = H a) → Own G S' H j d v F1) :
    ∀ (ds : List D) (vs : List V) (F : List Addr), OwnL (Own G S H k) ds vs F → ∃ F1 F2, F.Perm (F1 ++ F2) ∧ ∀ S', Sub S S' → (∀ a ∈ F2, S' a = H a) → OwnL (Own G S' H j) ds vs F1
  | [], vs, F, h => ⟨[], [], by rw [h.2]; exact .refl _, fun S' _ _ => ⟨h.1, rfl⟩⟩
  | d :: ds, vs, F, ⟨v, r, F1, F2, e1, e2, p, t⟩ => by
    obtain ⟨A1, A2, pa, ha⟩ := ih d v F1 p
    obtain ⟨B1, B2, pb, hb⟩ := OwnL.lower j ih ds r F2 t
    refine ⟨A1 ++ B1, A2 ++ B2, ?_, fun S' s' hs => ⟨v, r, A1, B1, e1, rfl, ha S' s' fun a z => hs a (List.mem_append_left _ z), hb S' s' fun a z => hs a (List.mem_append_right _ z)⟩⟩
    subst e2
    refine (List.Perm.append pa pb).trans ?_
    rw [List.append_assoc, List.append_assoc]
    refine List.Perm.append_left A1 ?_
    rw [← List.append_assoc, ← List.append_assoc]
    exact List.Perm.append_right B2 List.perm_append_comm
theorem OwnKV.lower {κ : Type} (j : Nat) (ih : ∀ (d : D) (v : V) (F : List Addr), Own G S H k d v F → ∃ F1 F2, F.Perm (F1 ++ F2) ∧ ∀ S', Sub S S' → (∀ a ∈ F2, S' a = H a) → Own G S' H j d v F1) :
    ∀ (ds : List (κ × D)) (vs : List (κ × V)) (F : List Addr), OwnKV (Own G S H k) ds vs F → ∃ F1 F2, F.Perm (F1 ++ F2) ∧ ∀ S', Sub S S' → (∀ a ∈ F2, S' a = H a) → OwnKV (Own G S' H j) ds vs F1
  | [], vs, F, h => ⟨[], [], by rw [h.2]; exact .refl _, fun S' _ _ => ⟨h.1, rfl⟩⟩
  | (κ, d) :: ds, vs, F, ⟨v, r, F1, F2, e1, e2, p, t⟩ => by
    obtain ⟨A1, A2, pa, ha⟩ := ih d v F1 p
    obtain ⟨B1, B2, pb, hb⟩ := OwnKV.lower j ih ds r F2 t
    refine ⟨A1 ++ B1, A2 ++ B2, ?_, fun S' s' hs => ⟨v, r, A1, B1, e1, rfl, ha S' s' fun a z => hs a (List.mem_append_left _ z), hb S' s' fun a z => hs a (List.mem_append_right _ z)⟩⟩
    subst e2
    refine (List.Perm.append pa pb).trans ?_
    rw [List.append_assoc, List.append_assoc]
    refine List.Perm.append_left A1 ?_
    rw [← List.append_assoc, ← List.append_assoc]
    exact List.Perm.append_right B2 List.perm_append_comm
theorem Own.lower : ∀ (j k : Nat) (hjk : j ≤ k) (d : D) (v : V) (F : List Addr), Own G S H k d v F → ∃ F1 F2, F.Perm (F1 ++ F2) ∧ ∀ S', Sub S S' → (∀ a ∈ F2, S' a = H a) → Own G S' H j d v F1
  | 0, k, _, d, v, F, h => ⟨[], F, .refl _, fun S' s' hs => ⟨rfl, Own.freeze s' k d v F h hs⟩⟩
  | j + 1, 0, hjk, d, v, F, h => absurd hjk (by omega)
  | j + 1, k + 1, hjk, .lst ds, v, F, h => by
    obtain ⟨a, vs, F', rfl, rfl, q, r⟩ := h
    obtain ⟨F1, F2, p, f⟩ := OwnL.lower j (Own.lower j k (by omega)) ds vs F' r
    exact ⟨a :: F1, F2, List.Perm.cons a p, fun S' s' hs => ⟨a, vs, F1, rfl, rfl, q, f S' s' hs⟩⟩
  | j + 1, k + 1, hjk, .dK ds, v, F, h => by
    obtain ⟨a, vs, F', rfl, rfl, q, r⟩ := h
    obtain ⟨F1, F2, p, f⟩ := OwnKV.lower j (Own.lower j k (by omega)) ds vs F' r
    exact ⟨a :: F1, F2, List.Perm.cons a p, fun S' s' hs => ⟨a, vs, F1, rfl, rfl, q, f S' s' hs⟩⟩
  | j + 1, k + 1, hjk, .dT ds, v, F, h => by
    obtain ⟨a, vs, F', rfl, rfl, q, r⟩ := h
    obtain ⟨F1, F2, p, f⟩ := OwnKV.lower j (Own.lower j k (by omega)) ds vs F' r
    exact ⟨a :: F1, F2, List.Perm.cons a p, fun S' s' hs => ⟨a, vs, F1, rfl, rfl, q, f S' s' hs⟩⟩
  | j + 1, k + 1, hjk, .obj c ds, v, F, h => by
    obtain ⟨a, C, dx, vs, F', rfl, rfl, q, q2, g, r⟩ := h
    obtain ⟨F1, F2, p, f⟩ := OwnKV.lower j (Own.lower j k (by omega)) ds vs F' r
    exact ⟨a :: dx :: F1, F2, List.Perm.cons a (List.Perm.cons dx p), fun S' s' hs => ⟨a, C, dx, vs, F1, rfl, rfl, q, q2, g, f S' s' hs⟩⟩
  | j + 1, k + 1, _, .non, v, F, h => ⟨[], [], by rw [h.1]; exact .refl _, fun S' s' _ => ⟨rfl, Rep.mono s' _ v h.2⟩⟩
  | j + 1, k + 1, _, .bl _, v, F, h => ⟨[], [], by rw [h.1]; exact .refl _, fun S' s' _ => ⟨rfl, Rep.mono s' _ v h.2⟩⟩
  | j + 1, k + 1, _, .int _, v, F, h => ⟨[], [], by rw [h.1]; exact .refl _, fun S' s' _ => ⟨rfl, Rep.mono s' _ v h.2⟩⟩
  | j + 1, k + 1, _, .str _, v, F, h => ⟨[], [], by rw [h.1]; exact .refl _, fun S' s' _ => ⟨rfl, Rep.mono s' _ v h.2⟩⟩
  | j + 1, k + 1, _, .scr _, v, F, h => ⟨[], [], by rw [h.1]; exact .refl _, fun S' s' _ => ⟨rfl, Rep.mono s' _ v h.2⟩⟩
  | j + 1, k + 1, _, .tup _, v, F, h => ⟨[], [], by rw [h.1]; exact .refl _, fun S' s' _ => ⟨rfl, Rep.mono s' _ v h.2⟩⟩
/-- an entry made less owned: S takes the rest -/
theorem Sim.lower (s : Sim G S H ((v, d, k) :: E)) (h : j ≤ k) : ∃ S', Sub S S' ∧ Sim G S' H ((v, d, j) :: E) := by
  obtain ⟨F, ⟨F1, F2, rfl, o, t⟩, nd, fr⟩ := s.own
  obtain ⟨A, B, p, f⟩ := Own.lower j k h d v F1 o
  have pm : ∀ a, a ∈ F1 ↔ a ∈ A ∨ a ∈ B := fun a => by rw [p.mem_iff, List.mem_append]
  have ndAB : (A ++ B).Nodup := p.nodup_iff.mp (List.nodup_append.mp nd).1
  obtain ⟨s1, s2, s3, s4⟩ := over_sub s.sub (F := B) fun a h => fr a (List.mem_append_left _ ((pm a).mpr (.inr h)))
  refine ⟨over S H B, s1, s2, A ++ F2, ⟨A, F2, rfl, f _ s1 s3, t.mono s1 fun _ _ => rfl⟩, ?_, fun a ha => ?_⟩
  · refine List.nodup_append.mpr ⟨(List.nodup_append.mp ndAB).1, (List.nodup_append.mp nd).2.1, fun a ha b hb => ?_⟩
    exact (List.nodup_append.mp nd).2.2 a ((pm a).mpr (.inl ha)) b hb
  · have nb : a ∉ B := fun hb => by
      rcases List.mem_append.mp ha with h | h
      · exact (List.nodup_append.mp ndAB).2.2 a h a hb rfl
      · exact (List.nodup_append.mp nd).2.2 a ((pm a).mpr (.inr hb)) a h rfl
    rw [s4 a nb]
    rcases List.mem_append.mp ha with h | h
    · exact fr a (List.mem_append_left _ ((pm a).mpr (.inl h)))
    · exact fr a (List.mem_append_right _ h)
end

/-! ### slots -/
abbrev Gm := List (Option (D × Nat))
def slots : Gm → L2.St → List Ent
  | some (d, k) :: g, some v :: s => (v, d, k) :: slots g s
  | some _ :: g, none :: s => slots g s
  | none :: g, _ :: s => slots g s
  | _, _ => []
def Cov : Gm → L2.St → Prop
  | [], [] => True
  | x :: g, y :: s => (x.isSome = true → y.isSome = true) ∧ Cov g s
  | _, _ => False
theorem Cov.len : ∀ {g : Gm} {s : L2.St}, Cov g s → g.length = s.length
  | [], [], _ => rfl
  | x :: g, y :: s, h => by simp [Cov.len h.2]
  | [], _ :: _, h => h.elim
  | _ :: _, [], h => h.elim
theorem slots_get : ∀ {g : Gm} {s : L2.St} {i : Nat} {d : D} {k : Nat}, Cov g s → g[i]? = some (some (d, k)) → ∃ v, s[i]? = some (some v) ∧ (slots g s).Perm ((v, d, k) :: slots (g.set i none) s)
  | [], _, i, d, k, _, h => by simp at h
  | x :: g, [], i, d, k, c, h => c.elim
  | x :: g, y :: s, 0, d, k, c, h => by
    simp at h
    subst h
    have hy := c.1 rfl
    cases y with
    | none => cases hy
    | some v => exact ⟨v, rfl, by simp [slots]⟩
  | x :: g, y :: s, i + 1, d, k, c, h => by
    obtain ⟨v, e, p⟩ := slots_get (i := i) c.2 (by simpa using h)
    refine ⟨v, by simpa using e, ?_⟩
    cases x with
    | none => cases y <;> simpa [slots] using p
    | some dk =>
      obtain ⟨d', k'⟩ := dk
      have hy := c.1 rfl
      cases y with
      | none => cases hy
      | some w =>
        simp only [slots, List.set_cons_succ]
        exact (List.Perm.cons _ p).trans (List.Perm.swap _ _ _)
theorem slots_none : ∀ {g : Gm} {s : L2.St} {i : Nat} (v : V), slots (g.set i none) (s.set i (some v)) = slots (g.set i none) s
  | [], _, i, v => by simp [slots]
  | x :: g, [], i, v => by simp
  | x :: g, y :: s, 0, v => by simp [slots]
  | x :: g, y :: s, i + 1, v => by
    have ih := slots_none (g := g) (s := s) (i := i) v
    cases x with
    | none => cases y <;> simpa [slots] using ih
    | some dk => obtain ⟨d, k⟩ := dk; cases y <;> simpa [slots] using ih
theorem Cov.set : ∀ {g : Gm} {s : L2.St} (i : Nat) (x : Option (D × Nat)) (v : V), Cov g s → Cov (g.set i x) (s.set i (some v))
  | [], [], i, x, v, _ => trivial
  | a :: g, b :: s, 0, x, v, h => ⟨fun _ => rfl, h.2⟩
  | a :: g, b :: s, i + 1, x, v, h => ⟨h.1, Cov.set i x v h.2⟩
  | [], _ :: _, _, _, _, h => h.elim
  | _ :: _, [], _, _, _, h => h.elim
theorem Cov.unset : ∀ {g : Gm} {s : L2.St} (i : Nat), Cov g s → Cov (g.set i none) s
  | [], [], i, _ => trivial
  | a :: g, b :: s, 0, h => ⟨fun z => by simp at z, h.2⟩
  | a :: g, b :: s, i + 1, h => ⟨h.1, Cov.unset i h.2⟩
  | [], _ :: _, _, h => h.elim
  | _ :: _, [], _, h => h.elim
/-- another entry of the same object -/
theorem Cov.put : ∀ {g : Gm} {s : L2.St} (i : Nat) (x : Option (D × Nat)) {v : V}, s[i]? = some (some v) → Cov g s → Cov (g.set i x) s
  | [], [], i, x, v, _, _ => trivial
  | a :: g, b :: s, 0, x, v, e, h => ⟨fun _ => by simp at e; subst e; rfl, h.2⟩
  | a :: g, b :: s, i + 1, x, v, e, h => ⟨h.1, Cov.put i x (by simpa using e) h.2⟩
  | [], _ :: _, _, _, _, _, h => h.elim
  | _ :: _, [], _, _, _, _, h => h.elim
theorem slots_put : ∀ {g : Gm} {s : L2.St} {i : Nat} {v : V} (d : D) (k : Nat), Cov g s → s[i]? = some (some v) → (slots (g.set i (some (d, k))) s).Perm ((v, d, k) :: slots (g.set i none) s)
  | [], s, i, v, d, k, c, h => by cases s with
    | nil => simp at h
    | cons _ _ => exact c.elim
  | x :: g, [], i, v, d, k, c, h => c.elim
  | x :: g, y :: s, 0, v, d, k, c, h => by
    simp at h
    subst h
    simp [slots]
  | x :: g, y :: s, i + 1, v, d, k, c, h => by
    have p := slots_put (i := i) d k c.2 (by simpa using h)
    cases x with
    | none => cases y <;> simpa [slots] using p
    | some dk =>
      obtain ⟨d', k'⟩ := dk
      have hy := c.1 rfl
      cases y with
      | none => cases hy
      | some w =>
        simp only [slots, List.set_cons_succ]
        exact (List.Perm.cons _ p).trans (List.Perm.swap _ _ _)
/-- a slot stored -/
theorem slots_set {g : Gm} {s : L2.St} {i : Nat} (v : V) (d : D) (k : Nat) (c : Cov g s) (hi : i < g.length) : (slots (g.set i (some (d, k))) (s.set i (some v))).Perm ((v, d, k) :: slots (g.set i none) s) := by
  have hs : i < s.length := by rw [← c.len]; exact hi
  have c2 := Cov.set i none v c
  have p := slots_put (g := g.set i none) (s := s.set i (some v)) (i := i) (v := v) d k c2 (by simp [hs])
  rw [List.set_set, List.set_set, slots_none] at p
  exact p
/-- forgetting a slot -/
theorem slots_sub : ∀ {g : Gm} {s : L2.St} (i : Nat), ∃ l, (slots g s).Perm (l ++ slots (g.set i none) s)
  | [], _, i => ⟨[], by simp⟩
  | x :: g, [], i => ⟨[], by cases x <;> simp [slots]⟩
  | x :: g, y :: s, 0 => by
    cases x with
    | none => exact ⟨[], by simp⟩
    | some dk =>
      obtain ⟨d, k⟩ := dk
      cases y with
      | none => exact ⟨[], by simp [slots]⟩
      | some v => exact ⟨[(v, d, k)], by simp [slots]⟩
  | x :: g, y :: s, i + 1 => by
    obtain ⟨l, p⟩ := slots_sub (g := g) (s := s) i
    cases x with
    | none => exact ⟨l, by cases y <;> simpa [slots] using p⟩
    | some dk =>
      obtain ⟨d, k⟩ := dk
      cases y with
      | none => exact ⟨l, by simpa [slots] using p⟩
      | some v => exact ⟨l, by
          simp only [slots, List.set_cons_succ]
          exact (List.Perm.cons _ p).trans (List.perm_middle.symm)⟩
end DL
namespace DL
open PySem PySem.Spec PyProof.Rows L2

/-! ### the small language -/
inductive Cst where | non | bl (b : Bool) | int (i : Int) | str (x : Str) | tup (xs : List Str)
  deriving DecidableEq
def Cst.d : Cst → D
  | .non => .non | .bl b => .bl b | .int i => .int i | .str x => .str x | .tup xs => .tup (xs.map .str)
inductive Op where
  | add | sub | mul | mod | fdiv | pow | neg
  | eq | ne | lt | le | gt | ge | inn | notin | isN | notN
  | len | abs | int | list | tuple | repr | all | any | isin (tys : List String)
  | idx | sl (lo hi : Bool)
  | tup | dict
  | join | split | get1 | get2 | items | ss | dictP | mapz
  deriving DecidableEq
inductive Tg where | name (i : Nat) | tup (ts : List Tg)
inductive ItK where | seq | range | enum | zip | items | rev
  deriving DecidableEq
inductive Mt where | append | insert | extend | clear | pop
  deriving DecidableEq
mutual
inductive IE where
  | var (i : Nat) (mv : Bool)
  | bor (i : Nat)
  | loan (i : Nat)
  | cst (c : Cst)
  | glob (x : Str) (c : Cst)
  | op (o : Op) (es : List IE)
  | int1 (e : IE)
  | str1 (e : IE)
  | lst (es : List IE)
  | and (es : List IE) | or (es : List IE) | not (e : IE)
  | ite (c a b : IE)
  | chain (o o' : Op) (a b c : IE)
  | call (f : FunIR) (es : List IE)
  | comp (own : List Nat) (tg : Tg) (it : ItK) (es : List IE) (ifs : List IE) (elt : IE)
inductive IS where
  | asg (i : Nat) (e : IE)
  | asgs (ts : List Nat) (es : List IE)
  | asgT (tg : Tg) (e : IE)
  | aug (i : Nat) (o : Op) (e : IE)
  | setI (i : Nat) (ix e : IE)
  | augI (i : Nat) (ix : IE) (o : Op) (e : IE)
  | mut (i : Nat) (m : Mt) (es : List IE)
  | ex (e : IE)
  | ite (c : IE) (a b : List IS)
  | loop (tg : Tg) (it : ItK) (es : List IE) (body : List IS)
  | while (c : IE) (body : List IS)
  | ret (e : IE)
  | retN
  | pass | brk | cont
inductive FunIR where
  | mk (name : Str) (ps N : List Str) (body : List IS)
end
def FunIR.name : FunIR → Str | .mk n _ _ _ => n
def FunIR.ps : FunIR → List Str | .mk _ p _ _ => p
def FunIR.N : FunIR → List Str | .mk _ _ n _ => n
def FunIR.body : FunIR → List IS | .mk _ _ _ b => b

/-! ### operations on data -/
abbrev lim : Nat := 16777216
mutual
def eqD : D → D → Option Bool
  | .non, .non => some true
  | .bl a, .bl b => some (a == b)
  | .bl a, .int b => some ((if a then 1 else 0) == b)
  | .int a, .bl b => some (a == (if b then 1 else 0))
  | .int a, .int b => some (a == b)
  | .str a, .str b => some (a == b)
  | .lst xs, .lst ys => if xs.length = ys.length then eqZ xs ys else some false
  | .tup xs, .tup ys => match eqZ xs ys with
    | some r => some (r && (xs.length == ys.length))
    | none => none
  | .non, .bl _ | .non, .int _ | .non, .str _ | .non, .lst _ | .non, .tup _ => some false
  | .bl _, .non | .bl _, .str _ | .bl _, .lst _ | .bl _, .tup _ => some false
  | .int _, .non | .int _, .str _ | .int _, .lst _ | .int _, .tup _ => some false
  | .str _, .non | .str _, .bl _ | .str _, .int _ | .str _, .lst _ | .str _, .tup _ => some false
  | .lst _, .non | .lst _, .bl _ | .lst _, .int _ | .lst _, .str _ | .lst _, .tup _ => some false
  | .tup _, .non | .tup _, .bl _ | .tup _, .int _ | .tup _, .str _ | .tup _, .lst _ => some false
  | .non, .dK _ | .bl _, .dK _ | .int _, .dK _ | .str _, .dK _ | .lst _, .dK _ | .tup _, .dK _ => some false
  | .dK _, .non | .dK _, .bl _ | .dK _, .int _ | .dK _, .str _ | .dK _, .lst _ | .dK _, .tup _ => some false
  | .non, .dT _ | .bl _, .dT _ | .int _, .dT _ | .str _, .dT _ | .lst _, .dT _ | .tup _, .dT _ => some false
  | .dT _, .non | .dT _, .bl _ | .dT _, .int _ | .dT _, .str _ | .dT _, .lst _ | .dT _, .tup _ => some false
  | _, _ => none
def eqZ : List D → List D → Option Bool
  | x :: xs, y :: ys => match eqD x y with
    | some a => match eqZ xs ys with
      | some b => some (a && b)
      | none => none
    | none => none
  | _, _ => some true
end
mutual
def hgt : D → Nat
  | .lst xs => hgtL xs + 1
  | .tup xs => hgtL xs + 1
  | .dK kvs => hgtK kvs + 1
  | .dT kvs => hgtT kvs + 2
  | .obj _ _ => 1
  | .non | .bl _ | .int _ | .str _ | .scr _ => 0
def hgtL : List D → Nat
  | [] => 0
  | x :: xs => max (hgt x) (hgtL xs)
def hgtK : List (Key × D) → Nat
  | [] => 0
  | (_, x) :: xs => max (hgt x) (hgtK xs)
def hgtT : List (List Key × D) → Nat
  | [] => 0
  | (_, x) :: xs => max (hgt x) (hgtT xs)
end
def keyD : Key → D
  | .inl i => .int i
  | .inr x => .str x
mutual
/-- data for repr -/
def toPy : D → Option PyData
  | .non => some .none
  | .bl b => some (.bool b)
  | .int i => some (.int i)
  | .str x => some (.str x)
  | .lst xs => match toPyL xs with
    | some r => some (.list r)
    | none => none
  | .tup xs => match toPyL xs with
    | some r => some (.tuple r)
    | none => none
  | .dK kvs => match toPyK kvs with
    | some r => some (.dict r)
    | none => none
  | .dT _ => none
  | .obj _ _ => none
  | .scr _ => none
def toPyL : List D → Option (List PyData)
  | [] => some []
  | x :: xs => match toPy x with
    | some a => match toPyL xs with
      | some r => some (a :: r)
      | none => none
    | none => none
def toPyK : List (Key × D) → Option (List (PyData × PyData))
  | [] => some []
  | (k, x) :: xs => match toPy x with
    | some a => match toPyK xs with
      | some r => some (((match k with | .inl i => PyData.int i | .inr s => PyData.str s), a) :: r)
      | none => none
    | none => none
end
/-- items that equal x -/
def anyD (x : D) : List D → Option Bool
  | [] => some false
  | y :: ys => match eqD y x with
    | some a => match anyD x ys with
      | some b => some (a || b)
      | none => none
    | none => none
def truth : D → Option Bool
  | .non => some false
  | .bl b => some b
  | .int i => some (i != 0)
  | .str x => if x.length ≤ lim then some ((x.length : Int) != 0) else none
  | .lst xs => some (!xs.isEmpty)
  | .tup xs => some (!xs.isEmpty)
  | .dK kvs => some (!kvs.isEmpty)
  | _ => none
def tyD : D → Option String
  | .non => some "NoneType" | .bl _ => some "bool" | .int _ => some "int" | .str _ => some "str"
  | .lst _ => some "list" | .tup _ => some "tuple" | .dK _ => some "dict" | .dT _ => some "dict"
  | .obj _ _ => none
  | .scr _ => some "list"
def isTy (t T : String) : Bool := t == T || (t == "bool" && T == "int")
def boolsD : List D → Option (List Bool)
  | [] => some []
  | .bl b :: r => (boolsD r).map (b :: ·)
  | _ => none
def strsD : List D → Option (List Str)
  | [] => some []
  | .str b :: r => (strsD r).map (b :: ·)
  | _ => none
def cutG {α : Type} (xs : List α) (lo hi : Option Int) : List α := (xs.drop (HT.sIx xs.length 0 lo)).take (HT.sIx xs.length xs.length hi - HT.sIx xs.length 0 lo)
def keyOf : D → Option Key
  | .int i => some (.inl i)
  | .str x => some (.inr x)
  | _ => none
/-- look up a key -/
def lookG {κ α : Type} [DecidableEq κ] (kvs : List (κ × α)) (k : κ) : Option α := (kvs.find? fun kv => decide (kv.1 = k)).map (·.2)
def putG {κ α : Type} [DecidableEq κ] (kvs : List (κ × α)) (k : κ) (v : α) : List (κ × α) :=
  if (kvs.any fun kv => decide (kv.1 = k)) = true then kvs.map (fun kv => if kv.1 = k then (kv.1, v) else kv) else kvs ++ [(k, v)]
/-- a written dict: its keys and values in turn -/
def dictOfD : List D → List (Key × D) → Option (List (Key × D))
  | [], acc => some acc
  | k :: v :: r, acc => match keyOf k with
    | some κ => dictOfD r (putG acc κ v)
    | none => none
  | _, _ => none
def optI : Bool → List D → Option (Option Int × List D)
  | false, r => some (none, r)
  | true, .int i :: r => some (some i, r)
  | true, _ => none
def inStr (a b : Str) : Bool := !(Builtin.Str.occurrences b a 0 b.length 1).isEmpty
def cmpI : Op → Int → Int → Option Bool
  | .lt, a, b => some (decide (a < b))
  | .le, a, b => some (decide (a ≤ b))
  | .gt, a, b => some (decide (b < a))
  | .ge, a, b => some (decide (b ≤ a))
  | _, _, _ => none
def opAdd : List D → Option (D × Nat)
  | [.int a, .int b] => some (.int (a + b), 0)
  | [.str a, .str b] => if a.length + b.length ≤ lim then some (.str (a ++ b), 0) else none
  | [.lst a, .lst b] => if a.length + b.length ≤ lim then some (.lst (a ++ b), 1) else none
  | [.tup a, .tup b] => if a.length + b.length ≤ lim then some (.tup (a ++ b), 0) else none
  | _ => none
def opSub : List D → Option (D × Nat)
  | [.int a, .int b] => some (.int (a - b), 0)
  | _ => none
def opMul : List D → Option (D × Nat)
  | [.int a, .int b] => if (-18446744073709551616 < a ∧ a < 18446744073709551616) ∨ (-18446744073709551616 < b ∧ b < 18446744073709551616) then some (.int (a * b), 0) else none
  | [.lst a, .int k] => if a.length * k.toNat ≤ lim ∧ -9223372036854775808 ≤ k ∧ k < 9223372036854775808 then some (.lst (List.replicate k.toNat a).flatten, 1) else none
  | [.str x, .int k] => if x.length * k.toNat ≤ lim ∧ 0 ≤ k ∧ k ≤ 1000000 then some (.str ⟨((List.replicate k.toNat x.cps.toList).flatten).toArray⟩, 0) else none
  | _ => none
def opMod : List D → Option (D × Nat)
  | [.int a, .int b] => if 0 < b then some (.int (a % b), 0) else none
  | _ => none
def opFdiv : List D → Option (D × Nat)
  | [.int a, .int b] => if 0 < b ∧ b < 1073741824 then some (.int (a / b), 0) else none
  | _ => none
def opPow : List D → Option (D × Nat)
  | [.int a, .int b] => if 0 ≤ b ∧ b ≤ 1000000 ∧ a.natAbs < 18446744073709551616 then some (.int (a ^ b.toNat), 0) else none
  | _ => none
def opNeg : List D → Option (D × Nat)
  | [.int a] => some (.int (-a), 0)
  | _ => none
def opEq : List D → Option (D × Nat)
  | [a, b] => if hgt a ≤ 64 then (eqD a b).map fun r => (.bl r, 0) else none
  | _ => none
def opNe : List D → Option (D × Nat)
  | [a, b] => if hgt a ≤ 64 then (eqD a b).map fun r => (.bl (!r), 0) else none
  | _ => none
def opLt : List D → Option (D × Nat)
  | [.int a, .int b] => some (.bl (decide (a < b)), 0)
  | _ => none
def opLe : List D → Option (D × Nat)
  | [.int a, .int b] => some (.bl (decide (a ≤ b)), 0)
  | _ => none
def opGt : List D → Option (D × Nat)
  | [.int a, .int b] => some (.bl (decide (b < a)), 0)
  | _ => none
def opGe : List D → Option (D × Nat)
  | [.int a, .int b] => some (.bl (decide (b ≤ a)), 0)
  | _ => none
def opInn : List D → Option (D × Nat)
  | [x, .lst ys] => if hgtL ys ≤ 64 then (anyD x ys).map fun r => (.bl r, 0) else none
  | [x, .tup ys] => if hgtL ys ≤ 64 then (anyD x ys).map fun r => (.bl r, 0) else none
  | [.str a, .str b] => some (.bl (inStr a b), 0)
  | [k, .dK kvs] => (keyOf k).map fun κ => (.bl (lookG kvs κ).isSome, 0)
  | _ => none
def opNotin : List D → Option (D × Nat)
  | [x, .lst ys] => if hgtL ys ≤ 64 then (anyD x ys).map fun r => (.bl (!r), 0) else none
  | [x, .tup ys] => if hgtL ys ≤ 64 then (anyD x ys).map fun r => (.bl (!r), 0) else none
  | [.str a, .str b] => some (.bl (!inStr a b), 0)
  | [k, .dK kvs] => (keyOf k).map fun κ => (.bl (!(lookG kvs κ).isSome), 0)
  | _ => none
def isNonD : D → Bool
  | .non => true
  | _ => false
def opIsN : List D → Option (D × Nat)
  | [a] => some (.bl (isNonD a), 0)
  | _ => none
def opNotN : List D → Option (D × Nat)
  | [a] => some (.bl (!isNonD a), 0)
  | _ => none
def opLen : List D → Option (D × Nat)
  | [.lst xs] => some (.int xs.length, 0)
  | [.tup xs] => some (.int xs.length, 0)
  | [.str x] => if x.length ≤ lim then some (.int x.length, 0) else none
  | _ => none
def opAbs : List D → Option (D × Nat)
  | [.int a] => some (.int (if a < 0 then -a else a), 0)
  | _ => none
def opInt : List D → Option (D × Nat)
  | [.int a] => some (.int a, 0)
  | [.bl b] => some (.int (if b then 1 else 0), 0)
  | _ => none
def opList : List D → Option (D × Nat)
  | [.lst xs] => some (.lst xs, 1)
  | [.tup xs] => some (.lst xs, 1)
  | _ => none
def opTuple : List D → Option (D × Nat)
  | [.lst xs] => some (.tup xs, 0)
  | [.tup xs] => some (.tup xs, 0)
  | _ => none
def opRepr : List D → Option (D × Nat)
  | [d] => match toPy d with
    | some p => if p.showable = true ∧ p.shown.length ≤ lim ∧ p.depth ≤ 64 then some (.str p.shown, 0) else none
    | none => none
  | _ => none
def opAll : List D → Option (D × Nat)
  | [.lst xs] => (boolsD xs).map fun bs => (.bl (bs.all id), 0)
  | _ => none
def opAny : List D → Option (D × Nat)
  | [.lst xs] => (boolsD xs).map fun bs => (.bl (bs.any id), 0)
  | _ => none
def opIsin (tys : List String) : List D → Option (D × Nat)
  | [d] => (tyD d).map fun t => (.bl (tys.any (isTy t)), 0)
  | _ => none
def opIdx : List D → Option (D × Nat)
  | [.lst xs, .int i] => (atI xs i).map fun d => (d, 0)
  | [.tup xs, .int i] => (atI xs i).map fun d => (d, 0)
  | [.str x, .int i] => if x.length ≤ lim then (atI x.cps.toList i).map fun c => (.str ⟨#[c]⟩, 0) else none
  | [.dK kvs, k] => match keyOf k with
    | some κ => (lookG kvs κ).map fun d => (d, 0)
    | none => none
  | _ => none
def sl1D (l h : Option Int) : D → Option (D × Nat)
  | .lst xs => some (.lst (cutG xs l h), 1)
  | .scr ns => some (.lst ((cutG ns l h).map .int), 1)
  | .tup xs => some (.tup (cutG xs l h), 0)
  | .str x => if x.length ≤ lim then some (.str (cutS x l h), 0) else none
  | _ => none
def opSl (lo hi : Bool) : List D → Option (D × Nat)
  | d :: r => match optI lo r with
    | some (l, r') => match optI hi r' with
      | some (h, []) => sl1D l h d
      | _ => none
    | none => none
  | [] => none
def opTupl (ds : List D) : Option (D × Nat) := if ds.length ≤ lim then some (.tup ds, 0) else none
def opDict (ds : List D) : Option (D × Nat) := if ds.length ≤ 30 ∧ ds.length % 2 = 0 then (dictOfD ds []).map fun kvs => (.dK kvs, 1) else none
def opJoin : List D → Option (D × Nat)
  | [.str a, .lst xs] => (strsD xs).bind fun ys => if (ys.map (·.length)).sum + ys.length * a.length ≤ 16777216 then some (.str (Txt.join a ys), 0) else none
  | [.str a, .tup xs] => (strsD xs).bind fun ys => if (ys.map (·.length)).sum + ys.length * a.length ≤ 16777216 then some (.str (Txt.join a ys), 0) else none
  | _ => none
def opSplit : List D → Option (D × Nat)
  | [.str a, .str b] => if b.length ≠ 0 ∧ a.length + 2 ≤ lim then some (.lst ((Txt.split a b).map .str), 1) else none
  | _ => none
def opD : Op → List D → Option (D × Nat)
  | .add, ds => opAdd ds
  | .sub, ds => opSub ds
  | .mul, ds => opMul ds
  | .mod, ds => opMod ds
  | .fdiv, ds => opFdiv ds
  | .pow, ds => opPow ds
  | .neg, ds => opNeg ds
  | .eq, ds => opEq ds
  | .ne, ds => opNe ds
  | .lt, ds => opLt ds
  | .le, ds => opLe ds
  | .gt, ds => opGt ds
  | .ge, ds => opGe ds
  | .inn, ds => opInn ds
  | .notin, ds => opNotin ds
  | .isN, ds => opIsN ds
  | .notN, ds => opNotN ds
  | .len, ds => opLen ds
  | .abs, ds => opAbs ds
  | .int, ds => opInt ds
  | .list, ds => opList ds
  | .tuple, ds => opTuple ds
  | .repr, ds => opRepr ds
  | .all, ds => opAll ds
  | .any, ds => opAny ds
  | .isin tys, ds => opIsin tys ds
  | .idx, ds => opIdx ds
  | .sl lo hi, ds => opSl lo hi ds
  | .tup, ds => opTupl ds
  | .dict, ds => opDict ds
  | .join, ds => opJoin ds
  | .split, ds => opSplit ds
  | _, _ => none
/-- an operation that keeps its operands -/
def Op.st : Op → Bool
  | .tup | .dict => true
  | _ => false

/-! ### running -/
abbrev DK := D × Nat
abbrev Exc := Str × List (Str × D)
abbrev XD := Exc → Gm → Prop
inductive OR where | v (d : D) (k : Nat) | b (i : Nat) | l (i : Nat)
structure DE where
  nx : Gm → Prop
  rt : DK → Gm → Prop
  bk : Gm → Prop
  ct : Gm → Prop
  ex : XD
def der1 (st : Bool) (Γ : Gm) : OR → Option D
  | .v d _ => some d
  | .b i => match Γ.getD i none with
    | some (d, k) => if atom d || decide (k ≤ (if st then 0 else 1)) then some d else none
    | none => none
  | .l _ => none
def der (st : Bool) (Γ : Gm) : List OR → Option (List D)
  | [] => some []
  | r :: rs => match der1 st Γ r with
    | some d => match der st Γ rs with
      | some ds => some (d :: ds)
      | none => none
    | none => none
def cap (d : D) (k : Nat) : Nat := if atom d then 9 else k
def minK : List OR → Nat
  | [] => 9
  | .v d k :: rs => min (cap d k) (minK rs)
  | _ :: _ => 0
def valsD : List OR → Option (List D)
  | [] => some []
  | .v d _ :: rs => (valsD rs).map (d :: ·)
  | _ :: _ => none
def valsK : List OR → Option (List DK)
  | [] => some []
  | .v d k :: rs => (valsK rs).map ((d, k) :: ·)
  | _ :: _ => none
/-- the arguments of a call: what is lent leaves its slot -/
def takeArgs : Gm → List OR → Option (List DK × Gm)
  | Γ, [] => some ([], Γ)
  | Γ, .v d k :: rs => match takeArgs Γ rs with
    | some (as, Γ') => some ((d, k) :: as, Γ')
    | none => none
  | Γ, .l i :: rs => match Γ.getD i none with
    | some (d, k) => match takeArgs (Γ.set i none) rs with
      | some (as, Γ') => some ((d, k) :: as, Γ')
      | none => none
    | none => none
  | _, .b _ :: _ => none
/-- .. and comes back -/
def giveBack : List OR → List (Option DK) → Gm → Gm
  | .l i :: rs, f :: fs, Γ => giveBack rs fs (Γ.set i f)
  | _ :: rs, _ :: fs, Γ => giveBack rs fs Γ
  | _, _, Γ => Γ
def wipeA (own : List Nat) : Nat → Gm → Gm
  | _, [] => []
  | j, x :: g => (if own.contains j = true then none else x) :: wipeA own (j + 1) g
def wipeG (Γ : Gm) (own : List Nat) : Gm := wipeA own 0 Γ
def backA (own : List Nat) : Nat → Gm → Gm → Gm
  | j, x :: g, y :: g' => (if own.contains j = true then x else y) :: backA own (j + 1) g g'
  | _, _, _ => []
def backG (Γ Γ' : Gm) (own : List Nat) : Gm := backA own 0 Γ Γ'
mutual
def setTg : Tg → DK → Gm → Option Gm
  | .name i, r, Γ => some (Γ.set i (some r))
  | .tup ts, r, Γ => match r.1 with
    | .tup ds => if ts.length = ds.length then setTgs ts ds Γ else none
    | _ => none
def setTgs : List Tg → List D → Gm → Option Gm
  | [], [], Γ => some Γ
  | t :: ts, d :: ds, Γ => match setTg t (d, 0) Γ with
    | some Γ' => setTgs ts ds Γ'
    | none => none
  | _, _, _ => none
end
def compL (step : D → Gm → (Option DK → Gm → Prop) → Prop) : List D → Gm → List D → (DK → Gm → Prop) → Prop
  | [], Γ, acc, Q => Q (.lst acc, 1) Γ
  | d :: ds, Γ, acc, Q => step d Γ fun r Γ' => match r with
    | none => compL step ds Γ' acc Q
    | some e => compL step ds Γ' (acc ++ [e.1]) Q
def forL (step : D → Gm → DE → Prop) : List D → Gm → DE → Prop
  | [], Γ, K => K.nx Γ
  | d :: ds, Γ, K => step d Γ { K with nx := fun Γ' => forL step ds Γ' K, ct := fun Γ' => forL step ds Γ' K, bk := K.nx }
def whileL (c : Gm → (Bool → Gm → Prop) → XD → Prop) (body : Gm → DE → Prop) : Nat → Gm → DE → Prop
  | 0, _, _ => False
  | n + 1, Γ, K => c Γ (fun b Γ' => if b = true then body Γ' { K with nx := fun Γ2 => whileL c body n Γ2 K, ct := fun Γ2 => whileL c body n Γ2 K, bk := K.nx } else K.nx Γ') K.ex
def rangeD (lo : Int) (n : Nat) : List D := (List.range n).map fun (i : Nat) => D.int (lo + (i : Int))
/-- what a loop walks: the items (frozen) -/
def itD : ItK → List OR → Option (List D)
  | .seq, [.v (.lst xs) _] => some xs
  | .seq, [.v (.tup xs) _] => some xs
  | .seq, [.v (.str x) _] => some (x.cps.toList.map fun c => .str ⟨#[c]⟩)
  | .range, [.v (.int n) _] => if n ≤ lim ∧ -(lim : Int) ≤ n then some (rangeD 0 n.toNat) else none
  | .range, [.v (.int a) _, .v (.int b) _] => if -(lim : Int) ≤ a ∧ a ≤ lim ∧ b ≤ lim ∧ -(lim : Int) ≤ b then some (rangeD a (b - a).toNat) else none
  | _, _ => none
def mutD : Mt → DK → List DK → Option DK
  | .append, (.lst xs, _ + 1), [(d, _)] => if xs.length < lim then some (.lst (xs ++ [d]), 1) else none
  | .insert, (.lst xs, _ + 1), [(.int i, _), (d, _)] => if xs.length < lim ∧ 0 ≤ i ∧ i < 9223372036854775808 then some (.lst (xs.take i.toNat ++ [d] ++ xs.drop i.toNat), 1) else none
  | _, _, _ => none
def setD : DK → D → DK → Option DK
  | (.lst xs, _ + 1), .int i, (d, _) => (ixN xs.length i).map fun n => (.lst (xs.set n d), 1)
  | _, _, _ => none
def isLst : Option DK → Bool
  | some (.lst _, _) => true
  | _ => false
def asgAll : List Nat → List OR → Gm → Option Gm
  | [], [], Γ => some Γ
  | t :: ts, .v d k :: rs, Γ => asgAll ts rs (Γ.set t (some (d, k)))
  | _, _, _ => none
mutual
/-- the slots that a target stores -/
def tgIx : Tg → List Nat
  | .name i => [i]
  | .tup ts => tgIxs ts
def tgIxs : List Tg → List Nat
  | [] => []
  | t :: ts => tgIx t ++ tgIxs ts
end
mutual
def asgn : IS → List Nat
  | .asg i _ => [i]
  | .asgs ts _ => ts
  | .asgT tg _ => tgIx tg
  | .aug i _ _ => [i]
  | .ite _ a b => asgns a ++ asgns b
  | .loop tg _ _ body => tgIx tg ++ asgns body
  | .while _ body => asgns body
  | _ => []
def asgns : List IS → List Nat
  | [] => []
  | s :: r => asgn s ++ asgns r
end
def fins (body : List IS) (n : Nat) (Γ : Gm) : List (Option DK) := (List.range n).map fun i => if (asgns body).contains i then none else Γ.getD i none
/-- in a test the answer is a truth -/
def finQ (t : Bool) (Q : DK → Gm → Prop) : DK → Gm → Prop := match t with
  | true => fun r Γ => match truth r.1 with
    | some b => Q (.bl b, 0) Γ
    | none => False
  | false => Q
def asB (Q : Bool → Gm → Prop) : DK → Gm → Prop := fun r Γ => match r.1 with
  | .bl b => Q b Γ
  | _ => False
mutual
/-- t: as a test -/
def ev : IE → Bool → Gm → (DK → Gm → Prop) → XD → Prop
  | .var i mv, t, Γ, Q, _ => match Γ.getD i none with
    | some (d, k) => if mv = true then finQ t Q (d, k) (Γ.set i none) else finQ t Q (d, 0) (Γ.set i (some (d, 0)))
    | none => False
  | .cst c, t, Γ, Q, _ => finQ t Q (c.d, 0) Γ
  | .glob _ c, t, Γ, Q, _ => finQ t Q (c.d, 0) Γ
  | .op o es, t, Γ, Q, X => evL es Γ (fun rs Γ' => match der o.st Γ' rs with
    | some ds => match opD o ds with
      | some r => finQ t Q r Γ'
      | none => False
    | none => False) X
  | .int1 e, t, Γ, Q, X => ev e false Γ (fun r Γ' => match r.1 with
    | .int i => finQ t Q (.int i, 0) Γ'
    | _ => False) X
  | .str1 e, t, Γ, Q, X => ev e false Γ (fun r Γ' => match r.1 with
    | .str i => finQ t Q (.str i, 0) Γ'
    | _ => False) X
  | .lst es, t, Γ, Q, X => evL es Γ (fun rs Γ' => match valsD rs with
    | some ds => if ds.length ≤ lim then finQ t Q (.lst ds, 1) Γ' else False
    | none => False) X
  | .and es, t, Γ, Q, X => evAnd es t Γ Q X
  | .or es, t, Γ, Q, X => evOr es t Γ Q X
  | .not e, t, Γ, Q, X => ev e t Γ (fun r Γ' => match truth r.1 with
    | some b => Q (.bl (!b), 0) Γ'
    | none => False) X
  | .ite c a b, t, Γ, Q, X => ev c true Γ (asB fun s Γ' => if s = true then ev a t Γ' Q X else ev b t Γ' Q X) X
  | .chain o o' a b c, t, Γ, Q, X => ev a false Γ (fun r1 Γ1 => ev b false Γ1 (fun r2 Γ2 => match r1.1, r2.1 with
    | .int x, .int y => match cmpI o x y with
      | some true => ev c false Γ2 (fun r3 Γ3 => match r3.1 with
        | .int z => match cmpI o' y z with
          | some k => finQ t Q (.bl k, 0) Γ3
          | none => False
        | _ => False) X
      | some false => finQ t Q (.bl false, 0) Γ2
      | none => False
    | _, _ => False) X) X
  | .call f es, t, Γ, Q, X => evL es Γ (fun rs Γ1 => match takeArgs Γ1 rs with
    | some (as, Γ2) => semF f as (fun r fs => finQ t Q r (giveBack rs fs Γ2)) (fun x fs => X x (giveBack rs fs Γ2))
    | none => False) X
  | .comp own tg it es ifs elt, t, Γ, Q, X => evL es Γ (fun rs Γ1 => match itD it rs with
    | some ds => ds.length ≤ lim ∧ compL (fun d Γ2 K => match setTg tg (d, 0) (wipeG Γ2 own) with
        | some Γ3 => evIfs ifs Γ3 (fun b Γ4 => if b = true then ev elt false Γ4 (fun r Γ5 => K (some r) Γ5) (fun _ _ => False) else K none Γ4)
        | none => False) ds (wipeG Γ1 own) [] (fun r Γ' => finQ t Q r (backG Γ1 Γ' own))
    | none => False) X
  | .bor _, _, _, _, _ => False
  | .loan _, _, _, _, _ => False
def evL : List IE → Gm → (List OR → Gm → Prop) → XD → Prop
  | [], Γ, Q, _ => Q [] Γ
  | .bor i :: es, Γ, Q, X => match Γ.getD i none with
    | some _ => evL es Γ (fun rs Γ' => Q (.b i :: rs) Γ') X
    | none => False
  | .loan i :: es, Γ, Q, X => match Γ.getD i none with
    | some _ => evL es Γ (fun rs Γ' => Q (.l i :: rs) Γ') X
    | none => False
  | e :: es, Γ, Q, X => ev e false Γ (fun r Γ' => evL es Γ' (fun rs Γ2 => Q (.v r.1 r.2 :: rs) Γ2) X) X
def evAnd : List IE → Bool → Gm → (DK → Gm → Prop) → XD → Prop
  | [], _, _, _, _ => False
  | [e], t, Γ, Q, X => ev e t Γ Q X
  | e :: es, t, Γ, Q, X => ev e t Γ (fun r Γ' => match truth r.1 with
    | some true => evAnd es t Γ' Q X
    | some false => Q r Γ'
    | none => False) X
def evOr : List IE → Bool → Gm → (DK → Gm → Prop) → XD → Prop
  | [], _, _, _, _ => False
  | [e], t, Γ, Q, X => ev e t Γ Q X
  | e :: es, t, Γ, Q, X => ev e t Γ (fun r Γ' => match truth r.1 with
    | some true => Q r Γ'
    | some false => evOr es t Γ' Q X
    | none => False) X
/-- a comprehension's tests -/
def evIfs : List IE → Gm → (Bool → Gm → Prop) → Prop
  | [], Γ, Q => Q true Γ
  | e :: es, Γ, Q => ev e true Γ (asB fun b Γ' => if b = true then evIfs es Γ' Q else Q false Γ') (fun _ _ => False)
def xs : IS → Gm → DE → Prop
  | .asg i e, Γ, K => ev e false Γ (fun r Γ' => K.nx (Γ'.set i (some r))) K.ex
  | .asgs ts es, Γ, K => evL es Γ (fun rs Γ' => match asgAll ts rs Γ' with
    | some Γ2 => K.nx Γ2
    | none => False) K.ex
  | .asgT tg e, Γ, K => ev e false Γ (fun r Γ' => match setTg tg (r.1, 0) Γ' with
    | some Γ2 => K.nx Γ2
    | none => False) K.ex
  | .aug i o e, Γ, K => ev e false Γ (fun r Γ' => match Γ.getD i none, r.1 with
    | some (.int a, _), .int b => match opD o [.int a, .int b] with
      | some z => K.nx (Γ'.set i (some z))
      | none => False
    | _, _ => False) K.ex
  | .setI i ix e, Γ, K => ev e false Γ (fun r Γ1 => isLst (Γ1.getD i none) = true ∧ ev ix false Γ1 (fun n Γ2 => match Γ2.getD i none with
    | some x => match setD x n.1 r with
      | some y => K.nx (Γ2.set i (some y))
      | none => False
    | none => False) K.ex) K.ex
  | .augI i ix o e, Γ, K => isLst (Γ.getD i none) = true ∧ ev ix false Γ (fun n Γ1 => match Γ1.getD i none, n.1 with
    | some (.lst xs, 1), .int j => match atI xs j with
      | some (.int a) => ev e false Γ1 (fun r Γ2 => match r.1, Γ2.getD i none with
        | .int b, some (.lst ys, 1) => match opD o [.int a, .int b] with
          | some (z, _) => match setD (.lst ys, 1) (.int j) (z, 0) with
            | some y => K.nx (Γ2.set i (some y))
            | none => False
          | none => False
        | _, _ => False) K.ex
      | _ => False
    | _, _ => False) K.ex
  | .mut i m es, Γ, K => isLst (Γ.getD i none) = true ∧ evL es Γ (fun rs Γ' => match Γ'.getD i none, valsK rs with
    | some x, some as => match mutD m x as with
      | some y => K.nx (Γ'.set i (some y))
      | none => False
    | _, _ => False) K.ex
  | .ex e, Γ, K => ev e false Γ (fun _ Γ' => K.nx Γ') K.ex
  | .ite c a b, Γ, K => ev c true Γ (asB fun s Γ' => if s = true then xss a Γ' K else xss b Γ' K) K.ex
  | .loop tg it es body, Γ, K => evL es Γ (fun rs Γ1 => match itD it rs with
    | some ds => forL (fun d Γ2 K2 => match setTg tg (d, 0) Γ2 with
        | some Γ3 => xss body Γ3 K2
        | none => False) ds Γ1 K
    | none => False) K.ex
  | .while c body, Γ, K => ∃ n, whileL (fun Γ' Q X => ev c true Γ' (asB Q) X) (fun Γ' K' => xss body Γ' K') n Γ K
  | .ret e, Γ, K => ev e false Γ K.rt K.ex
  | .retN, Γ, K => K.rt (.non, 0) Γ
  | .pass, Γ, K => K.nx Γ
  | .brk, Γ, K => K.bk Γ
  | .cont, Γ, K => K.ct Γ
def xss : List IS → Gm → DE → Prop
  | [], Γ, K => K.nx Γ
  | s :: r, Γ, K => xs s Γ { K with nx := fun Γ' => xss r Γ' K }
def semF : FunIR → List DK → (DK → List (Option DK) → Prop) → (Exc → List (Option DK) → Prop) → Prop
  | .mk _ ps N body, as, Q, X => as.length = ps.length ∧ xss body (as.map some ++ List.replicate (N.length - ps.length) none)
    { nx := fun Γ => Q (.non, 0) (fins body ps.length Γ), rt := fun r Γ => Q r (fins body ps.length Γ), bk := fun _ => False, ct := fun _ => False, ex := fun x Γ => X x (fins body ps.length Γ) }
termination_by structural x1 => x1
end
end DL
namespace DL
open PySem PySem.Spec PyProof.Rows L2
abbrev St := L2.St

theorem PE.imp {X : Cx} {e : Expr} {t t' : TE} (h : PE X e t) (f : ∀ σ H Q, t' σ H Q → t σ H Q) : PE X e t' := ⟨fun pins s σ H Q I q => h.run pins s σ H Q I (f σ H Q q)⟩
theorem PT.imp {X : Cx} {e : Expr} {t t' : TT} (h : PT X e t) (f : ∀ σ H Q, t' σ H Q → t σ H Q) : PT X e t' := ⟨fun pins s σ H Q I q => h.run pins s σ H Q I (f σ H Q q)⟩
theorem PS.imp {X : Cx} {e : Stmt} {t t' : TS} (h : PS X e t) (f : ∀ K σ H, t' K σ H → t K σ H) : PS X e t' := ⟨fun pins s σ H D I q => h.run pins s σ H D I (f D σ H q)⟩
theorem PSs.imp {X : Cx} {e : List Stmt} {t t' : TS} (h : PSs X e t) (f : ∀ K σ H, t' K σ H → t K σ H) : PSs X e t' := ⟨fun pins s σ H D I q => h.run pins s σ H D I (f D σ H q)⟩

/-! ### readings -/
/-- an exception: its class, its own fields -/
def ExcR (G : Gx) (S H : Hp) (x : Exc) (cls : Value) (dx : Option Addr) : Prop :=
  ∃ C, cls = .ref C ∧ G.cls x.1 C ∧ (x.2 = [] ∨ ∃ a ws, dx = some a ∧ H a = some (.xd ws) ∧ RepF G S x.2 ws)
abbrev FE := Gm → (DK → Gm → Prop) → XD → Prop
/-- the wish about exceptions, from a frame -/
def XW (G : Gx) (W : WX) (fr : List Ent) (σ : St) (Xd : XD) : Prop :=
  ∀ x cls dx S' H' Γ', Cov Γ' σ → Sim G S' H' (fr ++ slots Γ' σ) → ExcR G S' H' x cls dx → Xd x Γ' → W cls dx σ H'
def tE (G : Gx) (W : WX) (f : FE) : TE := fun σ H Q =>
  ∃ (fr : List Ent) (Γ : Gm) (S : Hp) (Qd : DK → Gm → Prop) (Xd : XD), Cov Γ σ ∧ Sim G S H (fr ++ slots Γ σ) ∧ f Γ Qd Xd ∧
    (∀ v S' H' Γ' d k, Cov Γ' σ → Sim G S' H' ((v, d, k) :: (fr ++ slots Γ' σ)) → Qd (d, k) Γ' → Q v H') ∧ XW G W fr σ Xd
def tT (G : Gx) (W : WX) (f : FE) : TT := fun σ H Q =>
  ∃ (fr : List Ent) (Γ : Gm) (S : Hp) (Qd : DK → Gm → Prop) (Xd : XD), Cov Γ σ ∧ Sim G S H (fr ++ slots Γ σ) ∧ f Γ Qd Xd ∧
    (∀ b S' H' Γ', Cov Γ' σ → Sim G S' H' (fr ++ slots Γ' σ) → Qd (.bl b, 0) Γ' → Q b H') ∧ XW G W fr σ Xd
theorem XW.tail {G : Gx} {W : WX} {fr : List Ent} {σ : St} {Xd : XD} (h : XW G W fr σ Xd) (e : Ent) : XW G W (e :: fr) σ Xd :=
  fun x cls dx S' H' Γ' c s r q => h x cls dx S' H' Γ' c s.tail r q
theorem XW.left {G : Gx} {W : WX} {fr : List Ent} {σ : St} {Xd : XD} (h : XW G W fr σ Xd) (T : List Ent) : XW G W (T ++ fr) σ Xd :=
  fun x cls dx S' H' Γ' c s r q => h x cls dx S' H' Γ' c (Sim.left (E := T) (by simpa using s)) r q
/-- operands -/
def tO (G : Gx) (W : WX) : IE → TE
  | .bor i => tVar i
  | .loan i => tVar i
  | e => tE G W (ev e false)
def tL (G : Gx) (W : WX) : List IE → TA
  | [] => tNil
  | e :: es => tCons (tO G W e) (tL G W es)
inductive OpdR (σ : St) : List OR → List V → List Ent → Prop
  | nil : OpdR σ [] [] []
  | v {d k rs v vs T} : OpdR σ rs vs T → OpdR σ (.v d k :: rs) (v :: vs) ((v, d, k) :: T)
  | b {i rs v vs T} : σ[i]? = some (some v) → OpdR σ rs vs T → OpdR σ (.b i :: rs) (v :: vs) T
  | l {i rs v vs T} : σ[i]? = some (some v) → OpdR σ rs vs T → OpdR σ (.l i :: rs) (v :: vs) T
theorem Cov.at {Γ : Gm} {σ : St} {i : Nat} {d : D} {k : Nat} (c : Cov Γ σ) (h : Γ.getD i none = some (d, k)) : ∃ v, σ[i]? = some (some v) := by
  have e : Γ[i]? = some (some (d, k)) := by
    rw [List.getD_eq_getElem?_getD] at h
    cases q : Γ[i]? with
    | none => rw [q] at h; cases h
    | some x => rw [q] at h; simp at h; rw [h]
  obtain ⟨v, ev, _⟩ := slots_get c e
  exact ⟨v, ev⟩
theorem getD_some {Γ : Gm} {i : Nat} {r : D × Nat} (h : Γ.getD i none = some r) : Γ[i]? = some (some r) := by
  rw [List.getD_eq_getElem?_getD] at h
  cases q : Γ[i]? with
  | none => rw [q] at h; cases h
  | some x => rw [q] at h; simp at h; rw [h]

section
variable {G : Gx} {W : WX}
theorem run_L : ∀ (es : List IE) (σ : St) (H : Hp) (Q : List V → Hp → Prop) (fr : List Ent) (Γ : Gm) (S : Hp) (Qd : List OR → Gm → Prop) (Xd : XD),
    Cov Γ σ → Sim G S H (fr ++ slots Γ σ) → evL es Γ Qd Xd →
    (∀ vs S' H' Γ' rs T, Cov Γ' σ → Sim G S' H' (T ++ (fr ++ slots Γ' σ)) → OpdR σ rs vs T → Qd rs Γ' → Q vs H') → XW G W fr σ Xd → tL G W es σ H Q
  | [], σ, H, Q, fr, Γ, S, Qd, Xd, c, s, h, post, hx => post [] S H Γ [] [] c s .nil h
  | e :: es, σ, H, Q, fr, Γ, S, Qd, Xd, c, s, h, post, hx => by
    have plain : (∀ Qd Xd, evL (e :: es) Γ Qd Xd → ev e false Γ (fun r Γ' => evL es Γ' (fun rs Γ2 => Qd (.v r.1 r.2 :: rs) Γ2) Xd) Xd) → tO G W e = tE G W (ev e false) → tL G W (e :: es) σ H Q := fun hev ht => by
      show tO G W e σ H fun x H1 => tL G W es σ H1 fun xs H2 => Q (x :: xs) H2
      rw [ht]
      refine ⟨fr, Γ, S, _, Xd, c, s, hev _ _ h, fun v S' H' Γ' d k c' s' q => ?_, hx⟩
      refine run_L es σ H' _ ((v, d, k) :: fr) Γ' S' _ Xd c' s' q (fun vs S2 H2 Γ2 rs T c2 s2 o q2 => ?_) (hx.tail _)
      exact post (v :: vs) S2 H2 Γ2 (.v d k :: rs) ((v, d, k) :: T) c2 (s2.perm List.perm_middle) (.v o) q2
    have borrow : ∀ i, (∀ Qd Xd, evL (e :: es) Γ Qd Xd → ∃ r, Γ.getD i none = some r ∧ (evL es Γ (fun rs Γ' => Qd (.b i :: rs) Γ') Xd ∨ evL es Γ (fun rs Γ' => Qd (.l i :: rs) Γ') Xd)) → tO G W e = tVar i → tL G W (e :: es) σ H Q := fun i hev ht => by
      show tO G W e σ H fun x H1 => tL G W es σ H1 fun xs H2 => Q (x :: xs) H2
      rw [ht]
      obtain ⟨⟨d, k⟩, hr, hb⟩ := hev _ _ h
      obtain ⟨v, hv⟩ := c.at hr
      refine ⟨v, hv, ?_⟩
      rcases hb with hb | hb
      · exact run_L es σ H _ fr Γ S _ Xd c s hb (fun vs S2 H2 Γ2 rs T c2 s2 o q2 => post (v :: vs) S2 H2 Γ2 (.b i :: rs) T c2 s2 (.b hv o) q2) hx
      · exact run_L es σ H _ fr Γ S _ Xd c s hb (fun vs S2 H2 Γ2 rs T c2 s2 o q2 => post (v :: vs) S2 H2 Γ2 (.l i :: rs) T c2 s2 (.l hv o) q2) hx
    cases e with
    | bor i =>
      refine borrow i (fun Qd Xd h => ?_) rfl
      simp only [evL] at h
      cases q : Γ.getD i none with
      | none => rw [q] at h; exact h.elim
      | some r => rw [q] at h; exact ⟨r, rfl, .inl h⟩
    | loan i =>
      refine borrow i (fun Qd Xd h => ?_) rfl
      simp only [evL] at h
      cases q : Γ.getD i none with
      | none => rw [q] at h; exact h.elim
      | some r => rw [q] at h; exact ⟨r, rfl, .inr h⟩
    | _ => exact plain (fun _ _ h => h) rfl

/-! ### operands at hand -/
/-- the top level stands in H, what is below in S -/
def Rep1 (G : Gx) (S H : Hp) : D → V → Prop
  | .lst ds, v => ∃ a vs, v = .ref a ∧ H a = some (.lst vs) ∧ RepL G S ds vs
  | .dK kvs, v => ∃ a ws, v = .ref a ∧ H a = some (.dK ws) ∧ RepK G S kvs ws
  | .dT kvs, v => ∃ a ws, v = .ref a ∧ H a = some (.dT ws) ∧ RepT G S kvs ws
  | .obj c fs, v => ∃ a C dx ws, v = .ref a ∧ H a = some (.ins C dx ws) ∧ H dx = some (.own a) ∧ G.cls c C ∧ RepF G S fs ws
  | d, v => Rep G S d v
theorem Rep.one {S H : Hp} (s : Sub S H) {d : D} {v : V} (h : Rep G S d v) : Rep1 G S H d v := by
  cases d <;> first
    | exact h
    | (simp only [Rep] at h
       first
        | (obtain ⟨a, vs, e, q, r⟩ := h; exact ⟨a, vs, e, s _ _ q, r⟩)
        | (obtain ⟨a, C, dx, ws, e, q, q2, g, r⟩ := h; exact ⟨a, C, dx, ws, e, s _ _ q, s _ _ q2, g, r⟩))
theorem OwnL.rep0 {S H : Hp} : ∀ {ds : List D} {vs : List V} {F : List Addr}, OwnL (Own G S H 0) ds vs F → RepL G S ds vs
  | [], vs, F, h => by rw [h.1]; exact RepL.nil
  | d :: ds, vs, F, ⟨v, r, F1, F2, e1, e2, p, t⟩ => by rw [e1]; exact RepL.cons p.2 t.rep0
theorem OwnKV.repK {S H : Hp} : ∀ {ds : List (Key × D)} {vs : List (Key × V)} {F : List Addr}, OwnKV (Own G S H 0) ds vs F → RepK G S ds vs
  | [], vs, F, h => by simp only [RepK]; exact h.1
  | (k, d) :: ds, vs, F, ⟨v, r, F1, F2, e1, e2, p, t⟩ => by simp only [RepK]; exact ⟨v, r, e1, p.2, t.repK⟩
theorem OwnKV.repT {S H : Hp} : ∀ {ds : List (List Key × D)} {vs : List (List Key × V)} {F : List Addr}, OwnKV (Own G S H 0) ds vs F → RepT G S ds vs
  | [], vs, F, h => by simp only [RepT]; exact h.1
  | (k, d) :: ds, vs, F, ⟨v, r, F1, F2, e1, e2, p, t⟩ => by simp only [RepT]; exact ⟨v, r, e1, p.2, t.repT⟩
theorem OwnKV.repF {S H : Hp} : ∀ {ds : List (Str × D)} {vs : List (Str × V)} {F : List Addr}, OwnKV (Own G S H 0) ds vs F → RepF G S ds vs
  | [], vs, F, h => by simp only [RepF]; exact h.1
  | (k, d) :: ds, vs, F, ⟨v, r, F1, F2, e1, e2, p, t⟩ => by simp only [RepF]; exact ⟨v, r, e1, p.2, t.repF⟩
theorem Own.one {S H : Hp} (s : Sub S H) {k : Nat} {d : D} {v : V} {F : List Addr} (hk : k ≤ 1) (h : Own G S H k d v F) : Rep1 G S H d v := by
  match k, hk, h with
  | 0, _, h => exact h.2.one s
  | 1, _, h =>
    cases d with
    | lst ds => obtain ⟨a, vs, F', e, _, q, r⟩ := h; exact ⟨a, vs, e, q, r.rep0⟩
    | dK ds => obtain ⟨a, vs, F', e, _, q, r⟩ := h; exact ⟨a, vs, e, q, r.repK⟩
    | dT ds => obtain ⟨a, vs, F', e, _, q, r⟩ := h; exact ⟨a, vs, e, q, r.repT⟩
    | obj c ds => obtain ⟨a, C, dx, vs, F', e, _, q, q2, g, r⟩ := h; exact ⟨a, C, dx, vs, e, q, q2, g, r.repF⟩
    | _ => exact h.2
theorem Rep1.mono {S S' H : Hp} (s : Sub S S') {d : D} {v : V} (h : Rep1 G S H d v) : Rep1 G S' H d v := by
  cases d with
  | lst ds => obtain ⟨a, vs, e, q, r⟩ := h; exact ⟨a, vs, e, q, r.mono s⟩
  | dK ds => obtain ⟨a, vs, e, q, r⟩ := h; exact ⟨a, vs, e, q, RepK.mono s _ _ r⟩
  | dT ds => obtain ⟨a, vs, e, q, r⟩ := h; exact ⟨a, vs, e, q, RepT.mono s _ _ r⟩
  | obj c ds => obtain ⟨a, C, dx, vs, e, q, q2, g, r⟩ := h; exact ⟨a, C, dx, vs, e, q, q2, g, RepF.mono s _ _ r⟩
  | _ => exact Rep.mono s _ _ h
def Acc (st : Bool) (G : Gx) (S H : Hp) (d : D) (v : V) : Prop := if st = true then Rep G S d v else Rep1 G S H d v
def AccL (st : Bool) (G : Gx) (S H : Hp) : List D → List V → Prop
  | [], vs => vs = []
  | d :: ds, vs => ∃ v r, vs = v :: r ∧ Acc st G S H d v ∧ AccL st G S H ds r
theorem Acc.mono {st : Bool} {S S' H : Hp} (s : Sub S S') {d : D} {v : V} (h : Acc st G S H d v) : Acc st G S' H d v := by
  cases st with
  | true => exact Rep.mono s _ _ h
  | false => exact Rep1.mono s h
theorem AccL.mono {st : Bool} {S S' H : Hp} (s : Sub S S') : ∀ {ds : List D} {vs : List V}, AccL st G S H ds vs → AccL st G S' H ds vs
  | [], vs, h => h
  | d :: ds, vs, ⟨v, r, e, a, t⟩ => ⟨v, r, e, a.mono s, t.mono s⟩
theorem AccL.st {S H : Hp} : ∀ {ds : List D} {vs : List V}, AccL true G S H ds vs → RepL G S ds vs
  | [], vs, h => by simp only [RepL]; exact h
  | d :: ds, vs, ⟨v, r, e, a, t⟩ => by rw [e]; exact RepL.cons a t.st
theorem opd_get {st : Bool} {σ : St} {Γ : Gm} {fr : List Ent} : ∀ {rs : List OR} {vs : List V} {T : List Ent} {S H : Hp} {ds : List D}, OpdR σ rs vs T → Cov Γ σ → Sim G S H (T ++ (fr ++ slots Γ σ)) → der st Γ rs = some ds →
    ∃ S', Sub S S' ∧ Sim G S' H (fr ++ slots Γ σ) ∧ AccL st G S' H ds vs := by
  intro rs vs T S H ds o
  induction o generalizing S ds with
  | nil => intro c s e; cases e; exact ⟨S, .refl S, s, rfl⟩
  | @v d k rs v vs T o ih =>
    intro c s e
    simp only [der, der1] at e
    cases q : der st Γ rs with
    | none => rw [q] at e; cases e
    | some ds' =>
      rw [q] at e; cases e
      obtain ⟨S', ss, s', a⟩ := ih c s.tail q
      -- the entry again, over S'
      have key : ∃ S1, Sub S S1 ∧ Acc st G S1 H d v ∧ Sim G S1 H (T ++ (fr ++ slots Γ σ)) := by
        cases st with
        | true =>
          obtain ⟨S1, h1, h2⟩ := Sim.lower (j := 0) s (Nat.zero_le _)
          exact ⟨S1, h1, h2.rep0, h2.tail⟩
        | false =>
          by_cases hk : k ≤ 1
          · obtain ⟨F, ow, _⟩ := s.head
            exact ⟨S, .refl S, ow.one s.sub hk, s.tail⟩
          · obtain ⟨S1, h1, h2⟩ := Sim.lower (j := 1) s (by omega)
            obtain ⟨F, ow, _⟩ := h2.head
            exact ⟨S1, h1, ow.one h2.sub (Nat.le_refl _), h2.tail⟩
      obtain ⟨S1, h1, h2, h3⟩ := key
      obtain ⟨S2, g1, g2, g3⟩ := ih c h3 q
      exact ⟨S2, h1.trans g1, g2, v, vs, rfl, h2.mono g1, g3⟩
  | @b i rs v vs T hv o ih =>
    intro c s e
    simp only [der, der1] at e
    cases q0 : Γ.getD i none with
    | none => rw [q0] at e; cases e
    | some dk =>
      obtain ⟨d, k⟩ := dk
      rw [q0] at e
      by_cases hc : (atom d || decide (k ≤ (if st then 0 else 1))) = true
      · simp only [hc, if_true] at e
        cases q : der st Γ rs with
        | none => rw [q] at e; cases e
        | some ds' =>
          rw [q] at e; cases e
          obtain ⟨S', ss, s', a⟩ := ih c s q
          refine ⟨S', ss, s', v, vs, rfl, ?_, a⟩
          obtain ⟨w, hw, p⟩ := slots_get c (getD_some q0)
          rw [hv] at hw
          cases hw
          have s2 : Sim G S' H ((v, d, k) :: slots (Γ.set i none) σ) := (Sim.left s').perm p
          by_cases ha : atom d = true
          · have r := Sim.repA ha s2
            cases st with
            | true => exact r
            | false => exact r.one s2.sub
          · rw [Bool.not_eq_true] at ha
            rw [ha, Bool.false_or] at hc
            have hk := of_decide_eq_true hc
            obtain ⟨F, ow, _⟩ := s2.head
            cases st with
            | true =>
              have hk : k ≤ 0 := hk
              obtain rfl : k = 0 := by omega
              exact ow.2
            | false => exact ow.one s2.sub hk
      · simp only [hc] at e
        cases e
  | @l i rs v vs T hv o ih =>
    intro c s e
    simp only [der, der1] at e
    cases e

/-! ### an operation's reading -/
/-- what an operation leaves: a value, perhaps with new objects -/
def Leaves (G : Gx) (S H : Hp) (r : D × Nat) (Q : VK) : Prop :=
  ∀ v S' H' F, Grow S H S' H' → Own G S' H' r.2 r.1 v F → F.Nodup → (∀ a ∈ F, H a = none) → (∀ a ∈ F, S' a = none) → Q v H'
def OpOk (st : Bool) (g : List D → Option (D × Nat)) (r : Gx → List V → Hp → VK → Prop) : Prop :=
  ∀ (G : Gx) (S H : Hp) (vs : List V) (ds : List D) (z : D × Nat) (Q : VK), Sub S H → AccL st G S H ds vs → g ds = some z → Leaves G S H z Q → r G vs H Q
theorem Leaves.same {S H : Hp} {d : D} {k : Nat} {v : V} {Q : VK} (h : Leaves G S H (d, k) Q) (s : Sub S H) (r : Rep G S d v) (hk : k = 0 ∨ atom d = true) : Q v H := by
  refine h v S H [] (.refl s) ?_ .nil (fun _ z => by cases z) (fun _ z => by cases z)
  rcases hk with rfl | hk
  · exact ⟨rfl, r⟩
  · exact Own.shared hk r
theorem Leaves.at {S H : Hp} {d : D} {k : Nat} {v : V} {Q : VK} (h : Leaves G S H (d, k) Q) (s : Sub S H) (r : ∀ S, Rep G S d v) (ha : atom d = true) : Q v H := h.same s (r S) (.inr ha)
theorem upd_sub {S H : Hp} {p : Addr} {o : HO} (s : Sub S H) (hp : H p = none) : Sub S (upd H p o) := fun a u e => by
  rw [upd_ne (ne_of_none (s a u e) hp)]
  exact s a u e
theorem sub_upd {H : Hp} {p : Addr} {o : HO} (hp : H p = none) : Sub H (upd H p o) := fun a u e => by
  rw [upd_ne (ne_of_none e hp)]
  exact e
theorem Grow.own {S H : Hp} {p : Addr} {o : HO} (s : Sub S H) (hp : H p = none) : Grow S H S (upd H p o) :=
  ⟨.refl S, sub_upd hp, upd_sub s hp, fun a h n => absurd h n⟩
theorem Grow.shr {S H : Hp} {p : Addr} {o : HO} (s : Sub S H) (hp : H p = none) : Grow S H (upd S p o) (upd H p o) := by
  refine ⟨sub_upd (s.none hp), sub_upd hp, fun a u e => ?_, fun a h n => ?_⟩
  · by_cases z : a = p
    · subst z; rw [upd_same] at e ⊢; exact e
    · rw [upd_ne z] at e ⊢; exact s a u e
  · by_cases z : a = p
    · rw [z]; exact hp
    · rw [upd_ne z] at n; exact absurd h n
/-- a new list, owned -/
theorem Leaves.lst {S H : Hp} {ds : List D} {vs : List V} {Q : VK} {p : Addr} (h : Leaves G S H (.lst ds, 1) Q) (s : Sub S H) (r : RepL G S ds vs) (hp : H p = none) : Q (.ref p) (upd H p (.lst vs)) := by
  have own : ∀ {ds : List D} {vs : List V}, RepL G S ds vs → OwnL (Own G S (upd H p (.lst vs)) 0) ds vs [] := fun {ds vs} => by
    intro r
    have : ∀ (H2 : Hp) (ds : List D) (vs : List V), RepL G S ds vs → OwnL (Own G S H2 0) ds vs [] := by
      intro H2 ds
      induction ds with
      | nil => intro vs r; simp only [RepL] at r; exact ⟨r, rfl⟩
      | cons d ds ih =>
        intro vs r
        simp only [RepL] at r
        obtain ⟨v, t, e, a, b⟩ := r
        exact ⟨v, t, [], [], e, rfl, ⟨rfl, a⟩, ih t b⟩
    exact this _ ds vs r
  refine h (.ref p) S (upd H p (.lst vs)) [p] (.own s hp) ⟨p, vs, [], rfl, rfl, upd_same, own r⟩ (by simp) (fun a ha => ?_) (fun a ha => ?_)
  · simp at ha; rw [ha]; exact hp
  · simp at ha; rw [ha]; exact s.none hp
theorem Leaves.tup {S H : Hp} {ds : List D} {vs : List V} {Q : VK} {p : Addr} (h : Leaves G S H (.tup ds, 0) Q) (s : Sub S H) (r : RepL G S ds vs) (hp : H p = none) : Q (.ref p) (upd H p (.tup vs)) := by
  refine h (.ref p) (upd S p (.tup vs)) (upd H p (.tup vs)) [] (.shr s hp) ⟨rfl, ?_⟩ .nil (fun _ z => by cases z) (fun _ z => by cases z)
  simp only [Rep]
  exact ⟨p, vs, rfl, .of upd_same, r.mono (sub_upd (s.none hp))⟩
/-- running an operation -/
theorem run_op {o : Op} {g : List D → Option (D × Nat)} {r : Gx → List V → Hp → VK → Prop} (ok : OpOk o.st g r) (hg : opD o = g) (es : List IE) {σ : St} {H : Hp} {Q : VK} (h : tE G W (ev (.op o es) false) σ H Q) :
    tL G W es σ H fun vs H1 => r G vs H1 Q := by
  obtain ⟨fr, Γ, S, Qd, Xd, c, s, h, post, hx⟩ := h
  simp only [ev] at h
  refine run_L es σ H _ fr Γ S _ Xd c s h (fun vs S' H' Γ' rs T c' s' o' q => ?_) hx
  cases e1 : der o.st Γ' rs with
  | none => rw [e1] at q; exact q.elim
  | some ds =>
    rw [e1] at q
    dsimp only at q
    cases e2 : opD o ds with
    | none => rw [e2] at q; exact q.elim
    | some z =>
      rw [e2] at q
      obtain ⟨S2, ss, s2, acc⟩ := opd_get o' c' s' e1
      rw [hg] at e2
      refine ok G S2 H' vs ds z Q s2.sub acc e2 fun v S3 H3 F g ow nd f1 f2 => ?_
      exact post v S3 H3 Γ' z.1 z.2 c' (s2.add g ow nd f1 f2) q
end
end DL
namespace DL
open PySem PySem.Spec PyProof.Rows L2
section
variable {G : Gx} {S H : Hp} {st : Bool}
theorem AccL.one {d : D} {vs : List V} (a : AccL st G S H [d] vs) : ∃ v, vs = [v] ∧ Acc st G S H d v := by
  obtain ⟨v, r, rfl, h, t⟩ := a
  cases t
  exact ⟨v, rfl, h⟩
theorem AccL.two {d e : D} {vs : List V} (a : AccL st G S H [d, e] vs) : ∃ v w, vs = [v, w] ∧ Acc st G S H d v ∧ Acc st G S H e w := by
  obtain ⟨v, r, rfl, h, t⟩ := a
  obtain ⟨w, rfl, h2⟩ := t.one
  exact ⟨v, w, rfl, h, h2⟩
theorem AccL.nil {vs : List V} (a : AccL st G S H [] vs) : vs = [] := a
theorem Acc.non {v : V} (h : Acc st G S H .non v) : v = .non := by cases st <;> simpa [Acc, Rep1, Rep] using h
theorem Acc.bl {b : Bool} {v : V} (h : Acc st G S H (.bl b) v) : v = .bl b := by cases st <;> simpa [Acc, Rep1, Rep] using h
theorem Acc.int {i : Int} {v : V} (h : Acc st G S H (.int i) v) : v = .int i := by cases st <;> simpa [Acc, Rep1, Rep] using h
theorem Acc.str {x : Str} {v : V} (h : Acc st G S H (.str x) v) : v = .str x := by cases st <;> simpa [Acc, Rep1, Rep] using h
theorem Acc.lst {ds : List D} {v : V} (s : Sub S H) (h : Acc st G S H (.lst ds) v) : ∃ a vs, v = .ref a ∧ H a = some (.lst vs) ∧ RepL G S ds vs := by
  cases st with
  | true =>
    have h : Rep G S (.lst ds) v := h
    simp only [Rep] at h
    obtain ⟨a, vs, e, q, r⟩ := h
    exact ⟨a, vs, e, s _ _ q, r⟩
  | false => exact h
theorem Acc.tup {ds : List D} {v : V} (s : Sub S H) (h : Acc st G S H (.tup ds) v) : ∃ a vs, v = .ref a ∧ SqT G.K H a vs ∧ SqT G.K S a vs ∧ RepL G S ds vs := by
  have h : Rep G S (.tup ds) v := by cases st <;> exact h
  simp only [Rep] at h
  obtain ⟨a, vs, e, q, r⟩ := h
  exact ⟨a, vs, e, s.sqT q, q, r⟩
theorem Acc.scr {ns : List Int} {v : V} (s : Sub S H) (h : Acc st G S H (.scr ns) v) : ∃ a, v = .ref a ∧ SqL G.K H a (ns.map V.int) := by
  have h : Rep G S (.scr ns) v := by cases st <;> exact h
  simp only [Rep] at h
  obtain ⟨a, e, q⟩ := h
  exact ⟨a, e, s.sqL q⟩
theorem Acc.dK {kvs : List (Key × D)} {v : V} (s : Sub S H) (h : Acc st G S H (.dK kvs) v) : ∃ a ws, v = .ref a ∧ H a = some (.dK ws) ∧ RepK G S kvs ws := by
  cases st with
  | true =>
    have h : Rep G S (.dK kvs) v := h
    simp only [Rep] at h
    obtain ⟨a, ws, e, q, r⟩ := h
    exact ⟨a, ws, e, s _ _ q, r⟩
  | false => exact h
theorem Leaves.int {i : Int} {k : Nat} {Q : VK} (q : Leaves G S H (.int i, k) Q) (s : Sub S H) : Q (.int i) H := q.at s (fun S => by simp only [Rep]) rfl
theorem Leaves.bl {i : Bool} {k : Nat} {Q : VK} (q : Leaves G S H (.bl i, k) Q) (s : Sub S H) : Q (.bl i) H := q.at s (fun S => by simp only [Rep]) rfl
theorem Leaves.str {i : Str} {k : Nat} {Q : VK} (q : Leaves G S H (.str i, k) Q) (s : Sub S H) : Q (.str i) H := q.at s (fun S => by simp only [Rep]) rfl
theorem Leaves.non {k : Nat} {Q : VK} (q : Leaves G S H (.non, k) Q) (s : Sub S H) : Q .non H := q.at s (fun S => by simp only [Rep]) rfl
end
def rB (r : Gx → R2) : Gx → List V → Hp → VK → Prop := fun G vs H Q => match vs with
  | [x, y] => r G x y H Q
  | _ => False
def rC (r : Gx → List V → Hp → VK → Prop) : Gx → List V → Hp → VK → Prop := r
theorem line_lim : sizeLine = lim := sizeLine_eq

/-! ### + -/
def r2Add (K : PySem.W.Frag) : R2 := fun x y H Q => rI0 (fun i j => .int (i + j)) x y H Q ∨ (∃ i j, x = .str i ∧ y = .str j ∧ i.length + j.length ≤ sizeLine ∧ Q (.str (i ++ j)) H) ∨ rCat x y H Q ∨ rCatA K x y H Q
theorem opr_add {X : Cx} : OpR X (binaryOp .Add) (r2Add X.K) := op_add.or (op_add_str.or (op_cat.or op_catA))
theorem ok_add : OpOk false opAdd (rB fun G => r2Add G.K) := by
  intro G S H vs ds z Q s a e q
  unfold opAdd at e
  split at e
  · obtain ⟨v, w, rfl, h1, h2⟩ := a.two
    cases e; cases h1.int; cases h2.int
    exact .inl ⟨_, _, rfl, rfl, q.int s⟩
  · obtain ⟨v, w, rfl, h1, h2⟩ := a.two
    cases h1.str; cases h2.str
    split at e
    · cases e
      rename_i hz
      exact .inr (.inl ⟨_, _, rfl, rfl, by rw [line_lim]; exact hz, q.str s⟩)
    · cases e
  · obtain ⟨v, w, rfl, h1, h2⟩ := a.two
    obtain ⟨l1, xs, rfl, e1, r1⟩ := h1.lst s
    obtain ⟨l2, ys, rfl, e2, r2⟩ := h2.lst s
    split at e
    · cases e
      rename_i hz
      exact .inr (.inr (.inl ⟨l1, l2, xs, ys, rfl, rfl, e1, e2, by rw [r1.len, r2.len, line_lim]; exact hz, fun p hp => q.lst s (r1.append r2) hp⟩))
    · cases e
  · obtain ⟨v, w, rfl, h1, h2⟩ := a.two
    obtain ⟨l1, xs, rfl, e1, g1, r1⟩ := h1.tup s
    obtain ⟨l2, ys, rfl, e2, g2, r2⟩ := h2.tup s
    split at e
    · cases e
      rename_i ds1 ds2 hz
      refine .inr (.inr (.inr ⟨l1, l2, xs, ys, rfl, rfl, e1, e2, by rw [r1.len, r2.len, line_lim]; exact hz, fun z => ?_, fun _ z => ?_, fun _ _ p hp => q.tup s (r1.append r2) hp⟩))
      · have : ds1 = [] := List.length_eq_zero_iff.mp (by rw [← r1.len, z]; rfl)
        subst this
        exact q.same s (by simp only [Rep]; exact ⟨l2, ys, rfl, g2, r2⟩) (.inl rfl)
      · have : ds2 = [] := List.length_eq_zero_iff.mp (by rw [← r2.len, z]; rfl)
        subst this
        rw [List.append_nil] at q
        exact q.same s (by simp only [Rep]; exact ⟨l1, xs, rfl, g1, r1⟩) (.inl rfl)
    · cases e
  · cases e
theorem ok_sub : OpOk false opSub (rB fun G => rI0 fun i j => .int (i - j)) := by
  intro G S H vs ds z Q s a e q
  unfold opSub at e
  split at e
  · obtain ⟨v, w, rfl, h1, h2⟩ := a.two
    cases e; cases h1.int; cases h2.int
    exact ⟨_, _, rfl, rfl, q.int s⟩
  · cases e
def rRepS : R2 := fun x y H Q => ∃ z k, x = .str z ∧ y = .int k ∧ z.length * k.toNat ≤ lim ∧ 0 ≤ k ∧ k ≤ 1000000 ∧ Q (.str ⟨((List.replicate k.toNat z.cps.toList).flatten).toArray⟩) H
theorem foldl_cps (l : List Nat) : ∀ (k : Nat) (acc : List Nat), (List.replicate k l.toArray).foldl (· ++ ·) acc.toArray = (acc ++ (List.replicate k l).flatten).toArray
  | 0, acc => by simp
  | k + 1, acc => by
    rw [List.replicate_succ, List.foldl_cons, List.replicate_succ, List.flatten_cons]
    have : acc.toArray ++ l.toArray = (acc ++ l).toArray := by simp
    rw [this, foldl_cps l k (acc ++ l), List.append_assoc]
theorem op_repS {X : Cx} : OpR X (binaryOp .Mult) rRepS := by
  intro pins s σ H x y v u Q I rx ry h
  obtain ⟨z, k, rfl, rfl, hz, h0, h1, q⟩ := h
  obtain ⟨t, rfl⟩ := rx
  obtain ⟨t', rfl⟩ := ry
  have hl : sizeLine = 16777216 := sizeLine_eq
  have fin : ∀ (y : Str) (t : Tok) (n : Nat), y = ⟨((List.replicate k.toNat z.cps.toList).flatten).toArray⟩ → EP X pins σ Q (.str y t) { s with toks := n } := fun y t n e => by
    subst e
    exact ⟨.str _, H, I.tok _, ⟨_, rfl⟩, q⟩
  have zl : z.length = z.cps.toList.length := by simp [Str.length]
  refine PySem.P.mul_str ?_ (fun h2 h3 => ?_) (fun h2 h3 => ?_) ?_
  · have e1 : decide (k < -(2 ^ 63 : Int)) = false := decide_eq_false (by omega)
    have e2 : decide (k ≥ 2 ^ 63) = false := decide_eq_false (by omega)
    rw [e1, e2]; rfl
  · intro h4
    have h6 : (9223372036854 : Int) ≤ (2 ^ 63 - 1) / k := Int.le_ediv_of_mul_le (by omega) (by omega)
    have h5 : z.length ≤ z.length * k.toNat := Nat.le_mul_of_pos_right _ (by omega)
    have h7 : z.length ≤ 16777216 := Nat.le_trans h5 hz
    omega
  · unfold Builtin.Str.tooLong
    exact decide_eq_false (by have : z.length * k.toNat ≤ 16777216 := hz; omega)
  · by_cases c1 : k < 1
    · rw [if_pos c1]
      have : k.toNat = 0 := by omega
      exact ⟨by decide, fin _ _ _ (by rw [this]; rfl)⟩
    · rw [if_neg c1]
      by_cases c2 : (k == 1 || z.length == 0) = true
      · rw [if_pos c2]
        refine fin _ _ s.toks ?_
        rw [Bool.or_eq_true, beq_iff_eq, beq_iff_eq] at c2
        rcases c2 with c2 | c2
        · subst c2
          obtain ⟨l⟩ := z
          simp
        · rw [zl] at c2
          have c3 := List.length_eq_zero_iff.mp c2
          obtain ⟨l⟩ := z
          simp at c3
          simp [c3]
      · rw [if_neg c2]
        have e1 := foldl_cps z.cps.toList k.toNat []
        rw [List.nil_append, Array.toArray_toList] at e1
        refine ⟨?_, fin _ _ _ ?_⟩
        · rw [show (List.replicate k.toNat z.cps) = List.replicate k.toNat z.cps.toList.toArray by rw [Array.toArray_toList], foldl_cps z.cps.toList k.toNat []]
          show (([] ++ (List.replicate k.toNat z.cps.toList).flatten).toArray).size ≤ sizeLine
          rw [List.nil_append, List.size_toArray, PyProof.Rows.lm_len_rep_flat, ← zl, Nat.mul_comm, line_lim]
          exact hz
        · rw [← e1]
def r2Mul : R2 := fun x y H Q => rI CMul (fun i j => .int (i * j)) x y H Q ∨ rRep x y H Q ∨ rRepS x y H Q
theorem opr_mul {X : Cx} : OpR X (binaryOp .Mult) r2Mul := op_mul.or (op_rep.or op_repS)
theorem RepL.rep {G : Gx} {S : Hp} {ds : List D} {vs : List V} (r : RepL G S ds vs) : ∀ n : Nat, RepL G S (List.replicate n ds).flatten (List.replicate n vs).flatten
  | 0 => by simpa using RepL.nil
  | n + 1 => by
    rw [List.replicate_succ, List.replicate_succ, List.flatten_cons, List.flatten_cons]
    exact r.append (RepL.rep r n)
theorem ok_mul : OpOk false opMul (rB fun G => r2Mul) := by
  intro G S H vs ds z Q s a e q
  unfold opMul at e
  split at e
  · obtain ⟨v, w, rfl, h1, h2⟩ := a.two
    cases h1.int; cases h2.int
    split at e
    · cases e
      rename_i hz
      exact .inl ⟨_, _, rfl, rfl, hz, q.int s⟩
    · cases e
  · obtain ⟨v, w, rfl, h1, h2⟩ := a.two
    obtain ⟨l1, xs, rfl, e1, r1⟩ := h1.lst s
    cases h2.int
    split at e
    · cases e
      rename_i hz
      exact .inr (.inl ⟨l1, _, xs, rfl, rfl, e1, hz.2.1, hz.2.2, by rw [r1.len, line_lim]; exact hz.1, fun p hp => q.lst s (r1.rep _) hp⟩)
    · cases e
  · obtain ⟨v, w, rfl, h1, h2⟩ := a.two
    cases h1.str; cases h2.int
    split at e
    · cases e
      rename_i hz
      exact .inr (.inr ⟨_, _, rfl, rfl, hz.1, hz.2.1, hz.2.2, q.str s⟩)
    · cases e
  · cases e
theorem ok_mod : OpOk false opMod (rB fun G => rI (fun _ j => 0 < j) fun i j => .int (i % j)) := by
  intro G S H vs ds z Q s a e q
  unfold opMod at e
  split at e
  · obtain ⟨v, w, rfl, h1, h2⟩ := a.two
    cases h1.int; cases h2.int
    split at e
    · cases e
      rename_i hz
      exact ⟨_, _, rfl, rfl, hz, q.int s⟩
    · cases e
  · cases e
theorem ok_fdiv : OpOk false opFdiv (rB fun G => rI CDiv fun i j => .int (i / j)) := by
  intro G S H vs ds z Q s a e q
  unfold opFdiv at e
  split at e
  · obtain ⟨v, w, rfl, h1, h2⟩ := a.two
    cases h1.int; cases h2.int
    split at e
    · cases e
      rename_i hz
      exact ⟨_, _, rfl, rfl, hz, q.int s⟩
    · cases e
  · cases e
theorem ok_pow : OpOk false opPow (rB fun G => rI CPow fun i j => .int (i ^ j.toNat)) := by
  intro G S H vs ds z Q s a e q
  unfold opPow at e
  split at e
  · obtain ⟨v, w, rfl, h1, h2⟩ := a.two
    cases h1.int; cases h2.int
    split at e
    · cases e
      rename_i hz
      exact ⟨_, _, rfl, rfl, hz, q.int s⟩
    · cases e
  · cases e
def r1 (r : V → Hp → VK → Prop) : Gx → List V → Hp → VK → Prop := fun G vs H Q => match vs with
  | [x] => r x H Q
  | _ => False
theorem ok_neg : OpOk false opNeg (r1 (rU fun i => .int (-i))) := by
  intro G S H vs ds z Q s a e q
  unfold opNeg at e
  split at e
  · obtain ⟨v, rfl, h1⟩ := a.one
    cases h1.int
    cases e
    exact ⟨_, rfl, q.int s⟩
  · cases e
/-! ### orders -/
theorem ok_lt : OpOk false opLt (rB fun G => rI0 fun i j => .bl (decide (i < j))) := by
  intro G S H vs ds z Q s a e q
  unfold opLt at e
  split at e
  · obtain ⟨v, w, rfl, h1, h2⟩ := a.two
    cases h1.int; cases h2.int; cases e
    exact ⟨_, _, rfl, rfl, q.bl s⟩
  · cases e
theorem ok_le : OpOk false opLe (rB fun G => rI0 fun i j => .bl (decide (i ≤ j))) := by
  intro G S H vs ds z Q s a e q
  unfold opLe at e
  split at e
  · obtain ⟨v, w, rfl, h1, h2⟩ := a.two
    cases h1.int; cases h2.int; cases e
    exact ⟨_, _, rfl, rfl, q.bl s⟩
  · cases e
theorem ok_gt : OpOk false opGt (rB fun G => rI0 fun i j => .bl (decide (j < i))) := by
  intro G S H vs ds z Q s a e q
  unfold opGt at e
  split at e
  · obtain ⟨v, w, rfl, h1, h2⟩ := a.two
    cases h1.int; cases h2.int; cases e
    exact ⟨_, _, rfl, rfl, q.bl s⟩
  · cases e
theorem ok_ge : OpOk false opGe (rB fun G => rI0 fun i j => .bl (decide (j ≤ i))) := by
  intro G S H vs ds z Q s a e q
  unfold opGe at e
  split at e
  · obtain ⟨v, w, rfl, h1, h2⟩ := a.two
    cases h1.int; cases h2.int; cases e
    exact ⟨_, _, rfl, rfl, q.bl s⟩
  · cases e
/-! ### is None -/
theorem Acc.isNon {G : Gx} {S H : Hp} {d : D} {v : V} (h : Acc false G S H d v) : decide (v = .non) = isNonD d := by
  cases d with
  | non => cases h.non; rfl
  | bl b => cases h.bl; rfl
  | int b => cases h.int; rfl
  | str b => cases h.str; rfl
  | lst ds => obtain ⟨a, vs, rfl, _⟩ := h; rfl
  | tup ds => obtain ⟨a, vs, e, _⟩ := (show Rep G S (.tup ds) v from h); subst e; rfl
  | dK ds => obtain ⟨a, vs, rfl, _⟩ := h; rfl
  | dT ds => obtain ⟨a, vs, rfl, _⟩ := h; rfl
  | obj c ds => obtain ⟨a, C, dx, vs, rfl, _⟩ := h; rfl
  | scr ns => obtain ⟨a, e, _⟩ := (show Rep G S (.scr ns) v from h); subst e; rfl
theorem ok_isN : OpOk false opIsN (r1 fun x H Q => Q (.bl (decide (x = .non))) H) := by
  intro G S H vs ds z Q s a e q
  unfold opIsN at e
  split at e
  · obtain ⟨v, rfl, h1⟩ := a.one
    cases e
    show Q (.bl (decide (v = .non))) H
    rw [h1.isNon]
    exact q.bl s
  · cases e
theorem ok_notN : OpOk false opNotN (r1 fun x H Q => Q (.bl (!decide (x = .non))) H) := by
  intro G S H vs ds z Q s a e q
  unfold opNotN at e
  split at e
  · rename_i d
    obtain ⟨v, rfl, h1⟩ := a.one
    cases e
    show Q (.bl (!decide (v = .non))) H
    rw [h1.isNon]
    exact q.bl s
  · cases e
/-! ### len, abs, int -/
def rLen (K : PySem.W.Frag) : List V → Hp → VK → Prop := fun xs H Q => ∃ x n, xs = [x] ∧ LenV K x H n ∧ Q (.int n) H
theorem ok_len : OpOk false opLen (fun G => rLen G.K) := by
  intro G S H vs ds z Q s a e q
  unfold opLen at e
  split at e
  · obtain ⟨v, rfl, h1⟩ := a.one
    obtain ⟨l1, xs, rfl, e1, r1⟩ := h1.lst s
    cases e
    exact ⟨_, _, rfl, .inl ⟨xs, .of e1, rfl⟩, by rw [r1.len]; exact q.int s⟩
  · obtain ⟨v, rfl, h1⟩ := a.one
    obtain ⟨l1, xs, rfl, e1, g1, r1⟩ := h1.tup s
    cases e
    exact ⟨_, _, rfl, .inr ⟨xs, e1, rfl⟩, by rw [r1.len]; exact q.int s⟩
  · obtain ⟨v, rfl, h1⟩ := a.one
    cases h1.str
    split at e
    · cases e
      rename_i hz
      exact ⟨_, _, rfl, ⟨by rw [line_lim]; exact hz, rfl⟩, q.int s⟩
    · cases e
  · cases e
theorem ok_abs : OpOk false opAbs (fun G xs H Q => ∃ i, xs = [.int i] ∧ Q (.int (if i < 0 then -i else i)) H) := by
  intro G S H vs ds z Q s a e q
  unfold opAbs at e
  split at e
  · obtain ⟨v, rfl, h1⟩ := a.one
    cases h1.int
    cases e
    exact ⟨_, rfl, q.int s⟩
  · cases e
theorem ok_int : OpOk false opInt (fun G xs H Q => (∃ i, xs = [.int i] ∧ Q (.int i) H) ∨ ∃ k, xs = [.bl k] ∧ Q (.int (if k then 1 else 0)) H) := by
  intro G S H vs ds z Q s a e q
  unfold opInt at e
  split at e
  · obtain ⟨v, rfl, h1⟩ := a.one
    cases h1.int
    cases e
    exact .inl ⟨_, rfl, q.int s⟩
  · obtain ⟨v, rfl, h1⟩ := a.one
    cases h1.bl
    cases e
    exact .inr ⟨_, rfl, q.int s⟩
  · cases e
/-! ### list, tuple -/
theorem ok_list : OpOk false opList (fun G xs H Q => ∃ p ys, xs = [.ref p] ∧ (SqL G.K H p ys ∨ SqT G.K H p ys) ∧ ∀ l, H l = none → Q (.ref l) (upd H l (.lst ys))) := by
  intro G S H vs ds z Q s a e q
  unfold opList at e
  split at e
  · obtain ⟨v, rfl, h1⟩ := a.one
    obtain ⟨l1, xs, rfl, e1, r1⟩ := h1.lst s
    cases e
    exact ⟨_, _, rfl, .inl (.of e1), fun p hp => q.lst s r1 hp⟩
  · obtain ⟨v, rfl, h1⟩ := a.one
    obtain ⟨l1, xs, rfl, e1, g1, r1⟩ := h1.tup s
    cases e
    exact ⟨_, _, rfl, .inr e1, fun p hp => q.lst s r1 hp⟩
  · cases e
theorem ok_tuple : OpOk false opTuple (fun G xs H Q => ∃ p ys, xs = [.ref p] ∧ ((SqL G.K H p ys ∧ ∀ l, H l = none → Q (.ref l) (upd H l (.tup ys))) ∨ (SqT G.K H p ys ∧ Q (.ref p) H))) := by
  intro G S H vs ds z Q s a e q
  unfold opTuple at e
  split at e
  · obtain ⟨v, rfl, h1⟩ := a.one
    obtain ⟨l1, xs, rfl, e1, r1⟩ := h1.lst s
    cases e
    exact ⟨_, _, rfl, .inl ⟨.of e1, fun p hp => q.tup s r1 hp⟩⟩
  · obtain ⟨v, rfl, h1⟩ := a.one
    obtain ⟨l1, xs, rfl, e1, g1, r1⟩ := h1.tup s
    cases e
    exact ⟨_, _, rfl, .inr ⟨e1, q.same s (by simp only [Rep]; exact ⟨l1, xs, rfl, g1, r1⟩) (.inl rfl)⟩⟩
  · cases e
/-! ### all, any -/
theorem bools_of {G : Gx} {S : Hp} : ∀ {ds : List D} {vs : List V} {bs : List Bool}, boolsD ds = some bs → RepL G S ds vs → vs = bs.map V.bl
  | [], vs, bs, h, r => by
    simp only [RepL] at r
    cases h
    exact r
  | .bl b :: ds, vs, bs, h, r => by
    simp only [RepL] at r
    obtain ⟨v, t, rfl, a, r⟩ := r
    simp only [Rep] at a
    simp only [boolsD] at h
    cases e : boolsD ds with
    | none => rw [e] at h; cases h
    | some bs' =>
      rw [e] at h
      cases h
      rw [a, bools_of e r]
      rfl
  | .non :: _, _, _, h, _ => by cases h
  | .int _ :: _, _, _, h, _ => by cases h
  | .str _ :: _, _, _, h, _ => by cases h
  | .lst _ :: _, _, _, h, _ => by cases h
  | .tup _ :: _, _, _, h, _ => by cases h
  | .dK _ :: _, _, _, h, _ => by cases h
  | .dT _ :: _, _, _, h, _ => by cases h
  | .obj _ _ :: _, _, _, h, _ => by cases h
  | .scr _ :: _, _, _, h, _ => by cases h
theorem strs_of {G : Gx} {S : Hp} : ∀ {ds : List D} {vs : List V} {bs : List Str}, strsD ds = some bs → RepL G S ds vs → vs = bs.map V.str
  | [], vs, bs, h, r => by
    simp only [RepL] at r
    cases h
    exact r
  | .str b :: ds, vs, bs, h, r => by
    simp only [RepL] at r
    obtain ⟨v, t, rfl, a, r⟩ := r
    simp only [Rep] at a
    simp only [strsD] at h
    cases e : strsD ds with
    | none => rw [e] at h; cases h
    | some bs' =>
      rw [e] at h
      cases h
      rw [a, strs_of e r]
      rfl
  | .non :: _, _, _, h, _ => by cases h
  | .int _ :: _, _, _, h, _ => by cases h
  | .bl _ :: _, _, _, h, _ => by cases h
  | .lst _ :: _, _, _, h, _ => by cases h
  | .tup _ :: _, _, _, h, _ => by cases h
  | .dK _ :: _, _, _, h, _ => by cases h
  | .dT _ :: _, _, _, h, _ => by cases h
  | .obj _ _ :: _, _, _, h, _ => by cases h
  | .scr _ :: _, _, _, h, _ => by cases h
theorem ok_all : OpOk false opAll (fun G => rAll G.K) := by
  intro G S H vs ds z Q s a e q
  unfold opAll at e
  split at e
  · rename_i xs0
    obtain ⟨v, rfl, h1⟩ := a.one
    obtain ⟨l1, xs, rfl, e1, r1⟩ := h1.lst s
    cases e2 : boolsD xs0 with
    | none => rw [e2] at e; cases e
    | some bs =>
      rw [e2] at e
      cases e
      have := bools_of e2 r1
      subst this
      exact ⟨l1, bs, rfl, .of e1, q.bl s⟩
  · cases e
theorem ok_any : OpOk false opAny (fun G => rAny G.K) := by
  intro G S H vs ds z Q s a e q
  unfold opAny at e
  split at e
  · rename_i xs0
    obtain ⟨v, rfl, h1⟩ := a.one
    obtain ⟨l1, xs, rfl, e1, r1⟩ := h1.lst s
    cases e2 : boolsD xs0 with
    | none => rw [e2] at e; cases e
    | some bs =>
      rw [e2] at e
      cases e
      have := bools_of e2 r1
      subst this
      exact ⟨l1, bs, rfl, .of e1, q.bl s⟩
  · cases e
/-! ### places -/
theorem atI_map {α β : Type} {xs : List α} {i : Int} {v : α} (f : α → β) (h : atI xs i = some v) : atI (xs.map f) i = some (f v) := by
  unfold atI at h ⊢
  rw [List.length_map]
  cases e : ixN xs.length i with
  | none => rw [e] at h; cases h
  | some j => rw [e] at h; show (xs.map f)[j]? = _; rw [List.getElem?_map]; have h' : xs[j]? = some v := h; rw [h']; rfl
theorem RepL.atI {G : Gx} {S : Hp} {ds : List D} {vs : List V} {i : Int} {d : D} (r : RepL G S ds vs) (h : L2.atI ds i = some d) : ∃ v, L2.atI vs i = some v ∧ Rep G S d v := by
  unfold L2.atI at h ⊢
  rw [r.len]
  cases e : ixN ds.length i with
  | none => rw [e] at h; cases h
  | some j =>
    rw [e] at h
    exact r.at (show ds[j]? = some d from h)
theorem valV_look {G : Gx} {S : Hp} {k : Key} : ∀ {kvs : List (Key × D)} {ws : List (Key × V)}, RepK G S kvs ws → (lookG kvs k = none ∧ valV ws k = none) ∨ ∃ d v, lookG kvs k = some d ∧ valV ws k = some v ∧ Rep G S d v
  | [], ws, r => by
    simp only [RepK] at r
    subst r
    exact .inl ⟨rfl, rfl⟩
  | (k', d') :: kvs, ws, r => by
    simp only [RepK] at r
    obtain ⟨v, t, rfl, a, r⟩ := r
    by_cases h : k' = k
    · subst h
      exact .inr ⟨d', v, by simp [lookG], valV_pos rfl, a⟩
    · rw [valV_neg (p := (k', v)) h]
      have e : lookG ((k', d') :: kvs) k = lookG kvs k := by simp [lookG, List.find?_cons, h]
      rw [e]
      exact valV_look r
theorem keyOf_acc {G : Gx} {S H : Hp} {st : Bool} {d : D} {k : Key} {v : V} (h : keyOf d = some k) (a : Acc st G S H d v) : v = kV k := by
  cases d <;> first | (cases h; done) | skip
  case int i => cases h; exact a.int
  case str i => cases h; exact a.str
def rIxD : R2 := fun x y H Q => ∃ a v, x = .ref a ∧ DGet H a y (some v) ∧ Q v H
theorem ix_dict {X : Cx} (hu : X.A.units + 1 < cLine) : IxR X rIxD := by
  intro value slice pins s σ H x y v u Q I rx ry h hs
  obtain ⟨a, z, rfl, g, q⟩ := h
  cases rx
  exact tail_any (dict_typeIs I g) PySem.F.slot_dict_getitem.lookup (d_getItem hu I g ry fun w' s' I' rw' => ⟨z, H, I', rw', q⟩) hs
def r2Ix (K : PySem.W.Frag) : R2 := fun x y H Q => rIx K x y H Q ∨ rIxD x y H Q
theorem ixr_all {X : Cx} (hu : X.A.units + 1 < cLine) : IxR X (r2Ix X.K) := ix_seq.or (ix_dict hu)
theorem Leaves.rep {G : Gx} {S H : Hp} {d : D} {v : V} {Q : VK} (q : Leaves G S H (d, 0) Q) (s : Sub S H) (r : Rep G S d v) : Q v H := q.same s r (.inl rfl)
theorem ok_idx : OpOk false opIdx (rB fun G => r2Ix G.K) := by
  intro G S H vs ds z Q s a e q
  unfold opIdx at e
  split at e
  · rename_i xs0 i
    obtain ⟨v, w, rfl, h1, h2⟩ := a.two
    obtain ⟨l1, xs, rfl, e1, r1⟩ := h1.lst s
    cases h2.int
    obtain ⟨d, hd, rfl⟩ := Option.map_eq_some_iff.mp e
    obtain ⟨v, hv, r⟩ := r1.atI hd
    exact .inl (.inl ⟨l1, xs, i, v, rfl, rfl, .of e1, hv, q.rep s r⟩)
  · rename_i xs0 i
    obtain ⟨v, w, rfl, h1, h2⟩ := a.two
    obtain ⟨l1, xs, rfl, e1, g1, r1⟩ := h1.tup s
    cases h2.int
    obtain ⟨d, hd, rfl⟩ := Option.map_eq_some_iff.mp e
    obtain ⟨v, hv, r⟩ := r1.atI hd
    exact .inl (.inr (.inl ⟨l1, xs, i, v, rfl, rfl, e1, hv, q.rep s r⟩))
  · rename_i x i
    obtain ⟨v, w, rfl, h1, h2⟩ := a.two
    cases h1.str
    cases h2.int
    split at e
    · rename_i hz
      obtain ⟨d, hd, rfl⟩ := Option.map_eq_some_iff.mp e
      exact .inl (.inr (.inr ⟨x, i, d, rfl, rfl, by rw [line_lim]; exact hz, hd, q.str s⟩))
    · cases e
  · rename_i kvs k
    obtain ⟨v, w, rfl, h1, h2⟩ := a.two
    obtain ⟨l1, ws, rfl, e1, r1⟩ := h1.dK s
    split at e
    · rename_i κ hk
      obtain ⟨d, hd, rfl⟩ := Option.map_eq_some_iff.mp e
      cases keyOf_acc hk h2
      rcases valV_look (k := κ) r1 with ⟨h, _⟩ | ⟨d', v, h3, h4, r⟩
      · rw [hd] at h; cases h
      · rw [hd] at h3
        cases h3
        refine .inr ⟨l1, v, rfl, ?_, q.rep s r⟩
        rw [← h4]
        exact DGet.k e1
    · cases e
  · cases e
/-! ### slices -/
/-- parts of a slice -/
def rSl (r : V → Option Int → Option Int → Hp → VK → Prop) (lo hi : Bool) : List V → Hp → VK → Prop := fun vs H Q => match lo, hi, vs with
  | false, false, [x] => r x none none H Q
  | true, false, [x, .int i] => r x (some i) none H Q
  | false, true, [x, .int j] => r x none (some j) H Q
  | true, true, [x, .int i, .int j] => r x (some i) (some j) H Q
  | _, _, _ => False
def r3Sl (K : PySem.W.Frag) : V → Option Int → Option Int → Hp → VK → Prop := fun x lo hi H Q => rSlL K x lo hi H Q ∨ rSlA K x lo hi H Q ∨ rSlS x lo hi H Q
theorem slr_all {X : Cx} : SlR X (r3Sl X.K) := sl_list.or (sl_tupA.or sl_str)
theorem RepL.cut {G : Gx} {S : Hp} {ds : List D} {vs : List V} (r : RepL G S ds vs) (lo hi : Option Int) : RepL G S (cutG ds lo hi) (cutV vs lo hi) := by
  unfold cutG cutV
  rw [r.len]
  exact (r.drop _).take _
/-- the slice itself, by the first operand -/
theorem sl_one {G : Gx} {S H : Hp} {d : D} {v : V} {l h : Option Int} {z : D × Nat} {Q : VK} (s : Sub S H) (a : Acc false G S H d v)
    (e : sl1D l h d = some z) (q : Leaves G S H z Q) : r3Sl G.K v l h H Q := by
  cases d <;> first | (cases e; done) | skip
  case lst xs =>
    cases e
    obtain ⟨l1, ws, rfl, e1, r1⟩ := a.lst s
    exact .inl ⟨l1, ws, rfl, .of e1, fun p hp => q.lst s (r1.cut l h) hp⟩
  case scr ns =>
    cases e
    obtain ⟨l1, rfl, e1⟩ := a.scr s
    refine .inl ⟨l1, _, rfl, e1, fun p hp => ?_⟩
    refine q.lst s ?_ hp
    have key : ∀ ns : List Int, RepL G S (ns.map D.int) (ns.map V.int) := fun ns => by
      induction ns with
      | nil => exact RepL.nil
      | cons n ns ih => exact RepL.cons (by simp only [Rep]) ih
    have := (key ns).cut l h
    have e2 : cutG (ns.map D.int) l h = (cutG ns l h).map D.int := by
      unfold cutG
      rw [List.length_map, List.map_take, List.map_drop]
    rw [e2] at this
    exact this
  case tup xs =>
    cases e
    obtain ⟨l1, ws, rfl, e1, g1, r1⟩ := a.tup s
    refine .inr (.inl ⟨l1, ws, rfl, e1, fun hw => ?_, fun _ p hp => q.tup s (r1.cut l h) hp⟩)
    have : cutG xs l h = xs := by
      unfold cutG
      rw [r1.len] at hw
      rw [hw.1, hw.2]
      simp
    rw [this] at q
    exact q.rep s (by simp only [Rep]; exact ⟨l1, ws, rfl, g1, r1⟩)
  case str x =>
    cases a.str
    simp only [sl1D] at e
    split at e
    · rename_i hz
      cases e
      exact .inr (.inr ⟨x, rfl, by rw [line_lim]; exact hz, q.str s⟩)
    · cases e
theorem ok_sl (lo hi : Bool) : OpOk false (opSl lo hi) (fun G => rSl (r3Sl G.K) lo hi) := by
  intro G S H vs ds z Q s a e q
  have key : ∃ d r l h, ds = d :: r ∧ (∃ r', optI lo r = some (l, r') ∧ optI hi r' = some (h, [])) ∧ sl1D l h d = some z := by
    unfold opSl at e
    split at e
    · rename_i d r
      split at e
      · rename_i l r' h1
        split at e
        · rename_i h h2
          exact ⟨d, r, l, h, rfl, ⟨r', h1, h2⟩, e⟩
        · cases e
      · cases e
    · cases e
  obtain ⟨d, r, l, h, rfl, ⟨r', h1, h2⟩, ez⟩ := key
  obtain ⟨v, t, rfl, av, at_⟩ := a
  have fin := sl_one (l := l) (h := h) s av ez q
  cases lo with
  | false =>
    simp only [optI] at h1
    cases h1
    cases hi with
    | false =>
      simp only [optI] at h2
      cases h2
      cases at_
      exact fin
    | true =>
      cases r with
      | nil => simp [optI] at h2
      | cons x r =>
        cases x <;> first | (simp [optI] at h2; done) | skip
        simp only [optI] at h2
        cases h2
        obtain ⟨w, rfl, a2⟩ := AccL.one at_
        cases a2.int
        exact fin
  | true =>
    cases r with
    | nil => simp [optI] at h1
    | cons x r =>
      cases x <;> first | (simp [optI] at h1; done) | skip
      simp only [optI] at h1
      cases h1
      cases hi with
      | false =>
        simp only [optI] at h2
        cases h2
        obtain ⟨w, rfl, a2⟩ := AccL.one at_
        cases a2.int
        exact fin
      | true =>
        cases r' with
        | nil => simp [optI] at h2
        | cons y r =>
          cases y <;> first | (simp [optI] at h2; done) | skip
          simp only [optI] at h2
          cases h2
          obtain ⟨w, w2, rfl, a2, a3⟩ := AccL.two at_
          cases a2.int
          cases a3.int
          exact fin
/-! ### a tuple -/
theorem ok_tup : OpOk true opTupl (fun G vs H Q => vs.length ≤ sizeLine ∧ ∀ p, H p = none → Q (.ref p) (upd H p (.tup vs))) := by
  intro G S H vs ds z Q s a e q
  unfold opTupl at e
  split at e
  · rename_i hz
    cases e
    have r := a.st
    exact ⟨by rw [r.len, line_lim]; exact hz, fun p hp => q.tup s r hp⟩
  · cases e
end DL
namespace PySem
open Sem (wp)
namespace DX
theorem sub_NoneType_dict : isSubtype (.type "NoneType") (.type "dict") = pure false := by rw [isSubtype_type]; kernel_rfl
theorem sub_dict_NoneType : isSubtype (.type "dict") (.type "NoneType") = pure false := by rw [isSubtype_type]; kernel_rfl
theorem sub_bool_dict : isSubtype (.type "bool") (.type "dict") = pure false := by rw [isSubtype_type]; kernel_rfl
theorem sub_dict_bool : isSubtype (.type "dict") (.type "bool") = pure false := by rw [isSubtype_type]; kernel_rfl
theorem sub_int_dict : isSubtype (.type "int") (.type "dict") = pure false := by rw [isSubtype_type]; kernel_rfl
theorem sub_dict_int : isSubtype (.type "dict") (.type "int") = pure false := by rw [isSubtype_type]; kernel_rfl
theorem sub_str_dict : isSubtype (.type "str") (.type "dict") = pure false := by rw [isSubtype_type]; kernel_rfl
theorem sub_dict_str : isSubtype (.type "dict") (.type "str") = pure false := by rw [isSubtype_type]; kernel_rfl
theorem sub_list_dict : isSubtype (.type "list") (.type "dict") = pure false := by rw [isSubtype_type]; kernel_rfl
theorem sub_dict_list : isSubtype (.type "dict") (.type "list") = pure false := by rw [isSubtype_type]; kernel_rfl
theorem sub_tuple_dict : isSubtype (.type "tuple") (.type "dict") = pure false := by rw [isSubtype_type]; kernel_rfl
theorem sub_dict_tuple : isSubtype (.type "dict") (.type "tuple") = pure false := by rw [isSubtype_type]; kernel_rfl
theorem dict_eq_declines_none (l : Addr) (es : Array DictEntry) (n : Nat) (dd : Option Addr) (sl : Array (Option Value)) :
    Meets (Builtin.«dict.__eq__» ⟨[.ref l, .none], []⟩) (fun _ R s => s.heap.get? l = some { cls := .type "dict", dict := dd, data := .dict es n, slots := sl } ∧ R (.ok (.ret .notImplemented)) s) :=
  .of_wp fun prog w A R s h => by obtain ⟨hp, g, d, tk, os⟩ := s; obtain ⟨hl, h⟩ := h; have f1 := sub_NoneType_dict; wp_walk using wpAny_loadPart' hl, wpAny_load hl; exact ⟨_, rfl, h⟩
theorem none_eq_declines_dict (l : Addr) (es : Array DictEntry) (n : Nat) (dd : Option Addr) (sl : Array (Option Value)) :
    Meets (Builtin.«NoneType.__eq__» ⟨[.none, .ref l], []⟩) (fun _ R s => s.heap.get? l = some { cls := .type "dict", dict := dd, data := .dict es n, slots := sl } ∧ R (.ok (.ret .notImplemented)) s) :=
  .of_wp fun prog w A R s h => by obtain ⟨hp, g, d, tk, os⟩ := s; obtain ⟨hl, h⟩ := h; wp_walk using wpAny_loadPart' hl, wpAny_load hl; exact ⟨_, rfl, h⟩
theorem dict_eq_declines_bool (l : Addr) (es : Array DictEntry) (n : Nat) (dd : Option Addr) (sl : Array (Option Value)) (b : Bool) :
    Meets (Builtin.«dict.__eq__» ⟨[.ref l, .bool b], []⟩) (fun _ R s => s.heap.get? l = some { cls := .type "dict", dict := dd, data := .dict es n, slots := sl } ∧ R (.ok (.ret .notImplemented)) s) :=
  .of_wp fun prog w A R s h => by obtain ⟨hp, g, d, tk, os⟩ := s; obtain ⟨hl, h⟩ := h; have f1 := sub_bool_dict; wp_walk using wpAny_loadPart' hl, wpAny_load hl; exact ⟨_, rfl, h⟩
theorem bool_eq_declines_dict (l : Addr) (es : Array DictEntry) (n : Nat) (dd : Option Addr) (sl : Array (Option Value)) (b : Bool) :
    Meets (Builtin.«int.__eq__» ⟨[.bool b, .ref l], []⟩) (fun _ R s => s.heap.get? l = some { cls := .type "dict", dict := dd, data := .dict es n, slots := sl } ∧ R (.ok (.ret .notImplemented)) s) :=
  .of_wp fun prog w A R s h => by obtain ⟨hp, g, d, tk, os⟩ := s; obtain ⟨hl, h⟩ := h; wp_walk using wpAny_loadPart' hl, wpAny_load hl; exact ⟨_, rfl, h⟩
theorem dict_eq_declines_int (l : Addr) (es : Array DictEntry) (n : Nat) (dd : Option Addr) (sl : Array (Option Value)) (b : Int) (u : Tok) :
    Meets (Builtin.«dict.__eq__» ⟨[.ref l, .int b u], []⟩) (fun _ R s => s.heap.get? l = some { cls := .type "dict", dict := dd, data := .dict es n, slots := sl } ∧ R (.ok (.ret .notImplemented)) s) :=
  .of_wp fun prog w A R s h => by obtain ⟨hp, g, d, tk, os⟩ := s; obtain ⟨hl, h⟩ := h; have f1 := sub_int_dict; wp_walk using wpAny_loadPart' hl, wpAny_load hl; exact ⟨_, rfl, h⟩
theorem int_eq_declines_dict (l : Addr) (es : Array DictEntry) (n : Nat) (dd : Option Addr) (sl : Array (Option Value)) (b : Int) (u : Tok) :
    Meets (Builtin.«int.__eq__» ⟨[.int b u, .ref l], []⟩) (fun _ R s => s.heap.get? l = some { cls := .type "dict", dict := dd, data := .dict es n, slots := sl } ∧ R (.ok (.ret .notImplemented)) s) :=
  .of_wp fun prog w A R s h => by obtain ⟨hp, g, d, tk, os⟩ := s; obtain ⟨hl, h⟩ := h; wp_walk using wpAny_loadPart' hl, wpAny_load hl; exact ⟨_, rfl, h⟩
theorem dict_eq_declines_str (l : Addr) (es : Array DictEntry) (n : Nat) (dd : Option Addr) (sl : Array (Option Value)) (b : Str) (u : Tok) :
    Meets (Builtin.«dict.__eq__» ⟨[.ref l, .str b u], []⟩) (fun _ R s => s.heap.get? l = some { cls := .type "dict", dict := dd, data := .dict es n, slots := sl } ∧ R (.ok (.ret .notImplemented)) s) :=
  .of_wp fun prog w A R s h => by obtain ⟨hp, g, d, tk, os⟩ := s; obtain ⟨hl, h⟩ := h; have f1 := sub_str_dict; wp_walk using wpAny_loadPart' hl, wpAny_load hl; exact ⟨_, rfl, h⟩
theorem str_eq_declines_dict (l : Addr) (es : Array DictEntry) (n : Nat) (dd : Option Addr) (sl : Array (Option Value)) (b : Str) (u : Tok) :
    Meets (Builtin.«str.__eq__» ⟨[.str b u, .ref l], []⟩) (fun _ R s => s.heap.get? l = some { cls := .type "dict", dict := dd, data := .dict es n, slots := sl } ∧ R (.ok (.ret .notImplemented)) s) :=
  .of_wp fun prog w A R s h => by obtain ⟨hp, g, d, tk, os⟩ := s; obtain ⟨hl, h⟩ := h; wp_walk using wpAny_loadPart' hl, wpAny_load hl; exact ⟨_, rfl, h⟩
theorem dict_eq_declines_list (l m : Addr) (es : Array DictEntry) (n n2 : Nat) (items : Array Value) (dd dd2 : Option Addr) (sl sl2 : Array (Option Value)) :
    Meets (Builtin.«dict.__eq__» ⟨[.ref l, .ref m], []⟩) (fun _ R s => s.heap.get? l = some { cls := .type "dict", dict := dd, data := .dict es n, slots := sl } ∧ s.heap.get? m = some { cls := .type "list", dict := dd2, data := .seq items n2, slots := sl2 } ∧ R (.ok (.ret .notImplemented)) s) :=
  .of_wp fun prog w A R s h => by obtain ⟨hp, g, d, tk, os⟩ := s; obtain ⟨hl, hb, h⟩ := h; have f1 := sub_list_dict; wp_walk using wpAny_loadPart' hl, wpAny_loadPart' hb; exact ⟨_, rfl, h⟩
theorem list_eq_declines_dict (l m : Addr) (es : Array DictEntry) (n n2 : Nat) (items : Array Value) (dd dd2 : Option Addr) (sl sl2 : Array (Option Value)) :
    Meets (Builtin.«list.__eq__» ⟨[.ref m, .ref l], []⟩) (fun _ R s => s.heap.get? l = some { cls := .type "dict", dict := dd, data := .dict es n, slots := sl } ∧ s.heap.get? m = some { cls := .type "list", dict := dd2, data := .seq items n2, slots := sl2 } ∧ R (.ok (.ret .notImplemented)) s) :=
  .of_wp fun prog w A R s h => by obtain ⟨hp, g, d, tk, os⟩ := s; obtain ⟨hl, hb, h⟩ := h; have f1 := sub_dict_list; wp_walk using wpAny_loadPart' hl, wpAny_loadPart' hb; exact ⟨_, rfl, h⟩
theorem dict_eq_declines_tuple (l m : Addr) (es : Array DictEntry) (n n2 : Nat) (items : Array Value) (dd dd2 : Option Addr) (sl sl2 : Array (Option Value)) :
    Meets (Builtin.«dict.__eq__» ⟨[.ref l, .ref m], []⟩) (fun _ R s => s.heap.get? l = some { cls := .type "dict", dict := dd, data := .dict es n, slots := sl } ∧ s.heap.get? m = some { cls := .type "tuple", dict := dd2, data := .seq items n2, slots := sl2 } ∧ R (.ok (.ret .notImplemented)) s) :=
  .of_wp fun prog w A R s h => by obtain ⟨hp, g, d, tk, os⟩ := s; obtain ⟨hl, hb, h⟩ := h; have f1 := sub_tuple_dict; wp_walk using wpAny_loadPart' hl, wpAny_loadPart' hb; exact ⟨_, rfl, h⟩
theorem tuple_eq_declines_dict (l m : Addr) (es : Array DictEntry) (n n2 : Nat) (items : Array Value) (dd dd2 : Option Addr) (sl sl2 : Array (Option Value)) :
    Meets (Builtin.«tuple.__eq__» ⟨[.ref m, .ref l], []⟩) (fun _ R s => s.heap.get? l = some { cls := .type "dict", dict := dd, data := .dict es n, slots := sl } ∧ s.heap.get? m = some { cls := .type "tuple", dict := dd2, data := .seq items n2, slots := sl2 } ∧ R (.ok (.ret .notImplemented)) s) :=
  .of_wp fun prog w A R s h => by obtain ⟨hp, g, d, tk, os⟩ := s; obtain ⟨hl, hb, h⟩ := h; have f1 := sub_dict_tuple; wp_walk using wpAny_loadPart' hl, wpAny_loadPart' hb; exact ⟨_, rfl, h⟩
theorem dict_ne_declines_none (l : Addr) (es : Array DictEntry) (n : Nat) (dd : Option Addr) (sl : Array (Option Value)) :
    Meets (Builtin.«dict.__ne__» ⟨[.ref l, .none], []⟩) (fun _ R s => s.heap.get? l = some { cls := .type "dict", dict := dd, data := .dict es n, slots := sl } ∧ R (.ok (.ret .notImplemented)) s) :=
  .of_wp fun prog w A R s h => by obtain ⟨hp, g, d, tk, os⟩ := s; obtain ⟨hl, h⟩ := h; have f1 := sub_NoneType_dict; wp_walk using wpAny_loadPart' hl, wpAny_load hl; exact ⟨_, rfl, h⟩
theorem none_ne_declines_dict (l : Addr) (es : Array DictEntry) (n : Nat) (dd : Option Addr) (sl : Array (Option Value)) :
    Meets (Builtin.«NoneType.__ne__» ⟨[.none, .ref l], []⟩) (fun _ R s => s.heap.get? l = some { cls := .type "dict", dict := dd, data := .dict es n, slots := sl } ∧ R (.ok (.ret .notImplemented)) s) :=
  .of_wp fun prog w A R s h => by obtain ⟨hp, g, d, tk, os⟩ := s; obtain ⟨hl, h⟩ := h; wp_walk using wpAny_loadPart' hl, wpAny_load hl; exact ⟨_, rfl, h⟩
theorem dict_ne_declines_bool (l : Addr) (es : Array DictEntry) (n : Nat) (dd : Option Addr) (sl : Array (Option Value)) (b : Bool) :
    Meets (Builtin.«dict.__ne__» ⟨[.ref l, .bool b], []⟩) (fun _ R s => s.heap.get? l = some { cls := .type "dict", dict := dd, data := .dict es n, slots := sl } ∧ R (.ok (.ret .notImplemented)) s) :=
  .of_wp fun prog w A R s h => by obtain ⟨hp, g, d, tk, os⟩ := s; obtain ⟨hl, h⟩ := h; have f1 := sub_bool_dict; wp_walk using wpAny_loadPart' hl, wpAny_load hl; exact ⟨_, rfl, h⟩
theorem bool_ne_declines_dict (l : Addr) (es : Array DictEntry) (n : Nat) (dd : Option Addr) (sl : Array (Option Value)) (b : Bool) :
    Meets (Builtin.«int.__ne__» ⟨[.bool b, .ref l], []⟩) (fun _ R s => s.heap.get? l = some { cls := .type "dict", dict := dd, data := .dict es n, slots := sl } ∧ R (.ok (.ret .notImplemented)) s) :=
  .of_wp fun prog w A R s h => by obtain ⟨hp, g, d, tk, os⟩ := s; obtain ⟨hl, h⟩ := h; wp_walk using wpAny_loadPart' hl, wpAny_load hl; exact ⟨_, rfl, h⟩
theorem dict_ne_declines_int (l : Addr) (es : Array DictEntry) (n : Nat) (dd : Option Addr) (sl : Array (Option Value)) (b : Int) (u : Tok) :
    Meets (Builtin.«dict.__ne__» ⟨[.ref l, .int b u], []⟩) (fun _ R s => s.heap.get? l = some { cls := .type "dict", dict := dd, data := .dict es n, slots := sl } ∧ R (.ok (.ret .notImplemented)) s) :=
  .of_wp fun prog w A R s h => by obtain ⟨hp, g, d, tk, os⟩ := s; obtain ⟨hl, h⟩ := h; have f1 := sub_int_dict; wp_walk using wpAny_loadPart' hl, wpAny_load hl; exact ⟨_, rfl, h⟩
theorem int_ne_declines_dict (l : Addr) (es : Array DictEntry) (n : Nat) (dd : Option Addr) (sl : Array (Option Value)) (b : Int) (u : Tok) :
    Meets (Builtin.«int.__ne__» ⟨[.int b u, .ref l], []⟩) (fun _ R s => s.heap.get? l = some { cls := .type "dict", dict := dd, data := .dict es n, slots := sl } ∧ R (.ok (.ret .notImplemented)) s) :=
  .of_wp fun prog w A R s h => by obtain ⟨hp, g, d, tk, os⟩ := s; obtain ⟨hl, h⟩ := h; wp_walk using wpAny_loadPart' hl, wpAny_load hl; exact ⟨_, rfl, h⟩
theorem dict_ne_declines_str (l : Addr) (es : Array DictEntry) (n : Nat) (dd : Option Addr) (sl : Array (Option Value)) (b : Str) (u : Tok) :
    Meets (Builtin.«dict.__ne__» ⟨[.ref l, .str b u], []⟩) (fun _ R s => s.heap.get? l = some { cls := .type "dict", dict := dd, data := .dict es n, slots := sl } ∧ R (.ok (.ret .notImplemented)) s) :=
  .of_wp fun prog w A R s h => by obtain ⟨hp, g, d, tk, os⟩ := s; obtain ⟨hl, h⟩ := h; have f1 := sub_str_dict; wp_walk using wpAny_loadPart' hl, wpAny_load hl; exact ⟨_, rfl, h⟩
theorem str_ne_declines_dict (l : Addr) (es : Array DictEntry) (n : Nat) (dd : Option Addr) (sl : Array (Option Value)) (b : Str) (u : Tok) :
    Meets (Builtin.«str.__ne__» ⟨[.str b u, .ref l], []⟩) (fun _ R s => s.heap.get? l = some { cls := .type "dict", dict := dd, data := .dict es n, slots := sl } ∧ R (.ok (.ret .notImplemented)) s) :=
  .of_wp fun prog w A R s h => by obtain ⟨hp, g, d, tk, os⟩ := s; obtain ⟨hl, h⟩ := h; wp_walk using wpAny_loadPart' hl, wpAny_load hl; exact ⟨_, rfl, h⟩
theorem dict_ne_declines_list (l m : Addr) (es : Array DictEntry) (n n2 : Nat) (items : Array Value) (dd dd2 : Option Addr) (sl sl2 : Array (Option Value)) :
    Meets (Builtin.«dict.__ne__» ⟨[.ref l, .ref m], []⟩) (fun _ R s => s.heap.get? l = some { cls := .type "dict", dict := dd, data := .dict es n, slots := sl } ∧ s.heap.get? m = some { cls := .type "list", dict := dd2, data := .seq items n2, slots := sl2 } ∧ R (.ok (.ret .notImplemented)) s) :=
  .of_wp fun prog w A R s h => by obtain ⟨hp, g, d, tk, os⟩ := s; obtain ⟨hl, hb, h⟩ := h; have f1 := sub_list_dict; wp_walk using wpAny_loadPart' hl, wpAny_loadPart' hb; exact ⟨_, rfl, h⟩
theorem list_ne_declines_dict (l m : Addr) (es : Array DictEntry) (n n2 : Nat) (items : Array Value) (dd dd2 : Option Addr) (sl sl2 : Array (Option Value)) :
    Meets (Builtin.«list.__ne__» ⟨[.ref m, .ref l], []⟩) (fun _ R s => s.heap.get? l = some { cls := .type "dict", dict := dd, data := .dict es n, slots := sl } ∧ s.heap.get? m = some { cls := .type "list", dict := dd2, data := .seq items n2, slots := sl2 } ∧ R (.ok (.ret .notImplemented)) s) :=
  .of_wp fun prog w A R s h => by obtain ⟨hp, g, d, tk, os⟩ := s; obtain ⟨hl, hb, h⟩ := h; have f1 := sub_dict_list; wp_walk using wpAny_loadPart' hl, wpAny_loadPart' hb; exact ⟨_, rfl, h⟩
theorem dict_ne_declines_tuple (l m : Addr) (es : Array DictEntry) (n n2 : Nat) (items : Array Value) (dd dd2 : Option Addr) (sl sl2 : Array (Option Value)) :
    Meets (Builtin.«dict.__ne__» ⟨[.ref l, .ref m], []⟩) (fun _ R s => s.heap.get? l = some { cls := .type "dict", dict := dd, data := .dict es n, slots := sl } ∧ s.heap.get? m = some { cls := .type "tuple", dict := dd2, data := .seq items n2, slots := sl2 } ∧ R (.ok (.ret .notImplemented)) s) :=
  .of_wp fun prog w A R s h => by obtain ⟨hp, g, d, tk, os⟩ := s; obtain ⟨hl, hb, h⟩ := h; have f1 := sub_tuple_dict; wp_walk using wpAny_loadPart' hl, wpAny_loadPart' hb; exact ⟨_, rfl, h⟩
theorem tuple_ne_declines_dict (l m : Addr) (es : Array DictEntry) (n n2 : Nat) (items : Array Value) (dd dd2 : Option Addr) (sl sl2 : Array (Option Value)) :
    Meets (Builtin.«tuple.__ne__» ⟨[.ref m, .ref l], []⟩) (fun _ R s => s.heap.get? l = some { cls := .type "dict", dict := dd, data := .dict es n, slots := sl } ∧ s.heap.get? m = some { cls := .type "tuple", dict := dd2, data := .seq items n2, slots := sl2 } ∧ R (.ok (.ret .notImplemented)) s) :=
  .of_wp fun prog w A R s h => by obtain ⟨hp, g, d, tk, os⟩ := s; obtain ⟨hl, hb, h⟩ := h; have f1 := sub_dict_tuple; wp_walk using wpAny_loadPart' hl, wpAny_loadPart' hb; exact ⟨_, rfl, h⟩
end DX
end PySem
namespace PySem.SeqAt
open PySem
def IsDc (s : Shared) (l : Addr) : Prop := ∃ dd es n sl, s.heap.get? l = some { cls := .type "dict", dict := dd, data := .dict es n, slots := sl }
section
variable {A : Around} {s : Shared}
theorem RcAt.dict_none {l : Addr} (hl : IsDc s l) (hu : A.units < cLine) : RcAt A s (.ref l) (.none) false := fun prog w E Q h => by
  obtain ⟨dd, es, n, sl, ho⟩ := hl
  exact rc_eq_decline_or (k := false) ⟨_, ho, rfl⟩ rfl (by decide) DX.sub_NoneType_dict F.slot_dict_eq F.slot_NoneType_eq_refl
    (fun _ hq => call_meets F.slot_dict_eq ⟨_, ho, rfl⟩ F.entry_dict_eq (F.args_dict_eq_2 _ _) (DX.dict_eq_declines_none l es n dd sl ) ⟨ho, hq⟩)
    (fun _ hq => call_meets F.slot_NoneType_eq_refl rfl F.entry_NoneType_eq (F.args_NoneType_eq_2 _ _) (DX.none_eq_declines_dict l es n dd sl ) ⟨ho, hq⟩)
    (fun _ hq => wpAny_of_eq (rfl : isSame (.ref l) (.none) = pure false) hq) (.inr hu) h
theorem RcAt.none_dict {l : Addr} (hl : IsDc s l) (hu : A.units < cLine) : RcAt A s (.none) (.ref l) false := fun prog w E Q h => by
  obtain ⟨dd, es, n, sl, ho⟩ := hl
  exact rc_eq_decline_or (k := false) rfl ⟨_, ho, rfl⟩ (by decide) DX.sub_dict_NoneType F.slot_NoneType_eq F.slot_dict_eq_refl
    (fun _ hq => call_meets F.slot_NoneType_eq rfl F.entry_NoneType_eq (F.args_NoneType_eq_2 _ _) (DX.none_eq_declines_dict l es n dd sl ) ⟨ho, hq⟩)
    (fun _ hq => call_meets F.slot_dict_eq_refl ⟨_, ho, rfl⟩ F.entry_dict_eq (F.args_dict_eq_2 _ _) (DX.dict_eq_declines_none l es n dd sl ) ⟨ho, hq⟩)
    (fun _ hq => wpAny_of_eq (rfl : isSame (.none) (.ref l) = pure false) hq) (.inr hu) h
theorem EqAt.dict_none {l : Addr} (hl : IsDc s l) (hu : A.units < cLine) : EqAt A s (.ref l) (.none) false := fun prog w E Q h => by
  unfold eqBool
  refine wpAny_holding ?_
  refine wpAny_ite_split (fun hab => absurd (eq_of_beq hab) nofun) (fun _ => ?_)
  exact wpAny_bind (RcAt.dict_none hl hu prog w E _ (wpAny_truthy_bool h))
theorem EqAt.none_dict {l : Addr} (hl : IsDc s l) (hu : A.units < cLine) : EqAt A s (.none) (.ref l) false := fun prog w E Q h => by
  unfold eqBool
  refine wpAny_holding ?_
  refine wpAny_ite_split (fun hab => absurd (eq_of_beq hab) nofun) (fun _ => ?_)
  exact wpAny_bind (RcAt.none_dict hl hu prog w E _ (wpAny_truthy_bool h))
theorem RcAt.dict_bool {l : Addr} (b : Bool) (hl : IsDc s l) (hu : A.units < cLine) : RcAt A s (.ref l) (.bool b) false := fun prog w E Q h => by
  obtain ⟨dd, es, n, sl, ho⟩ := hl
  exact rc_eq_decline_or (k := false) ⟨_, ho, rfl⟩ rfl (by decide) DX.sub_bool_dict F.slot_dict_eq F.slot_bool_eq_refl
    (fun _ hq => call_meets F.slot_dict_eq ⟨_, ho, rfl⟩ F.entry_dict_eq (F.args_dict_eq_2 _ _) (DX.dict_eq_declines_bool l es n dd sl b ) ⟨ho, hq⟩)
    (fun _ hq => call_meets F.slot_bool_eq_refl rfl F.entry_int_eq (F.args_int_eq_2 _ _) (DX.bool_eq_declines_dict l es n dd sl b ) ⟨ho, hq⟩)
    (fun _ hq => wpAny_of_eq (rfl : isSame (.ref l) (.bool b) = pure false) hq) (.inr hu) h
theorem RcAt.bool_dict {l : Addr} (b : Bool) (hl : IsDc s l) (hu : A.units < cLine) : RcAt A s (.bool b) (.ref l) false := fun prog w E Q h => by
  obtain ⟨dd, es, n, sl, ho⟩ := hl
  exact rc_eq_decline_or (k := false) rfl ⟨_, ho, rfl⟩ (by decide) DX.sub_dict_bool F.slot_bool_eq F.slot_dict_eq_refl
    (fun _ hq => call_meets F.slot_bool_eq rfl F.entry_int_eq (F.args_int_eq_2 _ _) (DX.bool_eq_declines_dict l es n dd sl b ) ⟨ho, hq⟩)
    (fun _ hq => call_meets F.slot_dict_eq_refl ⟨_, ho, rfl⟩ F.entry_dict_eq (F.args_dict_eq_2 _ _) (DX.dict_eq_declines_bool l es n dd sl b ) ⟨ho, hq⟩)
    (fun _ hq => wpAny_of_eq (rfl : isSame (.bool b) (.ref l) = pure false) hq) (.inr hu) h
theorem EqAt.dict_bool {l : Addr} (b : Bool) (hl : IsDc s l) (hu : A.units < cLine) : EqAt A s (.ref l) (.bool b) false := fun prog w E Q h => by
  unfold eqBool
  refine wpAny_holding ?_
  refine wpAny_ite_split (fun hab => absurd (eq_of_beq hab) nofun) (fun _ => ?_)
  exact wpAny_bind (RcAt.dict_bool b hl hu prog w E _ (wpAny_truthy_bool h))
theorem EqAt.bool_dict {l : Addr} (b : Bool) (hl : IsDc s l) (hu : A.units < cLine) : EqAt A s (.bool b) (.ref l) false := fun prog w E Q h => by
  unfold eqBool
  refine wpAny_holding ?_
  refine wpAny_ite_split (fun hab => absurd (eq_of_beq hab) nofun) (fun _ => ?_)
  exact wpAny_bind (RcAt.bool_dict b hl hu prog w E _ (wpAny_truthy_bool h))
theorem RcAt.dict_int {l : Addr} (b : Int) (u : Tok) (hl : IsDc s l) (hu : A.units < cLine) : RcAt A s (.ref l) (.int b u) false := fun prog w E Q h => by
  obtain ⟨dd, es, n, sl, ho⟩ := hl
  exact rc_eq_decline_or (k := false) ⟨_, ho, rfl⟩ (typeIs_int s b u) (by decide) DX.sub_int_dict F.slot_dict_eq F.slot_int_eq_refl
    (fun _ hq => call_meets F.slot_dict_eq ⟨_, ho, rfl⟩ F.entry_dict_eq (F.args_dict_eq_2 _ _) (DX.dict_eq_declines_int l es n dd sl b u ) ⟨ho, hq⟩)
    (fun _ hq => call_meets F.slot_int_eq_refl (typeIs_int s b u) F.entry_int_eq (F.args_int_eq_2 _ _) (DX.int_eq_declines_dict l es n dd sl b u ) ⟨ho, hq⟩)
    (fun _ hq => wpAny_of_eq (rfl : isSame (.ref l) (.int b u) = pure false) hq) (.inr hu) h
theorem RcAt.int_dict {l : Addr} (b : Int) (u : Tok) (hl : IsDc s l) (hu : A.units < cLine) : RcAt A s (.int b u) (.ref l) false := fun prog w E Q h => by
  obtain ⟨dd, es, n, sl, ho⟩ := hl
  exact rc_eq_decline_or (k := false) (typeIs_int s b u) ⟨_, ho, rfl⟩ (by decide) DX.sub_dict_int F.slot_int_eq F.slot_dict_eq_refl
    (fun _ hq => call_meets F.slot_int_eq (typeIs_int s b u) F.entry_int_eq (F.args_int_eq_2 _ _) (DX.int_eq_declines_dict l es n dd sl b u ) ⟨ho, hq⟩)
    (fun _ hq => call_meets F.slot_dict_eq_refl ⟨_, ho, rfl⟩ F.entry_dict_eq (F.args_dict_eq_2 _ _) (DX.dict_eq_declines_int l es n dd sl b u ) ⟨ho, hq⟩)
    (fun _ hq => wpAny_of_eq (rfl : isSame (.int b u) (.ref l) = pure false) hq) (.inr hu) h
theorem EqAt.dict_int {l : Addr} (b : Int) (u : Tok) (hl : IsDc s l) (hu : A.units < cLine) : EqAt A s (.ref l) (.int b u) false := fun prog w E Q h => by
  unfold eqBool
  refine wpAny_holding ?_
  refine wpAny_ite_split (fun hab => absurd (eq_of_beq hab) nofun) (fun _ => ?_)
  exact wpAny_bind (RcAt.dict_int b u hl hu prog w E _ (wpAny_truthy_bool h))
theorem EqAt.int_dict {l : Addr} (b : Int) (u : Tok) (hl : IsDc s l) (hu : A.units < cLine) : EqAt A s (.int b u) (.ref l) false := fun prog w E Q h => by
  unfold eqBool
  refine wpAny_holding ?_
  refine wpAny_ite_split (fun hab => absurd (eq_of_beq hab) nofun) (fun _ => ?_)
  exact wpAny_bind (RcAt.int_dict b u hl hu prog w E _ (wpAny_truthy_bool h))
theorem RcAt.dict_str {l : Addr} (b : Str) (u : Tok) (hl : IsDc s l) (hu : A.units < cLine) : RcAt A s (.ref l) (.str b u) false := fun prog w E Q h => by
  obtain ⟨dd, es, n, sl, ho⟩ := hl
  exact rc_eq_decline_or (k := false) ⟨_, ho, rfl⟩ (typeIs_str s b u) (by decide) DX.sub_str_dict F.slot_dict_eq F.slot_str_eq_refl
    (fun _ hq => call_meets F.slot_dict_eq ⟨_, ho, rfl⟩ F.entry_dict_eq (F.args_dict_eq_2 _ _) (DX.dict_eq_declines_str l es n dd sl b u ) ⟨ho, hq⟩)
    (fun _ hq => call_meets F.slot_str_eq_refl (typeIs_str s b u) F.entry_str_eq (F.args_str_eq_2 _ _) (DX.str_eq_declines_dict l es n dd sl b u ) ⟨ho, hq⟩)
    (fun _ hq => wpAny_of_eq (rfl : isSame (.ref l) (.str b u) = pure false) hq) (.inr hu) h
theorem RcAt.str_dict {l : Addr} (b : Str) (u : Tok) (hl : IsDc s l) (hu : A.units < cLine) : RcAt A s (.str b u) (.ref l) false := fun prog w E Q h => by
  obtain ⟨dd, es, n, sl, ho⟩ := hl
  exact rc_eq_decline_or (k := false) (typeIs_str s b u) ⟨_, ho, rfl⟩ (by decide) DX.sub_dict_str F.slot_str_eq F.slot_dict_eq_refl
    (fun _ hq => call_meets F.slot_str_eq (typeIs_str s b u) F.entry_str_eq (F.args_str_eq_2 _ _) (DX.str_eq_declines_dict l es n dd sl b u ) ⟨ho, hq⟩)
    (fun _ hq => call_meets F.slot_dict_eq_refl ⟨_, ho, rfl⟩ F.entry_dict_eq (F.args_dict_eq_2 _ _) (DX.dict_eq_declines_str l es n dd sl b u ) ⟨ho, hq⟩)
    (fun _ hq => wpAny_of_eq (rfl : isSame (.str b u) (.ref l) = pure false) hq) (.inr hu) h
theorem EqAt.dict_str {l : Addr} (b : Str) (u : Tok) (hl : IsDc s l) (hu : A.units < cLine) : EqAt A s (.ref l) (.str b u) false := fun prog w E Q h => by
  unfold eqBool
  refine wpAny_holding ?_
  refine wpAny_ite_split (fun hab => absurd (eq_of_beq hab) nofun) (fun _ => ?_)
  exact wpAny_bind (RcAt.dict_str b u hl hu prog w E _ (wpAny_truthy_bool h))
theorem EqAt.str_dict {l : Addr} (b : Str) (u : Tok) (hl : IsDc s l) (hu : A.units < cLine) : EqAt A s (.str b u) (.ref l) false := fun prog w E Q h => by
  unfold eqBool
  refine wpAny_holding ?_
  refine wpAny_ite_split (fun hab => absurd (eq_of_beq hab) nofun) (fun _ => ?_)
  exact wpAny_bind (RcAt.str_dict b u hl hu prog w E _ (wpAny_truthy_bool h))
theorem RcAt.dict_list {l m : Addr} {items : Array Value} (hl : IsDc s l) (hm : s.heap.IsList m items) (hu : A.units < cLine) : RcAt A s (.ref l) (.ref m) false := fun prog w E Q h => by
  obtain ⟨dd, es, n, sl, ho⟩ := hl
  obtain ⟨⟨cls2, dd2, data2, sl2⟩, ho2, hc2, n2, hd2⟩ := id hm
  simp only at hc2 hd2
  subst hc2 hd2
  have hne : l ≠ m := fun e => by
    subst e
    rw [ho] at ho2
    exact absurd (congrArg Obj.cls (Option.some.inj ho2)) (by show Value.type "dict" ≠ .type "list"; decide +kernel)
  exact (rc_eq_decline_or (k := false) ⟨_, ho, rfl⟩ ⟨_, ho2, rfl⟩ (by decide) DX.sub_list_dict F.slot_dict_eq F.slot_list_eq_refl
    (fun _ hq => call_meets F.slot_dict_eq ⟨_, ho, rfl⟩ F.entry_dict_eq (F.args_dict_eq_2 _ _) (DX.dict_eq_declines_list l m es n n2 items dd dd2 sl sl2) ⟨ho, ho2, hq⟩)
    (fun _ hq => call_meets F.slot_list_eq_refl ⟨_, ho2, rfl⟩ F.entry_list_eq (F.args_list_eq_2 _ _) (DX.list_eq_declines_dict l m es n n2 items dd dd2 sl sl2) ⟨ho, ho2, hq⟩)
    (fun _ hq => wpAny_isSame_ref_other hne ho ho2 (by simp) hq) (.inr hu) h)
theorem RcAt.list_dict {l m : Addr} {items : Array Value} (hm : s.heap.IsList m items) (hl : IsDc s l) (hu : A.units < cLine) : RcAt A s (.ref m) (.ref l) false := fun prog w E Q h => by
  obtain ⟨dd, es, n, sl, ho⟩ := hl
  obtain ⟨⟨cls2, dd2, data2, sl2⟩, ho2, hc2, n2, hd2⟩ := id hm
  simp only at hc2 hd2
  subst hc2 hd2
  have hne : l ≠ m := fun e => by
    subst e
    rw [ho] at ho2
    exact absurd (congrArg Obj.cls (Option.some.inj ho2)) (by show Value.type "dict" ≠ .type "list"; decide +kernel)
  exact (rc_eq_decline_or (k := false) ⟨_, ho2, rfl⟩ ⟨_, ho, rfl⟩ (by decide) DX.sub_dict_list F.slot_list_eq F.slot_dict_eq_refl
    (fun _ hq => call_meets F.slot_list_eq ⟨_, ho2, rfl⟩ F.entry_list_eq (F.args_list_eq_2 _ _) (DX.list_eq_declines_dict l m es n n2 items dd dd2 sl sl2) ⟨ho, ho2, hq⟩)
    (fun _ hq => call_meets F.slot_dict_eq_refl ⟨_, ho, rfl⟩ F.entry_dict_eq (F.args_dict_eq_2 _ _) (DX.dict_eq_declines_list l m es n n2 items dd dd2 sl sl2) ⟨ho, ho2, hq⟩)
    (fun _ hq => wpAny_isSame_ref_other' hne.symm ho2 ho (by simp) hq) (.inr hu) h)
theorem EqAt.dict_list {l m : Addr} {items : Array Value} (hl : IsDc s l) (hm : s.heap.IsList m items) (hu : A.units < cLine) : EqAt A s (.ref l) (.ref m) false :=
  .of_refs (fun e => by
    obtain ⟨dd, es, n, sl, ho⟩ := hl
    obtain ⟨⟨cls2, dd2, data2, sl2⟩, ho2, hc2, n2, hd2⟩ := id hm
    simp only at hc2 hd2
    subst hc2 hd2 e
    rw [ho] at ho2
    exact absurd (congrArg Obj.cls (Option.some.inj ho2)) (by show Value.type "dict" ≠ .type "list"; decide +kernel)) (.dict_list hl hm hu)
theorem EqAt.list_dict {l m : Addr} {items : Array Value} (hm : s.heap.IsList m items) (hl : IsDc s l) (hu : A.units < cLine) : EqAt A s (.ref m) (.ref l) false :=
  .of_refs (fun e => by
    obtain ⟨dd, es, n, sl, ho⟩ := hl
    obtain ⟨⟨cls2, dd2, data2, sl2⟩, ho2, hc2, n2, hd2⟩ := id hm
    simp only at hc2 hd2
    subst hc2 hd2 e
    rw [ho] at ho2
    exact absurd (congrArg Obj.cls (Option.some.inj ho2)) (by show Value.type "dict" ≠ .type "list"; decide +kernel)) (.list_dict hm hl hu)
theorem RcAt.dict_tuple {l m : Addr} {items : Array Value} (hl : IsDc s l) (hm : s.heap.IsTuple m items) (hu : A.units < cLine) : RcAt A s (.ref l) (.ref m) false := fun prog w E Q h => by
  obtain ⟨dd, es, n, sl, ho⟩ := hl
  obtain ⟨⟨cls2, dd2, data2, sl2⟩, ho2, hc2, n2, hd2⟩ := id hm
  simp only at hc2 hd2
  subst hc2 hd2
  have hne : l ≠ m := fun e => by
    subst e
    rw [ho] at ho2
    exact absurd (congrArg Obj.cls (Option.some.inj ho2)) (by show Value.type "dict" ≠ .type "tuple"; decide +kernel)
  exact (rc_eq_decline_or (k := false) ⟨_, ho, rfl⟩ ⟨_, ho2, rfl⟩ (by decide) DX.sub_tuple_dict F.slot_dict_eq F.slot_tuple_eq_refl
    (fun _ hq => call_meets F.slot_dict_eq ⟨_, ho, rfl⟩ F.entry_dict_eq (F.args_dict_eq_2 _ _) (DX.dict_eq_declines_tuple l m es n n2 items dd dd2 sl sl2) ⟨ho, ho2, hq⟩)
    (fun _ hq => call_meets F.slot_tuple_eq_refl ⟨_, ho2, rfl⟩ F.entry_tuple_eq (F.args_tuple_eq_2 _ _) (DX.tuple_eq_declines_dict l m es n n2 items dd dd2 sl sl2) ⟨ho, ho2, hq⟩)
    (fun _ hq => wpAny_isSame_ref_other hne ho ho2 (by simp) hq) (.inr hu) h)
theorem RcAt.tuple_dict {l m : Addr} {items : Array Value} (hm : s.heap.IsTuple m items) (hl : IsDc s l) (hu : A.units < cLine) : RcAt A s (.ref m) (.ref l) false := fun prog w E Q h => by
  obtain ⟨dd, es, n, sl, ho⟩ := hl
  obtain ⟨⟨cls2, dd2, data2, sl2⟩, ho2, hc2, n2, hd2⟩ := id hm
  simp only at hc2 hd2
  subst hc2 hd2
  have hne : l ≠ m := fun e => by
    subst e
    rw [ho] at ho2
    exact absurd (congrArg Obj.cls (Option.some.inj ho2)) (by show Value.type "dict" ≠ .type "tuple"; decide +kernel)
  exact (rc_eq_decline_or (k := false) ⟨_, ho2, rfl⟩ ⟨_, ho, rfl⟩ (by decide) DX.sub_dict_tuple F.slot_tuple_eq F.slot_dict_eq_refl
    (fun _ hq => call_meets F.slot_tuple_eq ⟨_, ho2, rfl⟩ F.entry_tuple_eq (F.args_tuple_eq_2 _ _) (DX.tuple_eq_declines_dict l m es n n2 items dd dd2 sl sl2) ⟨ho, ho2, hq⟩)
    (fun _ hq => call_meets F.slot_dict_eq_refl ⟨_, ho, rfl⟩ F.entry_dict_eq (F.args_dict_eq_2 _ _) (DX.dict_eq_declines_tuple l m es n n2 items dd dd2 sl sl2) ⟨ho, ho2, hq⟩)
    (fun _ hq => wpAny_isSame_ref_other' hne.symm ho2 ho (by simp) hq) (.inr hu) h)
theorem EqAt.dict_tuple {l m : Addr} {items : Array Value} (hl : IsDc s l) (hm : s.heap.IsTuple m items) (hu : A.units < cLine) : EqAt A s (.ref l) (.ref m) false :=
  .of_refs (fun e => by
    obtain ⟨dd, es, n, sl, ho⟩ := hl
    obtain ⟨⟨cls2, dd2, data2, sl2⟩, ho2, hc2, n2, hd2⟩ := id hm
    simp only at hc2 hd2
    subst hc2 hd2 e
    rw [ho] at ho2
    exact absurd (congrArg Obj.cls (Option.some.inj ho2)) (by show Value.type "dict" ≠ .type "tuple"; decide +kernel)) (.dict_tuple hl hm hu)
theorem EqAt.tuple_dict {l m : Addr} {items : Array Value} (hm : s.heap.IsTuple m items) (hl : IsDc s l) (hu : A.units < cLine) : EqAt A s (.ref m) (.ref l) false :=
  .of_refs (fun e => by
    obtain ⟨dd, es, n, sl, ho⟩ := hl
    obtain ⟨⟨cls2, dd2, data2, sl2⟩, ho2, hc2, n2, hd2⟩ := id hm
    simp only at hc2 hd2
    subst hc2 hd2 e
    rw [ho] at ho2
    exact absurd (congrArg Obj.cls (Option.some.inj ho2)) (by show Value.type "dict" ≠ .type "tuple"; decide +kernel)) (.tuple_dict hm hl hu)
theorem RcNeAt.dict_none {l : Addr} (hl : IsDc s l) (hu : A.units < cLine) : RcNeAt A s (.ref l) (.none) true := fun prog w E Q h => by
  obtain ⟨dd, es, n, sl, ho⟩ := hl
  exact rc_ne_decline_or (k := false) ⟨_, ho, rfl⟩ rfl (by decide) DX.sub_NoneType_dict F.slot_dict_ne F.slot_NoneType_ne_refl
    (fun _ hq => call_meets F.slot_dict_ne ⟨_, ho, rfl⟩ F.entry_dict_ne (F.args_dict_ne_2 _ _) (DX.dict_ne_declines_none l es n dd sl ) ⟨ho, hq⟩)
    (fun _ hq => call_meets F.slot_NoneType_ne_refl rfl F.entry_NoneType_ne (F.args_NoneType_ne_2 _ _) (DX.none_ne_declines_dict l es n dd sl ) ⟨ho, hq⟩)
    (fun _ hq => wpAny_of_eq (rfl : isSame (.ref l) (.none) = pure false) hq) (.inr hu) h
theorem RcNeAt.none_dict {l : Addr} (hl : IsDc s l) (hu : A.units < cLine) : RcNeAt A s (.none) (.ref l) true := fun prog w E Q h => by
  obtain ⟨dd, es, n, sl, ho⟩ := hl
  exact rc_ne_decline_or (k := false) rfl ⟨_, ho, rfl⟩ (by decide) DX.sub_dict_NoneType F.slot_NoneType_ne F.slot_dict_ne_refl
    (fun _ hq => call_meets F.slot_NoneType_ne rfl F.entry_NoneType_ne (F.args_NoneType_ne_2 _ _) (DX.none_ne_declines_dict l es n dd sl ) ⟨ho, hq⟩)
    (fun _ hq => call_meets F.slot_dict_ne_refl ⟨_, ho, rfl⟩ F.entry_dict_ne (F.args_dict_ne_2 _ _) (DX.dict_ne_declines_none l es n dd sl ) ⟨ho, hq⟩)
    (fun _ hq => wpAny_of_eq (rfl : isSame (.none) (.ref l) = pure false) hq) (.inr hu) h
theorem RcNeAt.dict_bool {l : Addr} (b : Bool) (hl : IsDc s l) (hu : A.units < cLine) : RcNeAt A s (.ref l) (.bool b) true := fun prog w E Q h => by
  obtain ⟨dd, es, n, sl, ho⟩ := hl
  exact rc_ne_decline_or (k := false) ⟨_, ho, rfl⟩ rfl (by decide) DX.sub_bool_dict F.slot_dict_ne F.slot_bool_ne_refl
    (fun _ hq => call_meets F.slot_dict_ne ⟨_, ho, rfl⟩ F.entry_dict_ne (F.args_dict_ne_2 _ _) (DX.dict_ne_declines_bool l es n dd sl b ) ⟨ho, hq⟩)
    (fun _ hq => call_meets F.slot_bool_ne_refl rfl F.entry_int_ne (F.args_int_ne_2 _ _) (DX.bool_ne_declines_dict l es n dd sl b ) ⟨ho, hq⟩)
    (fun _ hq => wpAny_of_eq (rfl : isSame (.ref l) (.bool b) = pure false) hq) (.inr hu) h
theorem RcNeAt.bool_dict {l : Addr} (b : Bool) (hl : IsDc s l) (hu : A.units < cLine) : RcNeAt A s (.bool b) (.ref l) true := fun prog w E Q h => by
  obtain ⟨dd, es, n, sl, ho⟩ := hl
  exact rc_ne_decline_or (k := false) rfl ⟨_, ho, rfl⟩ (by decide) DX.sub_dict_bool F.slot_bool_ne F.slot_dict_ne_refl
    (fun _ hq => call_meets F.slot_bool_ne rfl F.entry_int_ne (F.args_int_ne_2 _ _) (DX.bool_ne_declines_dict l es n dd sl b ) ⟨ho, hq⟩)
    (fun _ hq => call_meets F.slot_dict_ne_refl ⟨_, ho, rfl⟩ F.entry_dict_ne (F.args_dict_ne_2 _ _) (DX.dict_ne_declines_bool l es n dd sl b ) ⟨ho, hq⟩)
    (fun _ hq => wpAny_of_eq (rfl : isSame (.bool b) (.ref l) = pure false) hq) (.inr hu) h
theorem RcNeAt.dict_int {l : Addr} (b : Int) (u : Tok) (hl : IsDc s l) (hu : A.units < cLine) : RcNeAt A s (.ref l) (.int b u) true := fun prog w E Q h => by
  obtain ⟨dd, es, n, sl, ho⟩ := hl
  exact rc_ne_decline_or (k := false) ⟨_, ho, rfl⟩ (typeIs_int s b u) (by decide) DX.sub_int_dict F.slot_dict_ne F.slot_int_ne_refl
    (fun _ hq => call_meets F.slot_dict_ne ⟨_, ho, rfl⟩ F.entry_dict_ne (F.args_dict_ne_2 _ _) (DX.dict_ne_declines_int l es n dd sl b u ) ⟨ho, hq⟩)
    (fun _ hq => call_meets F.slot_int_ne_refl (typeIs_int s b u) F.entry_int_ne (F.args_int_ne_2 _ _) (DX.int_ne_declines_dict l es n dd sl b u ) ⟨ho, hq⟩)
    (fun _ hq => wpAny_of_eq (rfl : isSame (.ref l) (.int b u) = pure false) hq) (.inr hu) h
theorem RcNeAt.int_dict {l : Addr} (b : Int) (u : Tok) (hl : IsDc s l) (hu : A.units < cLine) : RcNeAt A s (.int b u) (.ref l) true := fun prog w E Q h => by
  obtain ⟨dd, es, n, sl, ho⟩ := hl
  exact rc_ne_decline_or (k := false) (typeIs_int s b u) ⟨_, ho, rfl⟩ (by decide) DX.sub_dict_int F.slot_int_ne F.slot_dict_ne_refl
    (fun _ hq => call_meets F.slot_int_ne (typeIs_int s b u) F.entry_int_ne (F.args_int_ne_2 _ _) (DX.int_ne_declines_dict l es n dd sl b u ) ⟨ho, hq⟩)
    (fun _ hq => call_meets F.slot_dict_ne_refl ⟨_, ho, rfl⟩ F.entry_dict_ne (F.args_dict_ne_2 _ _) (DX.dict_ne_declines_int l es n dd sl b u ) ⟨ho, hq⟩)
    (fun _ hq => wpAny_of_eq (rfl : isSame (.int b u) (.ref l) = pure false) hq) (.inr hu) h
theorem RcNeAt.dict_str {l : Addr} (b : Str) (u : Tok) (hl : IsDc s l) (hu : A.units < cLine) : RcNeAt A s (.ref l) (.str b u) true := fun prog w E Q h => by
  obtain ⟨dd, es, n, sl, ho⟩ := hl
  exact rc_ne_decline_or (k := false) ⟨_, ho, rfl⟩ (typeIs_str s b u) (by decide) DX.sub_str_dict F.slot_dict_ne F.slot_str_ne_refl
    (fun _ hq => call_meets F.slot_dict_ne ⟨_, ho, rfl⟩ F.entry_dict_ne (F.args_dict_ne_2 _ _) (DX.dict_ne_declines_str l es n dd sl b u ) ⟨ho, hq⟩)
    (fun _ hq => call_meets F.slot_str_ne_refl (typeIs_str s b u) F.entry_str_ne (F.args_str_ne_2 _ _) (DX.str_ne_declines_dict l es n dd sl b u ) ⟨ho, hq⟩)
    (fun _ hq => wpAny_of_eq (rfl : isSame (.ref l) (.str b u) = pure false) hq) (.inr hu) h
theorem RcNeAt.str_dict {l : Addr} (b : Str) (u : Tok) (hl : IsDc s l) (hu : A.units < cLine) : RcNeAt A s (.str b u) (.ref l) true := fun prog w E Q h => by
  obtain ⟨dd, es, n, sl, ho⟩ := hl
  exact rc_ne_decline_or (k := false) (typeIs_str s b u) ⟨_, ho, rfl⟩ (by decide) DX.sub_dict_str F.slot_str_ne F.slot_dict_ne_refl
    (fun _ hq => call_meets F.slot_str_ne (typeIs_str s b u) F.entry_str_ne (F.args_str_ne_2 _ _) (DX.str_ne_declines_dict l es n dd sl b u ) ⟨ho, hq⟩)
    (fun _ hq => call_meets F.slot_dict_ne_refl ⟨_, ho, rfl⟩ F.entry_dict_ne (F.args_dict_ne_2 _ _) (DX.dict_ne_declines_str l es n dd sl b u ) ⟨ho, hq⟩)
    (fun _ hq => wpAny_of_eq (rfl : isSame (.str b u) (.ref l) = pure false) hq) (.inr hu) h
theorem RcNeAt.dict_list {l m : Addr} {items : Array Value} (hl : IsDc s l) (hm : s.heap.IsList m items) (hu : A.units < cLine) : RcNeAt A s (.ref l) (.ref m) true := fun prog w E Q h => by
  obtain ⟨dd, es, n, sl, ho⟩ := hl
  obtain ⟨⟨cls2, dd2, data2, sl2⟩, ho2, hc2, n2, hd2⟩ := id hm
  simp only at hc2 hd2
  subst hc2 hd2
  have hne : l ≠ m := fun e => by
    subst e
    rw [ho] at ho2
    exact absurd (congrArg Obj.cls (Option.some.inj ho2)) (by show Value.type "dict" ≠ .type "list"; decide +kernel)
  exact (rc_ne_decline_or (k := false) ⟨_, ho, rfl⟩ ⟨_, ho2, rfl⟩ (by decide) DX.sub_list_dict F.slot_dict_ne F.slot_list_ne_refl
    (fun _ hq => call_meets F.slot_dict_ne ⟨_, ho, rfl⟩ F.entry_dict_ne (F.args_dict_ne_2 _ _) (DX.dict_ne_declines_list l m es n n2 items dd dd2 sl sl2) ⟨ho, ho2, hq⟩)
    (fun _ hq => call_meets F.slot_list_ne_refl ⟨_, ho2, rfl⟩ F.entry_list_ne (F.args_list_ne_2 _ _) (DX.list_ne_declines_dict l m es n n2 items dd dd2 sl sl2) ⟨ho, ho2, hq⟩)
    (fun _ hq => wpAny_isSame_ref_other hne ho ho2 (by simp) hq) (.inr hu) h)
theorem RcNeAt.list_dict {l m : Addr} {items : Array Value} (hm : s.heap.IsList m items) (hl : IsDc s l) (hu : A.units < cLine) : RcNeAt A s (.ref m) (.ref l) true := fun prog w E Q h => by
  obtain ⟨dd, es, n, sl, ho⟩ := hl
  obtain ⟨⟨cls2, dd2, data2, sl2⟩, ho2, hc2, n2, hd2⟩ := id hm
  simp only at hc2 hd2
  subst hc2 hd2
  have hne : l ≠ m := fun e => by
    subst e
    rw [ho] at ho2
    exact absurd (congrArg Obj.cls (Option.some.inj ho2)) (by show Value.type "dict" ≠ .type "list"; decide +kernel)
  exact (rc_ne_decline_or (k := false) ⟨_, ho2, rfl⟩ ⟨_, ho, rfl⟩ (by decide) DX.sub_dict_list F.slot_list_ne F.slot_dict_ne_refl
    (fun _ hq => call_meets F.slot_list_ne ⟨_, ho2, rfl⟩ F.entry_list_ne (F.args_list_ne_2 _ _) (DX.list_ne_declines_dict l m es n n2 items dd dd2 sl sl2) ⟨ho, ho2, hq⟩)
    (fun _ hq => call_meets F.slot_dict_ne_refl ⟨_, ho, rfl⟩ F.entry_dict_ne (F.args_dict_ne_2 _ _) (DX.dict_ne_declines_list l m es n n2 items dd dd2 sl sl2) ⟨ho, ho2, hq⟩)
    (fun _ hq => wpAny_isSame_ref_other' hne.symm ho2 ho (by simp) hq) (.inr hu) h)
theorem RcNeAt.dict_tuple {l m : Addr} {items : Array Value} (hl : IsDc s l) (hm : s.heap.IsTuple m items) (hu : A.units < cLine) : RcNeAt A s (.ref l) (.ref m) true := fun prog w E Q h => by
  obtain ⟨dd, es, n, sl, ho⟩ := hl
  obtain ⟨⟨cls2, dd2, data2, sl2⟩, ho2, hc2, n2, hd2⟩ := id hm
  simp only at hc2 hd2
  subst hc2 hd2
  have hne : l ≠ m := fun e => by
    subst e
    rw [ho] at ho2
    exact absurd (congrArg Obj.cls (Option.some.inj ho2)) (by show Value.type "dict" ≠ .type "tuple"; decide +kernel)
  exact (rc_ne_decline_or (k := false) ⟨_, ho, rfl⟩ ⟨_, ho2, rfl⟩ (by decide) DX.sub_tuple_dict F.slot_dict_ne F.slot_tuple_ne_refl
    (fun _ hq => call_meets F.slot_dict_ne ⟨_, ho, rfl⟩ F.entry_dict_ne (F.args_dict_ne_2 _ _) (DX.dict_ne_declines_tuple l m es n n2 items dd dd2 sl sl2) ⟨ho, ho2, hq⟩)
    (fun _ hq => call_meets F.slot_tuple_ne_refl ⟨_, ho2, rfl⟩ F.entry_tuple_ne (F.args_tuple_ne_2 _ _) (DX.tuple_ne_declines_dict l m es n n2 items dd dd2 sl sl2) ⟨ho, ho2, hq⟩)
    (fun _ hq => wpAny_isSame_ref_other hne ho ho2 (by simp) hq) (.inr hu) h)
theorem RcNeAt.tuple_dict {l m : Addr} {items : Array Value} (hm : s.heap.IsTuple m items) (hl : IsDc s l) (hu : A.units < cLine) : RcNeAt A s (.ref m) (.ref l) true := fun prog w E Q h => by
  obtain ⟨dd, es, n, sl, ho⟩ := hl
  obtain ⟨⟨cls2, dd2, data2, sl2⟩, ho2, hc2, n2, hd2⟩ := id hm
  simp only at hc2 hd2
  subst hc2 hd2
  have hne : l ≠ m := fun e => by
    subst e
    rw [ho] at ho2
    exact absurd (congrArg Obj.cls (Option.some.inj ho2)) (by show Value.type "dict" ≠ .type "tuple"; decide +kernel)
  exact (rc_ne_decline_or (k := false) ⟨_, ho2, rfl⟩ ⟨_, ho, rfl⟩ (by decide) DX.sub_dict_tuple F.slot_tuple_ne F.slot_dict_ne_refl
    (fun _ hq => call_meets F.slot_tuple_ne ⟨_, ho2, rfl⟩ F.entry_tuple_ne (F.args_tuple_ne_2 _ _) (DX.tuple_ne_declines_dict l m es n n2 items dd dd2 sl sl2) ⟨ho, ho2, hq⟩)
    (fun _ hq => call_meets F.slot_dict_ne_refl ⟨_, ho, rfl⟩ F.entry_dict_ne (F.args_dict_ne_2 _ _) (DX.dict_ne_declines_tuple l m es n n2 items dd dd2 sl sl2) ⟨ho, ho2, hq⟩)
    (fun _ hq => wpAny_isSame_ref_other' hne.symm ho2 ho (by simp) hq) (.inr hu) h)
end
end PySem.SeqAt
namespace DL
open PySem PySem.Spec PyProof.Rows L2

theorem RepL.deep {G : Gx} {S H : Hp} (s : Sub S H) {ds : List D} {vs : List V} (h : RepL G S ds vs) : RepL G H ds vs := h.mono s
theorem Rep1.deep {G : Gx} {S H : Hp} (s : Sub S H) {d : D} {v : V} (h : Rep1 G S H d v) : Rep G H d v := by
  cases d with
  | lst ds => obtain ⟨a, vs, e, q, r⟩ := h; simp only [Rep]; exact ⟨a, vs, e, q, r.mono s⟩
  | dK ds => obtain ⟨a, vs, e, q, r⟩ := h; simp only [Rep]; exact ⟨a, vs, e, q, RepK.mono s _ _ r⟩
  | dT ds => obtain ⟨a, vs, e, q, r⟩ := h; simp only [Rep]; exact ⟨a, vs, e, q, RepT.mono s _ _ r⟩
  | obj c ds => obtain ⟨a, C, dx, vs, e, q, q2, g, r⟩ := h; simp only [Rep]; exact ⟨a, C, dx, vs, e, q, q2, g, RepF.mono s _ _ r⟩
  | _ => exact Rep.mono s _ _ h

/-- the answer for the j-th pair -/
def pairB (ds es : List D) (j : Nat) : Bool := (eqD (ds.getD j .non) (es.getD j .non)).getD false
theorem eqZ_cons {x y : D} {xs ys : List D} {r : Bool} (h : eqZ (x :: xs) (y :: ys) = some r) : ∃ a b, eqD x y = some a ∧ eqZ xs ys = some b ∧ r = (a && b) := by
  simp only [eqZ] at h
  cases e : eqD x y with
  | none => rw [e] at h; cases h
  | some a =>
    rw [e] at h
    dsimp only at h
    cases e2 : eqZ xs ys with
    | none => rw [e2] at h; cases h
    | some b => rw [e2] at h; cases h; exact ⟨a, b, rfl, rfl, rfl⟩
theorem all_range_succ (f : Nat → Bool) (n : Nat) : (List.range (n + 1)).all f = (f 0 && (List.range n).all fun j => f (j + 1)) := by
  rw [List.range_succ_eq_map, List.all_cons, List.all_map]
  rfl
theorem eqZ_all : ∀ {ds es : List D} {r : Bool}, eqZ ds es = some r → r = (List.range (min ds.length es.length)).all (pairB ds es) ∧ ∀ j d e, ds[j]? = some d → es[j]? = some e → eqD d e = some (pairB ds es j)
  | [], es, r, h => by
    simp only [eqZ] at h
    cases h
    exact ⟨by simp, fun j d e h1 _ => by simp at h1⟩
  | x :: xs, [], r, h => by
    simp only [eqZ] at h
    cases h
    exact ⟨by simp, fun j d e _ h1 => by simp at h1⟩
  | x :: xs, y :: ys, r, h => by
    obtain ⟨a, b, h1, h2, rfl⟩ := eqZ_cons h
    obtain ⟨i1, i2⟩ := eqZ_all h2
    have e0 : pairB (x :: xs) (y :: ys) 0 = a := by simp [pairB, h1]
    have es : ∀ j, pairB (x :: xs) (y :: ys) (j + 1) = pairB xs ys j := fun j => by simp [pairB]
    refine ⟨?_, fun j d e g1 g2 => ?_⟩
    · rw [List.length_cons, List.length_cons, Nat.succ_min_succ, all_range_succ, e0, i1]
      congr 1
    · cases j with
      | zero =>
        simp at g1 g2
        subst g1 g2
        rw [e0, h1]
      | succ j =>
        rw [es]
        exact i2 j d e (by simpa using g1) (by simpa using g2)

section
variable {X : Cx} {pins : List (Addr × Obj)} {σ : St} {H : Hp} {s : Shared} {G : Gx}
theorem dc_of (I : Inv X pins σ H s) {a : Addr} : (∀ {ws : List (Key × V)}, H a = some (.dK ws) → SeqAt.IsDc s a) ∧ (∀ {ws : List (List Key × V)}, H a = some (.dT ws) → SeqAt.IsDc s a) := by
  refine ⟨fun {ws} h => ?_, fun {ws} h => ?_⟩
  · obtain ⟨_, _, vs, _, o, es, ep, h1, ⟨c1, c2, c3⟩, h3, _⟩ := dk_of I.hok h
    obtain ⟨cls, dd, data, sl⟩ := o
    simp only at c1 c2 c3 h3
    subst c1 c2 c3 h3
    exact ⟨_, _, _, _, h1⟩
  · obtain ⟨_, _, vs, _, o, es, ep, h1, ⟨c1, c2, c3⟩, h3, _⟩ := dt_of I.hok h
    obtain ⟨cls, dd, data, sl⟩ := o
    simp only at c1 c2 c3 h3
    subst c1 c2 c3 h3
    exact ⟨_, _, _, _, h1⟩
theorem dc_not_tup (I : Inv X pins σ H s) (hG : G.K = X.K) {a : Addr} {ys : List V} (h1 : SeqAt.IsDc s a) (h2 : SqT G.K H a ys) : False := by
  rw [hG] at h2
  obtain ⟨_, _, _, _, e⟩ := h1
  obtain ⟨its2, _, ⟨o, e2, c, _⟩, _⟩ := I.tuple h2
  rw [e] at e2
  cases e2
  exact absurd c (by show Value.type "dict" ≠ .type "tuple"; decide +kernel)
theorem lst_not_tup (I : Inv X pins σ H s) (hG : G.K = X.K) {a : Addr} {xs ys : List V} (h1 : H a = some (.lst xs)) (h2 : SqT G.K H a ys) : False := by
  rw [hG] at h2
  obtain ⟨_, its, n, _, _, e⟩ := I.lstM h1
  obtain ⟨its2, _, ⟨o, e2, c, _⟩, _⟩ := I.tuple h2
  rw [e] at e2
  cases e2
  exact absurd c (by show Value.type "list" ≠ .type "tuple"; decide +kernel)
mutual
/-- equal by what they are: the same object -/
theorem eq_same (I : Inv X pins σ H s) (hG : G.K = X.K) : ∀ (d e : D) (x : V) (r : Bool), Rep G H d x → Rep G H e x → eqD d e = some r → r = true
  | .non, e, x, r, h1, h2, h => by
    cases e <;> simp only [Rep] at h1 h2 <;> simp only [eqD, Option.some.injEq] at h <;> first
      | exact h.symm
      | (subst h1; cases h2; done)
      | (obtain ⟨_, _, q, _⟩ := h2; rw [h1] at q; cases q; done)
      | (cases h; done)
  | .bl b, e, x, r, h1, h2, h => by
    cases e <;> simp only [Rep] at h1 h2 <;> simp only [eqD, Option.some.injEq] at h <;> first
      | (subst h1; cases h2; rw [← h]; exact beq_self_eq_true _; done)
      | (subst h1; cases h2; done)
      | (obtain ⟨_, _, q, _⟩ := h2; rw [h1] at q; cases q; done)
      | (cases h; done)
  | .int i, e, x, r, h1, h2, h => by
    cases e <;> simp only [Rep] at h1 h2 <;> simp only [eqD, Option.some.injEq] at h <;> first
      | (subst h1; cases h2; rw [← h]; exact beq_self_eq_true _; done)
      | (subst h1; cases h2; done)
      | (obtain ⟨_, _, q, _⟩ := h2; rw [h1] at q; cases q; done)
      | (cases h; done)
  | .str i, e, x, r, h1, h2, h => by
    cases e <;> simp only [Rep] at h1 h2 <;> simp only [eqD, Option.some.injEq] at h <;> first
      | (subst h1; cases h2; rw [← h]; exact beq_self_eq_true _; done)
      | (subst h1; cases h2; done)
      | (obtain ⟨_, _, q, _⟩ := h2; rw [h1] at q; cases q; done)
      | (cases h; done)
  | .lst ds, e, x, r, h1, h2, h => by
    simp only [Rep] at h1
    obtain ⟨a, vs, rfl, q1, r1⟩ := h1
    cases e with
    | lst es =>
      simp only [Rep] at h2
      obtain ⟨b, ws, e2, q2, r2⟩ := h2
      cases e2
      rw [q1] at q2
      cases q2
      simp only [eqD] at h
      rw [if_pos (by rw [← r1.len, ← r2.len])] at h
      exact eqZ_same I hG ds es vs r r1 r2 h
    | tup es =>
      simp only [Rep] at h2
      obtain ⟨b, ws, e2, q2, r2⟩ := h2
      cases e2
      exact (lst_not_tup I hG q1 q2).elim
    | non => simp only [Rep] at h2; cases h2
    | bl _ => simp only [Rep] at h2; cases h2
    | int _ => simp only [Rep] at h2; cases h2
    | str _ => simp only [Rep] at h2; cases h2
    | dK es =>
      simp only [Rep] at h2
      obtain ⟨b, ws, e2, q2, r2⟩ := h2
      cases e2
      rw [q1] at q2
      cases q2
    | dT es =>
      simp only [Rep] at h2
      obtain ⟨b, ws, e2, q2, r2⟩ := h2
      cases e2
      rw [q1] at q2
      cases q2
    | _ => simp only [eqD] at h; cases h
  | .tup ds, e, x, r, h1, h2, h => by
    simp only [Rep] at h1
    obtain ⟨a, vs, rfl, q1, r1⟩ := h1
    cases e with
    | tup es =>
      simp only [Rep] at h2
      obtain ⟨b, ws, e2, q2, r2⟩ := h2
      cases e2
      rw [hG] at q1 q2
      have := I.tuple_inj q1 q2
      subst this
      simp only [eqD] at h
      cases e3 : eqZ ds es with
      | none => rw [e3] at h; cases h
      | some r' =>
        rw [e3] at h
        cases h
        rw [eqZ_same I hG ds es vs r' r1 r2 e3, ← r1.len, ← r2.len]
        simp
    | lst es =>
      simp only [Rep] at h2
      obtain ⟨b, ws, e2, q2, r2⟩ := h2
      cases e2
      exact (lst_not_tup I hG q2 q1).elim
    | non => simp only [Rep] at h2; cases h2
    | bl _ => simp only [Rep] at h2; cases h2
    | int _ => simp only [Rep] at h2; cases h2
    | str _ => simp only [Rep] at h2; cases h2
    | dK es =>
      simp only [Rep] at h2
      obtain ⟨b, ws, e2, q2, r2⟩ := h2
      cases e2
      exact (dc_not_tup I hG ((dc_of I).1 q2) q1).elim
    | dT es =>
      simp only [Rep] at h2
      obtain ⟨b, ws, e2, q2, r2⟩ := h2
      cases e2
      exact (dc_not_tup I hG ((dc_of I).2 q2) q1).elim
    | _ => simp only [eqD] at h; cases h
  | .dK ds, e, x, r, h1, h2, h => by
    simp only [Rep] at h1
    obtain ⟨a, vs, rfl, q1, r1⟩ := h1
    cases e with
    | tup es =>
      simp only [Rep] at h2
      obtain ⟨b, ws, e2, q2, r2⟩ := h2
      cases e2
      exact (dc_not_tup I hG ((dc_of I).1 q1) q2).elim
    | lst es =>
      simp only [Rep] at h2
      obtain ⟨b, ws, e2, q2, r2⟩ := h2
      cases e2
      rw [q1] at q2
      cases q2
    | non => simp only [Rep] at h2; cases h2
    | bl _ => simp only [Rep] at h2; cases h2
    | int _ => simp only [Rep] at h2; cases h2
    | str _ => simp only [Rep] at h2; cases h2
    | _ => simp only [eqD] at h; cases h
  | .dT ds, e, x, r, h1, h2, h => by
    simp only [Rep] at h1
    obtain ⟨a, vs, rfl, q1, r1⟩ := h1
    cases e with
    | tup es =>
      simp only [Rep] at h2
      obtain ⟨b, ws, e2, q2, r2⟩ := h2
      cases e2
      exact (dc_not_tup I hG ((dc_of I).2 q1) q2).elim
    | lst es =>
      simp only [Rep] at h2
      obtain ⟨b, ws, e2, q2, r2⟩ := h2
      cases e2
      rw [q1] at q2
      cases q2
    | non => simp only [Rep] at h2; cases h2
    | bl _ => simp only [Rep] at h2; cases h2
    | int _ => simp only [Rep] at h2; cases h2
    | str _ => simp only [Rep] at h2; cases h2
    | _ => simp only [eqD] at h; cases h
  | .obj _ _, e, x, r, h1, h2, h => by cases e <;> (simp only [eqD] at h; cases h)
  | .scr _, e, x, r, h1, h2, h => by cases e <;> (simp only [eqD] at h; cases h)
theorem eqZ_same (I : Inv X pins σ H s) (hG : G.K = X.K) : ∀ (ds es : List D) (vs : List V) (r : Bool), RepL G H ds vs → RepL G H es vs → eqZ ds es = some r → r = true
  | [], es, vs, r, h1, h2, h => by simp only [eqZ] at h; cases h; rfl
  | x :: xs, [], vs, r, h1, h2, h => by simp only [eqZ] at h; cases h; rfl
  | x :: xs, y :: ys, vs, r, h1, h2, h => by
    obtain ⟨a, b, e1, e2, rfl⟩ := eqZ_cons h
    simp only [RepL] at h1 h2
    obtain ⟨v, t, rfl, p1, t1⟩ := h1
    obtain ⟨w, t', e3, p2, t2⟩ := h2
    cases e3
    rw [eq_same I hG x y v a p1 p2 e1, eqZ_same I hG xs ys t b t1 t2 e2]
    rfl
end
theorem hgt_get : ∀ {ds : List D} {j : Nat} {d : D}, ds[j]? = some d → hgt d ≤ hgtL ds
  | [], j, d, h => by simp at h
  | x :: xs, 0, d, h => by
    simp at h
    subst h
    simp only [hgtL]
    exact Nat.le_max_left _ _
  | x :: xs, j + 1, d, h => by
    simp only [hgtL]
    exact Nat.le_trans (hgt_get (j := j) (by simpa using h)) (Nat.le_max_right _ _)
theorem isList_of (I : Inv X pins σ H s) {a : Addr} {vs : List V} (h : H a = some (.lst vs)) : ∃ its : List Value, Vals vs its ∧ s.heap.IsList a its.toArray := by
  obtain ⟨_, its, n, rv, _, e⟩ := I.lstM h
  exact ⟨its, rv, _, e, rfl, n, rfl⟩
/-- == of data, up to a height -/
def EqG (X : Cx) (s : Shared) (H : Hp) (G : Gx) (n : Nat) : Prop := ∀ (d e : D) (A : Around) (x y : V) (u v : Value) (r : Bool), hgt d ≤ n → Rep G H d x → Rep G H e y → RelV x u → RelV y v → eqD d e = some r →
    A.units + n < cLine → SeqAt.EqAt A s u v r
theorem eq_lst (I : Inv X pins σ H s) (hG : G.K = X.K) (n : Nat) (ih : EqG X s H G (n - 1)) (ds es : List D) (A : Around) (x y : V) (u v : Value) (r : Bool) (hn : hgt (.lst ds) ≤ n) (h1 : Rep G H (.lst ds) x) (h2 : Rep G H (.lst es) y) (r1 : RelV x u) (r2 : RelV y v) (h : eqD (.lst ds) (.lst es) = some r)
    (hu : A.units + n < cLine) : SeqAt.EqAt A s u v r := by
  have h1' := h1
  have h2' := h2
  simp only [Rep] at h1 h2
  obtain ⟨a, vs, rfl, q1, t1⟩ := h1
  obtain ⟨b, ws, rfl, q2, t2⟩ := h2
  cases r1; cases r2
  by_cases hab : a = b
  · subst hab
    rw [eq_same I hG _ _ _ _ h1' h2' h]
    exact SeqAt.EqAt.same _
  · simp only [hgt] at hn
    obtain ⟨its, v1, l1⟩ := isList_of I q1
    obtain ⟨its2, v2, l2⟩ := isList_of I q2
    have g1 : its.length = ds.length := by rw [← v1.length, t1.len]
    have g2 : its2.length = es.length := by rw [← v2.length, t2.len]
    simp only [eqD] at h
    split at h
    · rename_i hl
      obtain ⟨ra, rp⟩ := eqZ_all h
      have := SeqAt.RcAt.lists (A := A) (e := pairB ds es) l1 l2 (by simp only [List.size_toArray]; omega) (by omega) fun j j1 j2 => ?_
      · rw [show its.toArray.size = min ds.length es.length by simp only [List.size_toArray]; omega, ← ra] at this
        exact SeqAt.EqAt.of_refs hab this
      · have j1' : j < its.length := by simpa using j1
        have j2' : j < its2.length := by simpa using j2
        have e1 : ds[j]? = some ds[j] := List.getElem?_eq_getElem (by omega)
        have e2 : es[j]? = some es[j] := List.getElem?_eq_getElem (by omega)
        obtain ⟨w1, f1, p1⟩ := t1.at e1
        obtain ⟨w2, f2, p2⟩ := t2.at e2
        obtain ⟨u1, k1, m1⟩ := v1.get f1
        obtain ⟨u2, k2, m2⟩ := v2.get f2
        have := hgt_get e1
        have z1 : its.toArray[j] = u1 := by
          rw [List.getElem?_eq_getElem j1'] at k1
          simpa using k1
        have z2 : its2.toArray[j] = u2 := by
          rw [List.getElem?_eq_getElem j2'] at k2
          simpa using k2
        rw [z1, z2]
        exact ih ds[j] es[j] A.in1 w1 w2 u1 u2 _ (by omega) p1 p2 m1 m2 (rp j _ _ e1 e2) (by show A.units + 1 + (n - 1) < cLine; omega)
    · rename_i hl
      cases h
      exact SeqAt.EqAt.of_refs hab (SeqAt.RcAt.lists_lengths l1 l2 (by simp only [List.size_toArray, bne_iff_ne, ne_eq]; omega) (by omega))
theorem eq_tup (I : Inv X pins σ H s) (hG : G.K = X.K) (n : Nat) (ih : EqG X s H G (n - 1)) (ds es : List D) (A : Around) (x y : V) (u v : Value) (r : Bool) (hn : hgt (.tup ds) ≤ n) (h1 : Rep G H (.tup ds) x) (h2 : Rep G H (.tup es) y) (r1 : RelV x u) (r2 : RelV y v) (h : eqD (.tup ds) (.tup es) = some r)
    (hu : A.units + n < cLine) : SeqAt.EqAt A s u v r := by
  have h1' := h1
  have h2' := h2
  simp only [Rep] at h1 h2
  obtain ⟨a, vs, rfl, q1, t1⟩ := h1
  obtain ⟨b, ws, rfl, q2, t2⟩ := h2
  cases r1; cases r2
  by_cases hab : a = b
  · subst hab
    rw [eq_same I hG _ _ _ _ h1' h2' h]
    exact SeqAt.EqAt.same _
  · simp only [hgt] at hn
    rw [hG] at q1 q2
    obtain ⟨its, v1, l1, _⟩ := I.tuple q1
    obtain ⟨its2, v2, l2, _⟩ := I.tuple q2
    have g1 : its.length = ds.length := by rw [← v1.length, t1.len]
    have g2 : its2.length = es.length := by rw [← v2.length, t2.len]
    simp only [eqD] at h
    cases e3 : eqZ ds es with
    | none => rw [e3] at h; cases h
    | some r' =>
      rw [e3] at h
      cases h
      obtain ⟨ra, rp⟩ := eqZ_all e3
      have := SeqAt.RcAt.tuples (A := A) (e := pairB ds es) (show s.heap.IsTuple a its.toArray from l1) (show s.heap.IsTuple b its2.toArray from l2) (by omega) fun j j1 j2 => ?_
      · rw [show min its.toArray.size its2.toArray.size = min ds.length es.length by simp only [List.size_toArray]; omega, ← ra, List.size_toArray, List.size_toArray, g1, g2] at this
        exact SeqAt.EqAt.of_refs hab this
      · have j1' : j < its.length := by simpa using j1
        have j2' : j < its2.length := by simpa using j2
        have e1 : ds[j]? = some ds[j] := List.getElem?_eq_getElem (by omega)
        have e2 : es[j]? = some es[j] := List.getElem?_eq_getElem (by omega)
        obtain ⟨w1, f1, p1⟩ := t1.at e1
        obtain ⟨w2, f2, p2⟩ := t2.at e2
        obtain ⟨u1, k1, m1⟩ := v1.get f1
        obtain ⟨u2, k2, m2⟩ := v2.get f2
        have := hgt_get e1
        have z1 : its.toArray[j] = u1 := by
          rw [List.getElem?_eq_getElem j1'] at k1
          simpa using k1
        have z2 : its2.toArray[j] = u2 := by
          rw [List.getElem?_eq_getElem j2'] at k2
          simpa using k2
        rw [z1, z2]
        exact ih ds[j] es[j] A.in1 w1 w2 u1 u2 _ (by omega) p1 p2 m1 m2 (rp j _ _ e1 e2) (by show A.units + 1 + (n - 1) < cLine; omega)
theorem eqAt_D (I : Inv X pins σ H s) (hG : G.K = X.K) (n : Nat) : EqG X s H G n := by
  induction n using Nat.strongRecOn with
  | _ n IH =>
  intro d e A x y u v r hn h1 h2 r1 r2 h hu
  have hu' : A.units < cLine := by omega
  cases d with
  | non =>
    cases e with
    | non => simp only [Rep] at h1 h2; subst h1 h2; cases r1; cases r2; simp only [eqD, Option.some.injEq] at h; subst h; exact SeqAt.EqAt.same _
    | bl q => simp only [eqD, Option.some.injEq] at h; subst h; simp only [Rep] at h1; subst h1; cases r1; simp only [Rep] at h2; subst h2; cases r2; exact SeqAt.EqAt.none_bool q
    | int q => simp only [eqD, Option.some.injEq] at h; subst h; simp only [Rep] at h1; subst h1; cases r1; simp only [Rep] at h2; subst h2; obtain ⟨tq, rfl⟩ := r2; exact SeqAt.EqAt.none_int q tq
    | str q => simp only [eqD, Option.some.injEq] at h; subst h; simp only [Rep] at h1; subst h1; cases r1; simp only [Rep] at h2; subst h2; obtain ⟨tq, rfl⟩ := r2; exact SeqAt.EqAt.none_str q tq
    | lst q => simp only [eqD, Option.some.injEq] at h; subst h; simp only [Rep] at h1; subst h1; cases r1; simp only [Rep] at h2; obtain ⟨aq, vsq, rfl, qq, tq⟩ := h2; cases r2; obtain ⟨itsq, vq, lq⟩ := isList_of I qq; exact SeqAt.EqAt.none_list lq hu'
    | tup q => simp only [eqD, Option.some.injEq] at h; subst h; simp only [Rep] at h1; subst h1; cases r1; simp only [Rep] at h2; obtain ⟨aq, vsq, rfl, qq, tq⟩ := h2; cases r2; rw [hG] at qq; obtain ⟨itsq, vq, lq, _⟩ := I.tuple qq; have lq : s.heap.IsTuple aq itsq.toArray := lq; exact SeqAt.EqAt.none_tuple lq hu'
    | dK q => simp only [eqD, Option.some.injEq] at h; subst h; simp only [Rep] at h1; subst h1; cases r1; simp only [Rep] at h2; obtain ⟨aq, vsq, rfl, qq, tq⟩ := h2; cases r2; have lq := (dc_of I).1 qq; exact SeqAt.EqAt.none_dict lq hu'
    | dT q => simp only [eqD, Option.some.injEq] at h; subst h; simp only [Rep] at h1; subst h1; cases r1; simp only [Rep] at h2; obtain ⟨aq, vsq, rfl, qq, tq⟩ := h2; cases r2; have lq := (dc_of I).2 qq; exact SeqAt.EqAt.none_dict lq hu'
    | obj => simp only [eqD] at h; cases h
    | scr => simp only [eqD] at h; cases h
  | bl p =>
    cases e with
    | non => simp only [eqD, Option.some.injEq] at h; subst h; simp only [Rep] at h1; subst h1; cases r1; simp only [Rep] at h2; subst h2; cases r2; exact SeqAt.EqAt.bool_none p
    | bl q => simp only [eqD, Option.some.injEq] at h; subst h; simp only [Rep] at h1; subst h1; cases r1; simp only [Rep] at h2; subst h2; cases r2; exact SeqAt.EqAt.bool_bool p q
    | int q => simp only [eqD, Option.some.injEq] at h; subst h; simp only [Rep] at h1; subst h1; cases r1; simp only [Rep] at h2; subst h2; obtain ⟨tq, rfl⟩ := r2; exact SeqAt.EqAt.bool_int p q tq
    | str q => simp only [eqD, Option.some.injEq] at h; subst h; simp only [Rep] at h1; subst h1; cases r1; simp only [Rep] at h2; subst h2; obtain ⟨tq, rfl⟩ := r2; exact SeqAt.EqAt.bool_str p q tq
    | lst q => simp only [eqD, Option.some.injEq] at h; subst h; simp only [Rep] at h1; subst h1; cases r1; simp only [Rep] at h2; obtain ⟨aq, vsq, rfl, qq, tq⟩ := h2; cases r2; obtain ⟨itsq, vq, lq⟩ := isList_of I qq; exact SeqAt.EqAt.bool_list p lq hu'
    | tup q => simp only [eqD, Option.some.injEq] at h; subst h; simp only [Rep] at h1; subst h1; cases r1; simp only [Rep] at h2; obtain ⟨aq, vsq, rfl, qq, tq⟩ := h2; cases r2; rw [hG] at qq; obtain ⟨itsq, vq, lq, _⟩ := I.tuple qq; have lq : s.heap.IsTuple aq itsq.toArray := lq; exact SeqAt.EqAt.bool_tuple p lq hu'
    | dK q => simp only [eqD, Option.some.injEq] at h; subst h; simp only [Rep] at h1; subst h1; cases r1; simp only [Rep] at h2; obtain ⟨aq, vsq, rfl, qq, tq⟩ := h2; cases r2; have lq := (dc_of I).1 qq; exact SeqAt.EqAt.bool_dict p lq hu'
    | dT q => simp only [eqD, Option.some.injEq] at h; subst h; simp only [Rep] at h1; subst h1; cases r1; simp only [Rep] at h2; obtain ⟨aq, vsq, rfl, qq, tq⟩ := h2; cases r2; have lq := (dc_of I).2 qq; exact SeqAt.EqAt.bool_dict p lq hu'
    | obj => simp only [eqD] at h; cases h
    | scr => simp only [eqD] at h; cases h
  | int p =>
    cases e with
    | non => simp only [eqD, Option.some.injEq] at h; subst h; simp only [Rep] at h1; subst h1; obtain ⟨tp, rfl⟩ := r1; simp only [Rep] at h2; subst h2; cases r2; exact SeqAt.EqAt.int_none p tp
    | bl q => simp only [eqD, Option.some.injEq] at h; subst h; simp only [Rep] at h1; subst h1; obtain ⟨tp, rfl⟩ := r1; simp only [Rep] at h2; subst h2; cases r2; exact SeqAt.EqAt.int_bool p tp q
    | int q => simp only [eqD, Option.some.injEq] at h; subst h; simp only [Rep] at h1; subst h1; obtain ⟨tp, rfl⟩ := r1; simp only [Rep] at h2; subst h2; obtain ⟨tq, rfl⟩ := r2; exact SeqAt.EqAt.int_int p tp q tq
    | str q => simp only [eqD, Option.some.injEq] at h; subst h; simp only [Rep] at h1; subst h1; obtain ⟨tp, rfl⟩ := r1; simp only [Rep] at h2; subst h2; obtain ⟨tq, rfl⟩ := r2; exact SeqAt.EqAt.int_str p tp q tq
    | lst q => simp only [eqD, Option.some.injEq] at h; subst h; simp only [Rep] at h1; subst h1; obtain ⟨tp, rfl⟩ := r1; simp only [Rep] at h2; obtain ⟨aq, vsq, rfl, qq, tq⟩ := h2; cases r2; obtain ⟨itsq, vq, lq⟩ := isList_of I qq; exact SeqAt.EqAt.int_list p tp lq hu'
    | tup q => simp only [eqD, Option.some.injEq] at h; subst h; simp only [Rep] at h1; subst h1; obtain ⟨tp, rfl⟩ := r1; simp only [Rep] at h2; obtain ⟨aq, vsq, rfl, qq, tq⟩ := h2; cases r2; rw [hG] at qq; obtain ⟨itsq, vq, lq, _⟩ := I.tuple qq; have lq : s.heap.IsTuple aq itsq.toArray := lq; exact SeqAt.EqAt.int_tuple p tp lq hu'
    | dK q => simp only [eqD, Option.some.injEq] at h; subst h; simp only [Rep] at h1; subst h1; obtain ⟨tp, rfl⟩ := r1; simp only [Rep] at h2; obtain ⟨aq, vsq, rfl, qq, tq⟩ := h2; cases r2; have lq := (dc_of I).1 qq; exact SeqAt.EqAt.int_dict p tp lq hu'
    | dT q => simp only [eqD, Option.some.injEq] at h; subst h; simp only [Rep] at h1; subst h1; obtain ⟨tp, rfl⟩ := r1; simp only [Rep] at h2; obtain ⟨aq, vsq, rfl, qq, tq⟩ := h2; cases r2; have lq := (dc_of I).2 qq; exact SeqAt.EqAt.int_dict p tp lq hu'
    | obj => simp only [eqD] at h; cases h
    | scr => simp only [eqD] at h; cases h
  | str p =>
    cases e with
    | non => simp only [eqD, Option.some.injEq] at h; subst h; simp only [Rep] at h1; subst h1; obtain ⟨tp, rfl⟩ := r1; simp only [Rep] at h2; subst h2; cases r2; exact SeqAt.EqAt.str_none p tp
    | bl q => simp only [eqD, Option.some.injEq] at h; subst h; simp only [Rep] at h1; subst h1; obtain ⟨tp, rfl⟩ := r1; simp only [Rep] at h2; subst h2; cases r2; exact SeqAt.EqAt.str_bool p tp q
    | int q => simp only [eqD, Option.some.injEq] at h; subst h; simp only [Rep] at h1; subst h1; obtain ⟨tp, rfl⟩ := r1; simp only [Rep] at h2; subst h2; obtain ⟨tq, rfl⟩ := r2; exact SeqAt.EqAt.str_int p tp q tq
    | str q => simp only [eqD, Option.some.injEq] at h; subst h; simp only [Rep] at h1; subst h1; obtain ⟨tp, rfl⟩ := r1; simp only [Rep] at h2; subst h2; obtain ⟨tq, rfl⟩ := r2; exact SeqAt.EqAt.str_str p tp q tq
    | lst q => simp only [eqD, Option.some.injEq] at h; subst h; simp only [Rep] at h1; subst h1; obtain ⟨tp, rfl⟩ := r1; simp only [Rep] at h2; obtain ⟨aq, vsq, rfl, qq, tq⟩ := h2; cases r2; obtain ⟨itsq, vq, lq⟩ := isList_of I qq; exact SeqAt.EqAt.str_list p tp lq hu'
    | tup q => simp only [eqD, Option.some.injEq] at h; subst h; simp only [Rep] at h1; subst h1; obtain ⟨tp, rfl⟩ := r1; simp only [Rep] at h2; obtain ⟨aq, vsq, rfl, qq, tq⟩ := h2; cases r2; rw [hG] at qq; obtain ⟨itsq, vq, lq, _⟩ := I.tuple qq; have lq : s.heap.IsTuple aq itsq.toArray := lq; exact SeqAt.EqAt.str_tuple p tp lq hu'
    | dK q => simp only [eqD, Option.some.injEq] at h; subst h; simp only [Rep] at h1; subst h1; obtain ⟨tp, rfl⟩ := r1; simp only [Rep] at h2; obtain ⟨aq, vsq, rfl, qq, tq⟩ := h2; cases r2; have lq := (dc_of I).1 qq; exact SeqAt.EqAt.str_dict p tp lq hu'
    | dT q => simp only [eqD, Option.some.injEq] at h; subst h; simp only [Rep] at h1; subst h1; obtain ⟨tp, rfl⟩ := r1; simp only [Rep] at h2; obtain ⟨aq, vsq, rfl, qq, tq⟩ := h2; cases r2; have lq := (dc_of I).2 qq; exact SeqAt.EqAt.str_dict p tp lq hu'
    | obj => simp only [eqD] at h; cases h
    | scr => simp only [eqD] at h; cases h
  | lst p =>
    cases e with
    | non => simp only [eqD, Option.some.injEq] at h; subst h; simp only [Rep] at h1; obtain ⟨ap, vsp, rfl, qp, tp⟩ := h1; cases r1; obtain ⟨itsp, vp, lp⟩ := isList_of I qp; simp only [Rep] at h2; subst h2; cases r2; exact SeqAt.EqAt.list_none lp hu'
    | bl q => simp only [eqD, Option.some.injEq] at h; subst h; simp only [Rep] at h1; obtain ⟨ap, vsp, rfl, qp, tp⟩ := h1; cases r1; obtain ⟨itsp, vp, lp⟩ := isList_of I qp; simp only [Rep] at h2; subst h2; cases r2; exact SeqAt.EqAt.list_bool q lp hu'
    | int q => simp only [eqD, Option.some.injEq] at h; subst h; simp only [Rep] at h1; obtain ⟨ap, vsp, rfl, qp, tp⟩ := h1; cases r1; obtain ⟨itsp, vp, lp⟩ := isList_of I qp; simp only [Rep] at h2; subst h2; obtain ⟨tq, rfl⟩ := r2; exact SeqAt.EqAt.list_int q tq lp hu'
    | str q => simp only [eqD, Option.some.injEq] at h; subst h; simp only [Rep] at h1; obtain ⟨ap, vsp, rfl, qp, tp⟩ := h1; cases r1; obtain ⟨itsp, vp, lp⟩ := isList_of I qp; simp only [Rep] at h2; subst h2; obtain ⟨tq, rfl⟩ := r2; exact SeqAt.EqAt.list_str q tq lp hu'
    | lst q => exact eq_lst I hG n (IH (n - 1) (by simp only [hgt] at hn; omega)) p q A x y u v r hn h1 h2 r1 r2 h hu
    | tup q => simp only [eqD, Option.some.injEq] at h; subst h; simp only [Rep] at h1; obtain ⟨ap, vsp, rfl, qp, tp⟩ := h1; cases r1; obtain ⟨itsp, vp, lp⟩ := isList_of I qp; simp only [Rep] at h2; obtain ⟨aq, vsq, rfl, qq, tq⟩ := h2; cases r2; rw [hG] at qq; obtain ⟨itsq, vq, lq, _⟩ := I.tuple qq; have lq : s.heap.IsTuple aq itsq.toArray := lq; exact SeqAt.EqAt.list_tuple lp lq hu'
    | dK q => simp only [eqD, Option.some.injEq] at h; subst h; simp only [Rep] at h1; obtain ⟨ap, vsp, rfl, qp, tp⟩ := h1; cases r1; obtain ⟨itsp, vp, lp⟩ := isList_of I qp; simp only [Rep] at h2; obtain ⟨aq, vsq, rfl, qq, tq⟩ := h2; cases r2; have lq := (dc_of I).1 qq; exact SeqAt.EqAt.list_dict lp lq hu'
    | dT q => simp only [eqD, Option.some.injEq] at h; subst h; simp only [Rep] at h1; obtain ⟨ap, vsp, rfl, qp, tp⟩ := h1; cases r1; obtain ⟨itsp, vp, lp⟩ := isList_of I qp; simp only [Rep] at h2; obtain ⟨aq, vsq, rfl, qq, tq⟩ := h2; cases r2; have lq := (dc_of I).2 qq; exact SeqAt.EqAt.list_dict lp lq hu'
    | obj => simp only [eqD] at h; cases h
    | scr => simp only [eqD] at h; cases h
  | tup p =>
    cases e with
    | non => simp only [eqD, Option.some.injEq] at h; subst h; simp only [Rep] at h1; obtain ⟨ap, vsp, rfl, qp, tp⟩ := h1; cases r1; rw [hG] at qp; obtain ⟨itsp, vp, lp, _⟩ := I.tuple qp; have lp : s.heap.IsTuple ap itsp.toArray := lp; simp only [Rep] at h2; subst h2; cases r2; exact SeqAt.EqAt.tuple_none lp hu'
    | bl q => simp only [eqD, Option.some.injEq] at h; subst h; simp only [Rep] at h1; obtain ⟨ap, vsp, rfl, qp, tp⟩ := h1; cases r1; rw [hG] at qp; obtain ⟨itsp, vp, lp, _⟩ := I.tuple qp; have lp : s.heap.IsTuple ap itsp.toArray := lp; simp only [Rep] at h2; subst h2; cases r2; exact SeqAt.EqAt.tuple_bool q lp hu'
    | int q => simp only [eqD, Option.some.injEq] at h; subst h; simp only [Rep] at h1; obtain ⟨ap, vsp, rfl, qp, tp⟩ := h1; cases r1; rw [hG] at qp; obtain ⟨itsp, vp, lp, _⟩ := I.tuple qp; have lp : s.heap.IsTuple ap itsp.toArray := lp; simp only [Rep] at h2; subst h2; obtain ⟨tq, rfl⟩ := r2; exact SeqAt.EqAt.tuple_int q tq lp hu'
    | str q => simp only [eqD, Option.some.injEq] at h; subst h; simp only [Rep] at h1; obtain ⟨ap, vsp, rfl, qp, tp⟩ := h1; cases r1; rw [hG] at qp; obtain ⟨itsp, vp, lp, _⟩ := I.tuple qp; have lp : s.heap.IsTuple ap itsp.toArray := lp; simp only [Rep] at h2; subst h2; obtain ⟨tq, rfl⟩ := r2; exact SeqAt.EqAt.tuple_str q tq lp hu'
    | lst q => simp only [eqD, Option.some.injEq] at h; subst h; simp only [Rep] at h1; obtain ⟨ap, vsp, rfl, qp, tp⟩ := h1; cases r1; rw [hG] at qp; obtain ⟨itsp, vp, lp, _⟩ := I.tuple qp; have lp : s.heap.IsTuple ap itsp.toArray := lp; simp only [Rep] at h2; obtain ⟨aq, vsq, rfl, qq, tq⟩ := h2; cases r2; obtain ⟨itsq, vq, lq⟩ := isList_of I qq; exact SeqAt.EqAt.tuple_list lp lq hu'
    | tup q => exact eq_tup I hG n (IH (n - 1) (by simp only [hgt] at hn; omega)) p q A x y u v r hn h1 h2 r1 r2 h hu
    | dK q => simp only [eqD, Option.some.injEq] at h; subst h; simp only [Rep] at h1; obtain ⟨ap, vsp, rfl, qp, tp⟩ := h1; cases r1; rw [hG] at qp; obtain ⟨itsp, vp, lp, _⟩ := I.tuple qp; have lp : s.heap.IsTuple ap itsp.toArray := lp; simp only [Rep] at h2; obtain ⟨aq, vsq, rfl, qq, tq⟩ := h2; cases r2; have lq := (dc_of I).1 qq; exact SeqAt.EqAt.tuple_dict lp lq hu'
    | dT q => simp only [eqD, Option.some.injEq] at h; subst h; simp only [Rep] at h1; obtain ⟨ap, vsp, rfl, qp, tp⟩ := h1; cases r1; rw [hG] at qp; obtain ⟨itsp, vp, lp, _⟩ := I.tuple qp; have lp : s.heap.IsTuple ap itsp.toArray := lp; simp only [Rep] at h2; obtain ⟨aq, vsq, rfl, qq, tq⟩ := h2; cases r2; have lq := (dc_of I).2 qq; exact SeqAt.EqAt.tuple_dict lp lq hu'
    | obj => simp only [eqD] at h; cases h
    | scr => simp only [eqD] at h; cases h
  | dK p =>
    cases e with
    | non => simp only [eqD, Option.some.injEq] at h; subst h; simp only [Rep] at h1; obtain ⟨ap, vsp, rfl, qp, tp⟩ := h1; cases r1; have lp := (dc_of I).1 qp; simp only [Rep] at h2; subst h2; cases r2; exact SeqAt.EqAt.dict_none lp hu'
    | bl q => simp only [eqD, Option.some.injEq] at h; subst h; simp only [Rep] at h1; obtain ⟨ap, vsp, rfl, qp, tp⟩ := h1; cases r1; have lp := (dc_of I).1 qp; simp only [Rep] at h2; subst h2; cases r2; exact SeqAt.EqAt.dict_bool q lp hu'
    | int q => simp only [eqD, Option.some.injEq] at h; subst h; simp only [Rep] at h1; obtain ⟨ap, vsp, rfl, qp, tp⟩ := h1; cases r1; have lp := (dc_of I).1 qp; simp only [Rep] at h2; subst h2; obtain ⟨tq, rfl⟩ := r2; exact SeqAt.EqAt.dict_int q tq lp hu'
    | str q => simp only [eqD, Option.some.injEq] at h; subst h; simp only [Rep] at h1; obtain ⟨ap, vsp, rfl, qp, tp⟩ := h1; cases r1; have lp := (dc_of I).1 qp; simp only [Rep] at h2; subst h2; obtain ⟨tq, rfl⟩ := r2; exact SeqAt.EqAt.dict_str q tq lp hu'
    | lst q => simp only [eqD, Option.some.injEq] at h; subst h; simp only [Rep] at h1; obtain ⟨ap, vsp, rfl, qp, tp⟩ := h1; cases r1; have lp := (dc_of I).1 qp; simp only [Rep] at h2; obtain ⟨aq, vsq, rfl, qq, tq⟩ := h2; cases r2; obtain ⟨itsq, vq, lq⟩ := isList_of I qq; exact SeqAt.EqAt.dict_list lp lq hu'
    | tup q => simp only [eqD, Option.some.injEq] at h; subst h; simp only [Rep] at h1; obtain ⟨ap, vsp, rfl, qp, tp⟩ := h1; cases r1; have lp := (dc_of I).1 qp; simp only [Rep] at h2; obtain ⟨aq, vsq, rfl, qq, tq⟩ := h2; cases r2; rw [hG] at qq; obtain ⟨itsq, vq, lq, _⟩ := I.tuple qq; have lq : s.heap.IsTuple aq itsq.toArray := lq; exact SeqAt.EqAt.dict_tuple lp lq hu'
    | dK => simp only [eqD] at h; cases h
    | dT => simp only [eqD] at h; cases h
    | obj => simp only [eqD] at h; cases h
    | scr => simp only [eqD] at h; cases h
  | dT p =>
    cases e with
    | non => simp only [eqD, Option.some.injEq] at h; subst h; simp only [Rep] at h1; obtain ⟨ap, vsp, rfl, qp, tp⟩ := h1; cases r1; have lp := (dc_of I).2 qp; simp only [Rep] at h2; subst h2; cases r2; exact SeqAt.EqAt.dict_none lp hu'
    | bl q => simp only [eqD, Option.some.injEq] at h; subst h; simp only [Rep] at h1; obtain ⟨ap, vsp, rfl, qp, tp⟩ := h1; cases r1; have lp := (dc_of I).2 qp; simp only [Rep] at h2; subst h2; cases r2; exact SeqAt.EqAt.dict_bool q lp hu'
    | int q => simp only [eqD, Option.some.injEq] at h; subst h; simp only [Rep] at h1; obtain ⟨ap, vsp, rfl, qp, tp⟩ := h1; cases r1; have lp := (dc_of I).2 qp; simp only [Rep] at h2; subst h2; obtain ⟨tq, rfl⟩ := r2; exact SeqAt.EqAt.dict_int q tq lp hu'
    | str q => simp only [eqD, Option.some.injEq] at h; subst h; simp only [Rep] at h1; obtain ⟨ap, vsp, rfl, qp, tp⟩ := h1; cases r1; have lp := (dc_of I).2 qp; simp only [Rep] at h2; subst h2; obtain ⟨tq, rfl⟩ := r2; exact SeqAt.EqAt.dict_str q tq lp hu'
    | lst q => simp only [eqD, Option.some.injEq] at h; subst h; simp only [Rep] at h1; obtain ⟨ap, vsp, rfl, qp, tp⟩ := h1; cases r1; have lp := (dc_of I).2 qp; simp only [Rep] at h2; obtain ⟨aq, vsq, rfl, qq, tq⟩ := h2; cases r2; obtain ⟨itsq, vq, lq⟩ := isList_of I qq; exact SeqAt.EqAt.dict_list lp lq hu'
    | tup q => simp only [eqD, Option.some.injEq] at h; subst h; simp only [Rep] at h1; obtain ⟨ap, vsp, rfl, qp, tp⟩ := h1; cases r1; have lp := (dc_of I).2 qp; simp only [Rep] at h2; obtain ⟨aq, vsq, rfl, qq, tq⟩ := h2; cases r2; rw [hG] at qq; obtain ⟨itsq, vq, lq, _⟩ := I.tuple qq; have lq : s.heap.IsTuple aq itsq.toArray := lq; exact SeqAt.EqAt.dict_tuple lp lq hu'
    | dK => simp only [eqD] at h; cases h
    | dT => simp only [eqD] at h; cases h
    | obj => simp only [eqD] at h; cases h
    | scr => simp only [eqD] at h; cases h
  | obj => cases e <;> (simp only [eqD] at h; cases h)
  | scr => cases e <;> (simp only [eqD] at h; cases h)
end
end DL
namespace DL
open PySem PySem.Spec PyProof.Rows L2
section
variable {X : Cx} {pins : List (Addr × Obj)} {σ : St} {H : Hp} {s : Shared} {G : Gx}
theorem items_at (I : Inv X pins σ H s) (hG : G.K = X.K) (n : Nat) {ds es : List D} {vs ws : List V} {its its2 : List Value} {A : Around} {r : Bool} (hn : hgtL ds ≤ n) (t1 : RepL G H ds vs) (t2 : RepL G H es ws) (v1 : Vals vs its) (v2 : Vals ws its2) (h : eqZ ds es = some r) (hu : A.units + 1 + n < cLine) :
    ∀ j (j1 : j < its.toArray.size) (j2 : j < its2.toArray.size), SeqAt.EqAt A.in1 s its.toArray[j] its2.toArray[j] (pairB ds es j) := by
  intro j j1 j2
  have g1 : its.length = ds.length := by rw [← v1.length, t1.len]
  have g2 : its2.length = es.length := by rw [← v2.length, t2.len]
  obtain ⟨ra, rp⟩ := eqZ_all h
  have j1' : j < its.length := by simpa using j1
  have j2' : j < its2.length := by simpa using j2
  have e1 : ds[j]? = some ds[j] := List.getElem?_eq_getElem (by omega)
  have e2 : es[j]? = some es[j] := List.getElem?_eq_getElem (by omega)
  obtain ⟨w1, f1, p1⟩ := t1.at e1
  obtain ⟨w2, f2, p2⟩ := t2.at e2
  obtain ⟨u1, k1, m1⟩ := v1.get f1
  obtain ⟨u2, k2, m2⟩ := v2.get f2
  have := hgt_get e1
  have z1 : its.toArray[j] = u1 := by
    rw [List.getElem?_eq_getElem j1'] at k1
    simpa using k1
  have z2 : its2.toArray[j] = u2 := by
    rw [List.getElem?_eq_getElem j2'] at k2
    simpa using k2
  rw [z1, z2]
  exact eqAt_D I hG n ds[j] es[j] A.in1 w1 w2 u1 u2 _ (by omega) p1 p2 m1 m2 (rp j _ _ e1 e2) (by show A.units + 1 + n < cLine; omega)
theorem rcAt_D (I : Inv X pins σ H s) (hG : G.K = X.K) (n : Nat) (d e : D) (A : Around) (x y : V) (u v : Value) (r : Bool) (hn : hgt d ≤ n) (h1 : Rep G H d x) (h2 : Rep G H e y) (r1 : RelV x u) (r2 : RelV y v) (h : eqD d e = some r) (hu : A.units + n < cLine) : SeqAt.RcAt A s u v r := by
  have hu' : A.units < cLine := by omega
  cases d with
  | non =>
    cases e with
    | non => simp only [Rep] at h1 h2; subst h1 h2; cases r1; cases r2; simp only [eqD, Option.some.injEq] at h; subst h; exact SeqAt.RcAt.none_none
    | bl q => simp only [eqD, Option.some.injEq] at h; subst h; simp only [Rep] at h1; subst h1; cases r1; simp only [Rep] at h2; subst h2; cases r2; exact SeqAt.RcAt.none_bool q
    | int q => simp only [eqD, Option.some.injEq] at h; subst h; simp only [Rep] at h1; subst h1; cases r1; simp only [Rep] at h2; subst h2; obtain ⟨tq, rfl⟩ := r2; exact SeqAt.RcAt.none_int q tq
    | str q => simp only [eqD, Option.some.injEq] at h; subst h; simp only [Rep] at h1; subst h1; cases r1; simp only [Rep] at h2; subst h2; obtain ⟨tq, rfl⟩ := r2; exact SeqAt.RcAt.none_str q tq
    | lst q => simp only [eqD, Option.some.injEq] at h; subst h; simp only [Rep] at h1; subst h1; cases r1; simp only [Rep] at h2; obtain ⟨aq, vsq, rfl, qq, tq⟩ := h2; cases r2; obtain ⟨itsq, vq, lq⟩ := isList_of I qq; exact SeqAt.RcAt.none_list lq hu'
    | tup q => simp only [eqD, Option.some.injEq] at h; subst h; simp only [Rep] at h1; subst h1; cases r1; simp only [Rep] at h2; obtain ⟨aq, vsq, rfl, qq, tq⟩ := h2; cases r2; rw [hG] at qq; obtain ⟨itsq, vq, lq, _⟩ := I.tuple qq; have lq : s.heap.IsTuple aq itsq.toArray := lq; exact SeqAt.RcAt.none_tuple lq hu'
    | dK q => simp only [eqD, Option.some.injEq] at h; subst h; simp only [Rep] at h1; subst h1; cases r1; simp only [Rep] at h2; obtain ⟨aq, vsq, rfl, qq, tq⟩ := h2; cases r2; have lq := (dc_of I).1 qq; exact SeqAt.RcAt.none_dict lq hu'
    | dT q => simp only [eqD, Option.some.injEq] at h; subst h; simp only [Rep] at h1; subst h1; cases r1; simp only [Rep] at h2; obtain ⟨aq, vsq, rfl, qq, tq⟩ := h2; cases r2; have lq := (dc_of I).2 qq; exact SeqAt.RcAt.none_dict lq hu'
    | obj => simp only [eqD] at h; cases h
    | scr => simp only [eqD] at h; cases h
  | bl p =>
    cases e with
    | non => simp only [eqD, Option.some.injEq] at h; subst h; simp only [Rep] at h1; subst h1; cases r1; simp only [Rep] at h2; subst h2; cases r2; exact SeqAt.RcAt.bool_none p
    | bl q => simp only [eqD, Option.some.injEq] at h; subst h; simp only [Rep] at h1; subst h1; cases r1; simp only [Rep] at h2; subst h2; cases r2; exact SeqAt.RcAt.bool_bool p q
    | int q => simp only [eqD, Option.some.injEq] at h; subst h; simp only [Rep] at h1; subst h1; cases r1; simp only [Rep] at h2; subst h2; obtain ⟨tq, rfl⟩ := r2; exact SeqAt.RcAt.bool_int p q tq
    | str q => simp only [eqD, Option.some.injEq] at h; subst h; simp only [Rep] at h1; subst h1; cases r1; simp only [Rep] at h2; subst h2; obtain ⟨tq, rfl⟩ := r2; exact SeqAt.RcAt.bool_str p q tq
    | lst q => simp only [eqD, Option.some.injEq] at h; subst h; simp only [Rep] at h1; subst h1; cases r1; simp only [Rep] at h2; obtain ⟨aq, vsq, rfl, qq, tq⟩ := h2; cases r2; obtain ⟨itsq, vq, lq⟩ := isList_of I qq; exact SeqAt.RcAt.bool_list p lq hu'
    | tup q => simp only [eqD, Option.some.injEq] at h; subst h; simp only [Rep] at h1; subst h1; cases r1; simp only [Rep] at h2; obtain ⟨aq, vsq, rfl, qq, tq⟩ := h2; cases r2; rw [hG] at qq; obtain ⟨itsq, vq, lq, _⟩ := I.tuple qq; have lq : s.heap.IsTuple aq itsq.toArray := lq; exact SeqAt.RcAt.bool_tuple p lq hu'
    | dK q => simp only [eqD, Option.some.injEq] at h; subst h; simp only [Rep] at h1; subst h1; cases r1; simp only [Rep] at h2; obtain ⟨aq, vsq, rfl, qq, tq⟩ := h2; cases r2; have lq := (dc_of I).1 qq; exact SeqAt.RcAt.bool_dict p lq hu'
    | dT q => simp only [eqD, Option.some.injEq] at h; subst h; simp only [Rep] at h1; subst h1; cases r1; simp only [Rep] at h2; obtain ⟨aq, vsq, rfl, qq, tq⟩ := h2; cases r2; have lq := (dc_of I).2 qq; exact SeqAt.RcAt.bool_dict p lq hu'
    | obj => simp only [eqD] at h; cases h
    | scr => simp only [eqD] at h; cases h
  | int p =>
    cases e with
    | non => simp only [eqD, Option.some.injEq] at h; subst h; simp only [Rep] at h1; subst h1; obtain ⟨tp, rfl⟩ := r1; simp only [Rep] at h2; subst h2; cases r2; exact SeqAt.RcAt.int_none p tp
    | bl q => simp only [eqD, Option.some.injEq] at h; subst h; simp only [Rep] at h1; subst h1; obtain ⟨tp, rfl⟩ := r1; simp only [Rep] at h2; subst h2; cases r2; exact SeqAt.RcAt.int_bool p tp q
    | int q => simp only [eqD, Option.some.injEq] at h; subst h; simp only [Rep] at h1; subst h1; obtain ⟨tp, rfl⟩ := r1; simp only [Rep] at h2; subst h2; obtain ⟨tq, rfl⟩ := r2; exact SeqAt.RcAt.int_int p tp q tq
    | str q => simp only [eqD, Option.some.injEq] at h; subst h; simp only [Rep] at h1; subst h1; obtain ⟨tp, rfl⟩ := r1; simp only [Rep] at h2; subst h2; obtain ⟨tq, rfl⟩ := r2; exact SeqAt.RcAt.int_str p tp q tq
    | lst q => simp only [eqD, Option.some.injEq] at h; subst h; simp only [Rep] at h1; subst h1; obtain ⟨tp, rfl⟩ := r1; simp only [Rep] at h2; obtain ⟨aq, vsq, rfl, qq, tq⟩ := h2; cases r2; obtain ⟨itsq, vq, lq⟩ := isList_of I qq; exact SeqAt.RcAt.int_list p tp lq hu'
    | tup q => simp only [eqD, Option.some.injEq] at h; subst h; simp only [Rep] at h1; subst h1; obtain ⟨tp, rfl⟩ := r1; simp only [Rep] at h2; obtain ⟨aq, vsq, rfl, qq, tq⟩ := h2; cases r2; rw [hG] at qq; obtain ⟨itsq, vq, lq, _⟩ := I.tuple qq; have lq : s.heap.IsTuple aq itsq.toArray := lq; exact SeqAt.RcAt.int_tuple p tp lq hu'
    | dK q => simp only [eqD, Option.some.injEq] at h; subst h; simp only [Rep] at h1; subst h1; obtain ⟨tp, rfl⟩ := r1; simp only [Rep] at h2; obtain ⟨aq, vsq, rfl, qq, tq⟩ := h2; cases r2; have lq := (dc_of I).1 qq; exact SeqAt.RcAt.int_dict p tp lq hu'
    | dT q => simp only [eqD, Option.some.injEq] at h; subst h; simp only [Rep] at h1; subst h1; obtain ⟨tp, rfl⟩ := r1; simp only [Rep] at h2; obtain ⟨aq, vsq, rfl, qq, tq⟩ := h2; cases r2; have lq := (dc_of I).2 qq; exact SeqAt.RcAt.int_dict p tp lq hu'
    | obj => simp only [eqD] at h; cases h
    | scr => simp only [eqD] at h; cases h
  | str p =>
    cases e with
    | non => simp only [eqD, Option.some.injEq] at h; subst h; simp only [Rep] at h1; subst h1; obtain ⟨tp, rfl⟩ := r1; simp only [Rep] at h2; subst h2; cases r2; exact SeqAt.RcAt.str_none p tp
    | bl q => simp only [eqD, Option.some.injEq] at h; subst h; simp only [Rep] at h1; subst h1; obtain ⟨tp, rfl⟩ := r1; simp only [Rep] at h2; subst h2; cases r2; exact SeqAt.RcAt.str_bool p tp q
    | int q => simp only [eqD, Option.some.injEq] at h; subst h; simp only [Rep] at h1; subst h1; obtain ⟨tp, rfl⟩ := r1; simp only [Rep] at h2; subst h2; obtain ⟨tq, rfl⟩ := r2; exact SeqAt.RcAt.str_int p tp q tq
    | str q => simp only [eqD, Option.some.injEq] at h; subst h; simp only [Rep] at h1; subst h1; obtain ⟨tp, rfl⟩ := r1; simp only [Rep] at h2; subst h2; obtain ⟨tq, rfl⟩ := r2; exact SeqAt.RcAt.str_str p tp q tq
    | lst q => simp only [eqD, Option.some.injEq] at h; subst h; simp only [Rep] at h1; subst h1; obtain ⟨tp, rfl⟩ := r1; simp only [Rep] at h2; obtain ⟨aq, vsq, rfl, qq, tq⟩ := h2; cases r2; obtain ⟨itsq, vq, lq⟩ := isList_of I qq; exact SeqAt.RcAt.str_list p tp lq hu'
    | tup q => simp only [eqD, Option.some.injEq] at h; subst h; simp only [Rep] at h1; subst h1; obtain ⟨tp, rfl⟩ := r1; simp only [Rep] at h2; obtain ⟨aq, vsq, rfl, qq, tq⟩ := h2; cases r2; rw [hG] at qq; obtain ⟨itsq, vq, lq, _⟩ := I.tuple qq; have lq : s.heap.IsTuple aq itsq.toArray := lq; exact SeqAt.RcAt.str_tuple p tp lq hu'
    | dK q => simp only [eqD, Option.some.injEq] at h; subst h; simp only [Rep] at h1; subst h1; obtain ⟨tp, rfl⟩ := r1; simp only [Rep] at h2; obtain ⟨aq, vsq, rfl, qq, tq⟩ := h2; cases r2; have lq := (dc_of I).1 qq; exact SeqAt.RcAt.str_dict p tp lq hu'
    | dT q => simp only [eqD, Option.some.injEq] at h; subst h; simp only [Rep] at h1; subst h1; obtain ⟨tp, rfl⟩ := r1; simp only [Rep] at h2; obtain ⟨aq, vsq, rfl, qq, tq⟩ := h2; cases r2; have lq := (dc_of I).2 qq; exact SeqAt.RcAt.str_dict p tp lq hu'
    | obj => simp only [eqD] at h; cases h
    | scr => simp only [eqD] at h; cases h
  | lst p =>
    cases e with
    | non => simp only [eqD, Option.some.injEq] at h; subst h; simp only [Rep] at h1; obtain ⟨ap, vsp, rfl, qp, tp⟩ := h1; cases r1; obtain ⟨itsp, vp, lp⟩ := isList_of I qp; simp only [Rep] at h2; subst h2; cases r2; exact SeqAt.RcAt.list_none lp hu'
    | bl q => simp only [eqD, Option.some.injEq] at h; subst h; simp only [Rep] at h1; obtain ⟨ap, vsp, rfl, qp, tp⟩ := h1; cases r1; obtain ⟨itsp, vp, lp⟩ := isList_of I qp; simp only [Rep] at h2; subst h2; cases r2; exact SeqAt.RcAt.list_bool q lp hu'
    | int q => simp only [eqD, Option.some.injEq] at h; subst h; simp only [Rep] at h1; obtain ⟨ap, vsp, rfl, qp, tp⟩ := h1; cases r1; obtain ⟨itsp, vp, lp⟩ := isList_of I qp; simp only [Rep] at h2; subst h2; obtain ⟨tq, rfl⟩ := r2; exact SeqAt.RcAt.list_int q tq lp hu'
    | str q => simp only [eqD, Option.some.injEq] at h; subst h; simp only [Rep] at h1; obtain ⟨ap, vsp, rfl, qp, tp⟩ := h1; cases r1; obtain ⟨itsp, vp, lp⟩ := isList_of I qp; simp only [Rep] at h2; subst h2; obtain ⟨tq, rfl⟩ := r2; exact SeqAt.RcAt.list_str q tq lp hu'
    | lst q =>
      simp only [hgt] at hn
      simp only [Rep] at h1; obtain ⟨ap, vsp, rfl, qp, tp⟩ := h1; cases r1; obtain ⟨itsp, vp, lp⟩ := isList_of I qp; simp only [Rep] at h2; obtain ⟨aq, vsq, rfl, qq, tq⟩ := h2; cases r2; obtain ⟨itsq, vq, lq⟩ := isList_of I qq
      have g1 : itsp.length = p.length := by rw [← vp.length, tp.len]
      have g2 : itsq.length = q.length := by rw [← vq.length, tq.len]
      simp only [eqD] at h
      split at h
      · rename_i hl
        have := SeqAt.RcAt.lists (A := A) (e := pairB p q) lp lq (by simp only [List.size_toArray]; omega) (by omega) (items_at I hG (n - 1) (by omega) tp tq vp vq h (by omega))
        rw [show itsp.toArray.size = min p.length q.length by simp only [List.size_toArray]; omega, ← (eqZ_all h).1] at this
        exact this
      · rename_i hl
        cases h
        exact SeqAt.RcAt.lists_lengths lp lq (by simp only [List.size_toArray, bne_iff_ne, ne_eq]; omega) (by omega)
    | tup q => simp only [eqD, Option.some.injEq] at h; subst h; simp only [Rep] at h1; obtain ⟨ap, vsp, rfl, qp, tp⟩ := h1; cases r1; obtain ⟨itsp, vp, lp⟩ := isList_of I qp; simp only [Rep] at h2; obtain ⟨aq, vsq, rfl, qq, tq⟩ := h2; cases r2; rw [hG] at qq; obtain ⟨itsq, vq, lq, _⟩ := I.tuple qq; have lq : s.heap.IsTuple aq itsq.toArray := lq; exact SeqAt.RcAt.list_tuple lp lq hu'
    | dK q => simp only [eqD, Option.some.injEq] at h; subst h; simp only [Rep] at h1; obtain ⟨ap, vsp, rfl, qp, tp⟩ := h1; cases r1; obtain ⟨itsp, vp, lp⟩ := isList_of I qp; simp only [Rep] at h2; obtain ⟨aq, vsq, rfl, qq, tq⟩ := h2; cases r2; have lq := (dc_of I).1 qq; exact SeqAt.RcAt.list_dict lp lq hu'
    | dT q => simp only [eqD, Option.some.injEq] at h; subst h; simp only [Rep] at h1; obtain ⟨ap, vsp, rfl, qp, tp⟩ := h1; cases r1; obtain ⟨itsp, vp, lp⟩ := isList_of I qp; simp only [Rep] at h2; obtain ⟨aq, vsq, rfl, qq, tq⟩ := h2; cases r2; have lq := (dc_of I).2 qq; exact SeqAt.RcAt.list_dict lp lq hu'
    | obj => simp only [eqD] at h; cases h
    | scr => simp only [eqD] at h; cases h
  | tup p =>
    cases e with
    | non => simp only [eqD, Option.some.injEq] at h; subst h; simp only [Rep] at h1; obtain ⟨ap, vsp, rfl, qp, tp⟩ := h1; cases r1; rw [hG] at qp; obtain ⟨itsp, vp, lp, _⟩ := I.tuple qp; have lp : s.heap.IsTuple ap itsp.toArray := lp; simp only [Rep] at h2; subst h2; cases r2; exact SeqAt.RcAt.tuple_none lp hu'
    | bl q => simp only [eqD, Option.some.injEq] at h; subst h; simp only [Rep] at h1; obtain ⟨ap, vsp, rfl, qp, tp⟩ := h1; cases r1; rw [hG] at qp; obtain ⟨itsp, vp, lp, _⟩ := I.tuple qp; have lp : s.heap.IsTuple ap itsp.toArray := lp; simp only [Rep] at h2; subst h2; cases r2; exact SeqAt.RcAt.tuple_bool q lp hu'
    | int q => simp only [eqD, Option.some.injEq] at h; subst h; simp only [Rep] at h1; obtain ⟨ap, vsp, rfl, qp, tp⟩ := h1; cases r1; rw [hG] at qp; obtain ⟨itsp, vp, lp, _⟩ := I.tuple qp; have lp : s.heap.IsTuple ap itsp.toArray := lp; simp only [Rep] at h2; subst h2; obtain ⟨tq, rfl⟩ := r2; exact SeqAt.RcAt.tuple_int q tq lp hu'
    | str q => simp only [eqD, Option.some.injEq] at h; subst h; simp only [Rep] at h1; obtain ⟨ap, vsp, rfl, qp, tp⟩ := h1; cases r1; rw [hG] at qp; obtain ⟨itsp, vp, lp, _⟩ := I.tuple qp; have lp : s.heap.IsTuple ap itsp.toArray := lp; simp only [Rep] at h2; subst h2; obtain ⟨tq, rfl⟩ := r2; exact SeqAt.RcAt.tuple_str q tq lp hu'
    | lst q => simp only [eqD, Option.some.injEq] at h; subst h; simp only [Rep] at h1; obtain ⟨ap, vsp, rfl, qp, tp⟩ := h1; cases r1; rw [hG] at qp; obtain ⟨itsp, vp, lp, _⟩ := I.tuple qp; have lp : s.heap.IsTuple ap itsp.toArray := lp; simp only [Rep] at h2; obtain ⟨aq, vsq, rfl, qq, tq⟩ := h2; cases r2; obtain ⟨itsq, vq, lq⟩ := isList_of I qq; exact SeqAt.RcAt.tuple_list lp lq hu'
    | tup q =>
      simp only [hgt] at hn
      simp only [Rep] at h1; obtain ⟨ap, vsp, rfl, qp, tp⟩ := h1; cases r1; rw [hG] at qp; obtain ⟨itsp, vp, lp, _⟩ := I.tuple qp; have lp : s.heap.IsTuple ap itsp.toArray := lp; simp only [Rep] at h2; obtain ⟨aq, vsq, rfl, qq, tq⟩ := h2; cases r2; rw [hG] at qq; obtain ⟨itsq, vq, lq, _⟩ := I.tuple qq; have lq : s.heap.IsTuple aq itsq.toArray := lq
      have g1 : itsp.length = p.length := by rw [← vp.length, tp.len]
      have g2 : itsq.length = q.length := by rw [← vq.length, tq.len]
      simp only [eqD] at h
      cases e3 : eqZ p q with
      | none => rw [e3] at h; cases h
      | some r' =>
        rw [e3] at h
        cases h
        have := SeqAt.RcAt.tuples (A := A) (e := pairB p q) lp lq (by omega) (items_at I hG (n - 1) (by omega) tp tq vp vq e3 (by omega))
        rw [show min itsp.toArray.size itsq.toArray.size = min p.length q.length by simp only [List.size_toArray]; omega, ← (eqZ_all e3).1, List.size_toArray, List.size_toArray, g1, g2] at this
        exact this
    | dK q => simp only [eqD, Option.some.injEq] at h; subst h; simp only [Rep] at h1; obtain ⟨ap, vsp, rfl, qp, tp⟩ := h1; cases r1; rw [hG] at qp; obtain ⟨itsp, vp, lp, _⟩ := I.tuple qp; have lp : s.heap.IsTuple ap itsp.toArray := lp; simp only [Rep] at h2; obtain ⟨aq, vsq, rfl, qq, tq⟩ := h2; cases r2; have lq := (dc_of I).1 qq; exact SeqAt.RcAt.tuple_dict lp lq hu'
    | dT q => simp only [eqD, Option.some.injEq] at h; subst h; simp only [Rep] at h1; obtain ⟨ap, vsp, rfl, qp, tp⟩ := h1; cases r1; rw [hG] at qp; obtain ⟨itsp, vp, lp, _⟩ := I.tuple qp; have lp : s.heap.IsTuple ap itsp.toArray := lp; simp only [Rep] at h2; obtain ⟨aq, vsq, rfl, qq, tq⟩ := h2; cases r2; have lq := (dc_of I).2 qq; exact SeqAt.RcAt.tuple_dict lp lq hu'
    | obj => simp only [eqD] at h; cases h
    | scr => simp only [eqD] at h; cases h
  | dK p =>
    cases e with
    | non => simp only [eqD, Option.some.injEq] at h; subst h; simp only [Rep] at h1; obtain ⟨ap, vsp, rfl, qp, tp⟩ := h1; cases r1; have lp := (dc_of I).1 qp; simp only [Rep] at h2; subst h2; cases r2; exact SeqAt.RcAt.dict_none lp hu'
    | bl q => simp only [eqD, Option.some.injEq] at h; subst h; simp only [Rep] at h1; obtain ⟨ap, vsp, rfl, qp, tp⟩ := h1; cases r1; have lp := (dc_of I).1 qp; simp only [Rep] at h2; subst h2; cases r2; exact SeqAt.RcAt.dict_bool q lp hu'
    | int q => simp only [eqD, Option.some.injEq] at h; subst h; simp only [Rep] at h1; obtain ⟨ap, vsp, rfl, qp, tp⟩ := h1; cases r1; have lp := (dc_of I).1 qp; simp only [Rep] at h2; subst h2; obtain ⟨tq, rfl⟩ := r2; exact SeqAt.RcAt.dict_int q tq lp hu'
    | str q => simp only [eqD, Option.some.injEq] at h; subst h; simp only [Rep] at h1; obtain ⟨ap, vsp, rfl, qp, tp⟩ := h1; cases r1; have lp := (dc_of I).1 qp; simp only [Rep] at h2; subst h2; obtain ⟨tq, rfl⟩ := r2; exact SeqAt.RcAt.dict_str q tq lp hu'
    | lst q => simp only [eqD, Option.some.injEq] at h; subst h; simp only [Rep] at h1; obtain ⟨ap, vsp, rfl, qp, tp⟩ := h1; cases r1; have lp := (dc_of I).1 qp; simp only [Rep] at h2; obtain ⟨aq, vsq, rfl, qq, tq⟩ := h2; cases r2; obtain ⟨itsq, vq, lq⟩ := isList_of I qq; exact SeqAt.RcAt.dict_list lp lq hu'
    | tup q => simp only [eqD, Option.some.injEq] at h; subst h; simp only [Rep] at h1; obtain ⟨ap, vsp, rfl, qp, tp⟩ := h1; cases r1; have lp := (dc_of I).1 qp; simp only [Rep] at h2; obtain ⟨aq, vsq, rfl, qq, tq⟩ := h2; cases r2; rw [hG] at qq; obtain ⟨itsq, vq, lq, _⟩ := I.tuple qq; have lq : s.heap.IsTuple aq itsq.toArray := lq; exact SeqAt.RcAt.dict_tuple lp lq hu'
    | dK => simp only [eqD] at h; cases h
    | dT => simp only [eqD] at h; cases h
    | obj => simp only [eqD] at h; cases h
    | scr => simp only [eqD] at h; cases h
  | dT p =>
    cases e with
    | non => simp only [eqD, Option.some.injEq] at h; subst h; simp only [Rep] at h1; obtain ⟨ap, vsp, rfl, qp, tp⟩ := h1; cases r1; have lp := (dc_of I).2 qp; simp only [Rep] at h2; subst h2; cases r2; exact SeqAt.RcAt.dict_none lp hu'
    | bl q => simp only [eqD, Option.some.injEq] at h; subst h; simp only [Rep] at h1; obtain ⟨ap, vsp, rfl, qp, tp⟩ := h1; cases r1; have lp := (dc_of I).2 qp; simp only [Rep] at h2; subst h2; cases r2; exact SeqAt.RcAt.dict_bool q lp hu'
    | int q => simp only [eqD, Option.some.injEq] at h; subst h; simp only [Rep] at h1; obtain ⟨ap, vsp, rfl, qp, tp⟩ := h1; cases r1; have lp := (dc_of I).2 qp; simp only [Rep] at h2; subst h2; obtain ⟨tq, rfl⟩ := r2; exact SeqAt.RcAt.dict_int q tq lp hu'
    | str q => simp only [eqD, Option.some.injEq] at h; subst h; simp only [Rep] at h1; obtain ⟨ap, vsp, rfl, qp, tp⟩ := h1; cases r1; have lp := (dc_of I).2 qp; simp only [Rep] at h2; subst h2; obtain ⟨tq, rfl⟩ := r2; exact SeqAt.RcAt.dict_str q tq lp hu'
    | lst q => simp only [eqD, Option.some.injEq] at h; subst h; simp only [Rep] at h1; obtain ⟨ap, vsp, rfl, qp, tp⟩ := h1; cases r1; have lp := (dc_of I).2 qp; simp only [Rep] at h2; obtain ⟨aq, vsq, rfl, qq, tq⟩ := h2; cases r2; obtain ⟨itsq, vq, lq⟩ := isList_of I qq; exact SeqAt.RcAt.dict_list lp lq hu'
    | tup q => simp only [eqD, Option.some.injEq] at h; subst h; simp only [Rep] at h1; obtain ⟨ap, vsp, rfl, qp, tp⟩ := h1; cases r1; have lp := (dc_of I).2 qp; simp only [Rep] at h2; obtain ⟨aq, vsq, rfl, qq, tq⟩ := h2; cases r2; rw [hG] at qq; obtain ⟨itsq, vq, lq, _⟩ := I.tuple qq; have lq : s.heap.IsTuple aq itsq.toArray := lq; exact SeqAt.RcAt.dict_tuple lp lq hu'
    | dK => simp only [eqD] at h; cases h
    | dT => simp only [eqD] at h; cases h
    | obj => simp only [eqD] at h; cases h
    | scr => simp only [eqD] at h; cases h
  | obj => cases e <;> (simp only [eqD] at h; cases h)
  | scr => cases e <;> (simp only [eqD] at h; cases h)
theorem neAt_D (I : Inv X pins σ H s) (hG : G.K = X.K) (n : Nat) (d e : D) (A : Around) (x y : V) (u v : Value) (r : Bool) (hn : hgt d ≤ n) (h1 : Rep G H d x) (h2 : Rep G H e y) (r1 : RelV x u) (r2 : RelV y v) (h : eqD d e = some r) (hu : A.units + n < cLine) : SeqAt.RcNeAt A s u v (!r) := by
  have hu' : A.units < cLine := by omega
  cases d with
  | non =>
    cases e with
    | non => simp only [Rep] at h1 h2; subst h1 h2; cases r1; cases r2; simp only [eqD, Option.some.injEq] at h; subst h; exact SeqAt.RcNeAt.none_none
    | bl q => simp only [eqD, Option.some.injEq] at h; subst h; simp only [Rep] at h1; subst h1; cases r1; simp only [Rep] at h2; subst h2; cases r2; exact SeqAt.RcNeAt.none_bool q
    | int q => simp only [eqD, Option.some.injEq] at h; subst h; simp only [Rep] at h1; subst h1; cases r1; simp only [Rep] at h2; subst h2; obtain ⟨tq, rfl⟩ := r2; exact SeqAt.RcNeAt.none_int q tq
    | str q => simp only [eqD, Option.some.injEq] at h; subst h; simp only [Rep] at h1; subst h1; cases r1; simp only [Rep] at h2; subst h2; obtain ⟨tq, rfl⟩ := r2; exact SeqAt.RcNeAt.none_str q tq
    | lst q => simp only [eqD, Option.some.injEq] at h; subst h; simp only [Rep] at h1; subst h1; cases r1; simp only [Rep] at h2; obtain ⟨aq, vsq, rfl, qq, tq⟩ := h2; cases r2; obtain ⟨itsq, vq, lq⟩ := isList_of I qq; exact SeqAt.RcNeAt.none_list lq hu'
    | tup q => simp only [eqD, Option.some.injEq] at h; subst h; simp only [Rep] at h1; subst h1; cases r1; simp only [Rep] at h2; obtain ⟨aq, vsq, rfl, qq, tq⟩ := h2; cases r2; rw [hG] at qq; obtain ⟨itsq, vq, lq, _⟩ := I.tuple qq; have lq : s.heap.IsTuple aq itsq.toArray := lq; exact SeqAt.RcNeAt.none_tuple lq hu'
    | dK q => simp only [eqD, Option.some.injEq] at h; subst h; simp only [Rep] at h1; subst h1; cases r1; simp only [Rep] at h2; obtain ⟨aq, vsq, rfl, qq, tq⟩ := h2; cases r2; have lq := (dc_of I).1 qq; exact SeqAt.RcNeAt.none_dict lq hu'
    | dT q => simp only [eqD, Option.some.injEq] at h; subst h; simp only [Rep] at h1; subst h1; cases r1; simp only [Rep] at h2; obtain ⟨aq, vsq, rfl, qq, tq⟩ := h2; cases r2; have lq := (dc_of I).2 qq; exact SeqAt.RcNeAt.none_dict lq hu'
    | obj => simp only [eqD] at h; cases h
    | scr => simp only [eqD] at h; cases h
  | bl p =>
    cases e with
    | non => simp only [eqD, Option.some.injEq] at h; subst h; simp only [Rep] at h1; subst h1; cases r1; simp only [Rep] at h2; subst h2; cases r2; exact SeqAt.RcNeAt.bool_none p
    | bl q => simp only [eqD, Option.some.injEq] at h; subst h; simp only [Rep] at h1; subst h1; cases r1; simp only [Rep] at h2; subst h2; cases r2; exact SeqAt.RcNeAt.bool_bool p q
    | int q => simp only [eqD, Option.some.injEq] at h; subst h; simp only [Rep] at h1; subst h1; cases r1; simp only [Rep] at h2; subst h2; obtain ⟨tq, rfl⟩ := r2; exact SeqAt.RcNeAt.bool_int p q tq
    | str q => simp only [eqD, Option.some.injEq] at h; subst h; simp only [Rep] at h1; subst h1; cases r1; simp only [Rep] at h2; subst h2; obtain ⟨tq, rfl⟩ := r2; exact SeqAt.RcNeAt.bool_str p q tq
    | lst q => simp only [eqD, Option.some.injEq] at h; subst h; simp only [Rep] at h1; subst h1; cases r1; simp only [Rep] at h2; obtain ⟨aq, vsq, rfl, qq, tq⟩ := h2; cases r2; obtain ⟨itsq, vq, lq⟩ := isList_of I qq; exact SeqAt.RcNeAt.bool_list p lq hu'
    | tup q => simp only [eqD, Option.some.injEq] at h; subst h; simp only [Rep] at h1; subst h1; cases r1; simp only [Rep] at h2; obtain ⟨aq, vsq, rfl, qq, tq⟩ := h2; cases r2; rw [hG] at qq; obtain ⟨itsq, vq, lq, _⟩ := I.tuple qq; have lq : s.heap.IsTuple aq itsq.toArray := lq; exact SeqAt.RcNeAt.bool_tuple p lq hu'
    | dK q => simp only [eqD, Option.some.injEq] at h; subst h; simp only [Rep] at h1; subst h1; cases r1; simp only [Rep] at h2; obtain ⟨aq, vsq, rfl, qq, tq⟩ := h2; cases r2; have lq := (dc_of I).1 qq; exact SeqAt.RcNeAt.bool_dict p lq hu'
    | dT q => simp only [eqD, Option.some.injEq] at h; subst h; simp only [Rep] at h1; subst h1; cases r1; simp only [Rep] at h2; obtain ⟨aq, vsq, rfl, qq, tq⟩ := h2; cases r2; have lq := (dc_of I).2 qq; exact SeqAt.RcNeAt.bool_dict p lq hu'
    | obj => simp only [eqD] at h; cases h
    | scr => simp only [eqD] at h; cases h
  | int p =>
    cases e with
    | non => simp only [eqD, Option.some.injEq] at h; subst h; simp only [Rep] at h1; subst h1; obtain ⟨tp, rfl⟩ := r1; simp only [Rep] at h2; subst h2; cases r2; exact SeqAt.RcNeAt.int_none p tp
    | bl q => simp only [eqD, Option.some.injEq] at h; subst h; simp only [Rep] at h1; subst h1; obtain ⟨tp, rfl⟩ := r1; simp only [Rep] at h2; subst h2; cases r2; exact SeqAt.RcNeAt.int_bool p tp q
    | int q => simp only [eqD, Option.some.injEq] at h; subst h; simp only [Rep] at h1; subst h1; obtain ⟨tp, rfl⟩ := r1; simp only [Rep] at h2; subst h2; obtain ⟨tq, rfl⟩ := r2; exact SeqAt.RcNeAt.int_int p tp q tq
    | str q => simp only [eqD, Option.some.injEq] at h; subst h; simp only [Rep] at h1; subst h1; obtain ⟨tp, rfl⟩ := r1; simp only [Rep] at h2; subst h2; obtain ⟨tq, rfl⟩ := r2; exact SeqAt.RcNeAt.int_str p tp q tq
    | lst q => simp only [eqD, Option.some.injEq] at h; subst h; simp only [Rep] at h1; subst h1; obtain ⟨tp, rfl⟩ := r1; simp only [Rep] at h2; obtain ⟨aq, vsq, rfl, qq, tq⟩ := h2; cases r2; obtain ⟨itsq, vq, lq⟩ := isList_of I qq; exact SeqAt.RcNeAt.int_list p tp lq hu'
    | tup q => simp only [eqD, Option.some.injEq] at h; subst h; simp only [Rep] at h1; subst h1; obtain ⟨tp, rfl⟩ := r1; simp only [Rep] at h2; obtain ⟨aq, vsq, rfl, qq, tq⟩ := h2; cases r2; rw [hG] at qq; obtain ⟨itsq, vq, lq, _⟩ := I.tuple qq; have lq : s.heap.IsTuple aq itsq.toArray := lq; exact SeqAt.RcNeAt.int_tuple p tp lq hu'
    | dK q => simp only [eqD, Option.some.injEq] at h; subst h; simp only [Rep] at h1; subst h1; obtain ⟨tp, rfl⟩ := r1; simp only [Rep] at h2; obtain ⟨aq, vsq, rfl, qq, tq⟩ := h2; cases r2; have lq := (dc_of I).1 qq; exact SeqAt.RcNeAt.int_dict p tp lq hu'
    | dT q => simp only [eqD, Option.some.injEq] at h; subst h; simp only [Rep] at h1; subst h1; obtain ⟨tp, rfl⟩ := r1; simp only [Rep] at h2; obtain ⟨aq, vsq, rfl, qq, tq⟩ := h2; cases r2; have lq := (dc_of I).2 qq; exact SeqAt.RcNeAt.int_dict p tp lq hu'
    | obj => simp only [eqD] at h; cases h
    | scr => simp only [eqD] at h; cases h
  | str p =>
    cases e with
    | non => simp only [eqD, Option.some.injEq] at h; subst h; simp only [Rep] at h1; subst h1; obtain ⟨tp, rfl⟩ := r1; simp only [Rep] at h2; subst h2; cases r2; exact SeqAt.RcNeAt.str_none p tp
    | bl q => simp only [eqD, Option.some.injEq] at h; subst h; simp only [Rep] at h1; subst h1; obtain ⟨tp, rfl⟩ := r1; simp only [Rep] at h2; subst h2; cases r2; exact SeqAt.RcNeAt.str_bool p tp q
    | int q => simp only [eqD, Option.some.injEq] at h; subst h; simp only [Rep] at h1; subst h1; obtain ⟨tp, rfl⟩ := r1; simp only [Rep] at h2; subst h2; obtain ⟨tq, rfl⟩ := r2; exact SeqAt.RcNeAt.str_int p tp q tq
    | str q => simp only [eqD, Option.some.injEq] at h; subst h; simp only [Rep] at h1; subst h1; obtain ⟨tp, rfl⟩ := r1; simp only [Rep] at h2; subst h2; obtain ⟨tq, rfl⟩ := r2; exact SeqAt.RcNeAt.str_str p tp q tq
    | lst q => simp only [eqD, Option.some.injEq] at h; subst h; simp only [Rep] at h1; subst h1; obtain ⟨tp, rfl⟩ := r1; simp only [Rep] at h2; obtain ⟨aq, vsq, rfl, qq, tq⟩ := h2; cases r2; obtain ⟨itsq, vq, lq⟩ := isList_of I qq; exact SeqAt.RcNeAt.str_list p tp lq hu'
    | tup q => simp only [eqD, Option.some.injEq] at h; subst h; simp only [Rep] at h1; subst h1; obtain ⟨tp, rfl⟩ := r1; simp only [Rep] at h2; obtain ⟨aq, vsq, rfl, qq, tq⟩ := h2; cases r2; rw [hG] at qq; obtain ⟨itsq, vq, lq, _⟩ := I.tuple qq; have lq : s.heap.IsTuple aq itsq.toArray := lq; exact SeqAt.RcNeAt.str_tuple p tp lq hu'
    | dK q => simp only [eqD, Option.some.injEq] at h; subst h; simp only [Rep] at h1; subst h1; obtain ⟨tp, rfl⟩ := r1; simp only [Rep] at h2; obtain ⟨aq, vsq, rfl, qq, tq⟩ := h2; cases r2; have lq := (dc_of I).1 qq; exact SeqAt.RcNeAt.str_dict p tp lq hu'
    | dT q => simp only [eqD, Option.some.injEq] at h; subst h; simp only [Rep] at h1; subst h1; obtain ⟨tp, rfl⟩ := r1; simp only [Rep] at h2; obtain ⟨aq, vsq, rfl, qq, tq⟩ := h2; cases r2; have lq := (dc_of I).2 qq; exact SeqAt.RcNeAt.str_dict p tp lq hu'
    | obj => simp only [eqD] at h; cases h
    | scr => simp only [eqD] at h; cases h
  | lst p =>
    cases e with
    | non => simp only [eqD, Option.some.injEq] at h; subst h; simp only [Rep] at h1; obtain ⟨ap, vsp, rfl, qp, tp⟩ := h1; cases r1; obtain ⟨itsp, vp, lp⟩ := isList_of I qp; simp only [Rep] at h2; subst h2; cases r2; exact SeqAt.RcNeAt.list_none lp hu'
    | bl q => simp only [eqD, Option.some.injEq] at h; subst h; simp only [Rep] at h1; obtain ⟨ap, vsp, rfl, qp, tp⟩ := h1; cases r1; obtain ⟨itsp, vp, lp⟩ := isList_of I qp; simp only [Rep] at h2; subst h2; cases r2; exact SeqAt.RcNeAt.list_bool q lp hu'
    | int q => simp only [eqD, Option.some.injEq] at h; subst h; simp only [Rep] at h1; obtain ⟨ap, vsp, rfl, qp, tp⟩ := h1; cases r1; obtain ⟨itsp, vp, lp⟩ := isList_of I qp; simp only [Rep] at h2; subst h2; obtain ⟨tq, rfl⟩ := r2; exact SeqAt.RcNeAt.list_int q tq lp hu'
    | str q => simp only [eqD, Option.some.injEq] at h; subst h; simp only [Rep] at h1; obtain ⟨ap, vsp, rfl, qp, tp⟩ := h1; cases r1; obtain ⟨itsp, vp, lp⟩ := isList_of I qp; simp only [Rep] at h2; subst h2; obtain ⟨tq, rfl⟩ := r2; exact SeqAt.RcNeAt.list_str q tq lp hu'
    | lst q =>
      simp only [hgt] at hn
      simp only [Rep] at h1; obtain ⟨ap, vsp, rfl, qp, tp⟩ := h1; cases r1; obtain ⟨itsp, vp, lp⟩ := isList_of I qp; simp only [Rep] at h2; obtain ⟨aq, vsq, rfl, qq, tq⟩ := h2; cases r2; obtain ⟨itsq, vq, lq⟩ := isList_of I qq
      have g1 : itsp.length = p.length := by rw [← vp.length, tp.len]
      have g2 : itsq.length = q.length := by rw [← vq.length, tq.len]
      simp only [eqD] at h
      split at h
      · rename_i hl
        have := SeqAt.RcNeAt.lists (A := A) (e := pairB p q) lp lq (by simp only [List.size_toArray]; omega) (by omega) (items_at I hG (n - 1) (by omega) tp tq vp vq h (by omega))
        rw [show itsp.toArray.size = min p.length q.length by simp only [List.size_toArray]; omega, ← (eqZ_all h).1] at this
        exact this
      · rename_i hl
        cases h
        exact SeqAt.RcNeAt.lists_lengths lp lq (by simp only [List.size_toArray, bne_iff_ne, ne_eq]; omega) (by omega)
    | tup q => simp only [eqD, Option.some.injEq] at h; subst h; simp only [Rep] at h1; obtain ⟨ap, vsp, rfl, qp, tp⟩ := h1; cases r1; obtain ⟨itsp, vp, lp⟩ := isList_of I qp; simp only [Rep] at h2; obtain ⟨aq, vsq, rfl, qq, tq⟩ := h2; cases r2; rw [hG] at qq; obtain ⟨itsq, vq, lq, _⟩ := I.tuple qq; have lq : s.heap.IsTuple aq itsq.toArray := lq; exact SeqAt.RcNeAt.list_tuple lp lq hu'
    | dK q => simp only [eqD, Option.some.injEq] at h; subst h; simp only [Rep] at h1; obtain ⟨ap, vsp, rfl, qp, tp⟩ := h1; cases r1; obtain ⟨itsp, vp, lp⟩ := isList_of I qp; simp only [Rep] at h2; obtain ⟨aq, vsq, rfl, qq, tq⟩ := h2; cases r2; have lq := (dc_of I).1 qq; exact SeqAt.RcNeAt.list_dict lp lq hu'
    | dT q => simp only [eqD, Option.some.injEq] at h; subst h; simp only [Rep] at h1; obtain ⟨ap, vsp, rfl, qp, tp⟩ := h1; cases r1; obtain ⟨itsp, vp, lp⟩ := isList_of I qp; simp only [Rep] at h2; obtain ⟨aq, vsq, rfl, qq, tq⟩ := h2; cases r2; have lq := (dc_of I).2 qq; exact SeqAt.RcNeAt.list_dict lp lq hu'
    | obj => simp only [eqD] at h; cases h
    | scr => simp only [eqD] at h; cases h
  | tup p =>
    cases e with
    | non => simp only [eqD, Option.some.injEq] at h; subst h; simp only [Rep] at h1; obtain ⟨ap, vsp, rfl, qp, tp⟩ := h1; cases r1; rw [hG] at qp; obtain ⟨itsp, vp, lp, _⟩ := I.tuple qp; have lp : s.heap.IsTuple ap itsp.toArray := lp; simp only [Rep] at h2; subst h2; cases r2; exact SeqAt.RcNeAt.tuple_none lp hu'
    | bl q => simp only [eqD, Option.some.injEq] at h; subst h; simp only [Rep] at h1; obtain ⟨ap, vsp, rfl, qp, tp⟩ := h1; cases r1; rw [hG] at qp; obtain ⟨itsp, vp, lp, _⟩ := I.tuple qp; have lp : s.heap.IsTuple ap itsp.toArray := lp; simp only [Rep] at h2; subst h2; cases r2; exact SeqAt.RcNeAt.tuple_bool q lp hu'
    | int q => simp only [eqD, Option.some.injEq] at h; subst h; simp only [Rep] at h1; obtain ⟨ap, vsp, rfl, qp, tp⟩ := h1; cases r1; rw [hG] at qp; obtain ⟨itsp, vp, lp, _⟩ := I.tuple qp; have lp : s.heap.IsTuple ap itsp.toArray := lp; simp only [Rep] at h2; subst h2; obtain ⟨tq, rfl⟩ := r2; exact SeqAt.RcNeAt.tuple_int q tq lp hu'
    | str q => simp only [eqD, Option.some.injEq] at h; subst h; simp only [Rep] at h1; obtain ⟨ap, vsp, rfl, qp, tp⟩ := h1; cases r1; rw [hG] at qp; obtain ⟨itsp, vp, lp, _⟩ := I.tuple qp; have lp : s.heap.IsTuple ap itsp.toArray := lp; simp only [Rep] at h2; subst h2; obtain ⟨tq, rfl⟩ := r2; exact SeqAt.RcNeAt.tuple_str q tq lp hu'
    | lst q => simp only [eqD, Option.some.injEq] at h; subst h; simp only [Rep] at h1; obtain ⟨ap, vsp, rfl, qp, tp⟩ := h1; cases r1; rw [hG] at qp; obtain ⟨itsp, vp, lp, _⟩ := I.tuple qp; have lp : s.heap.IsTuple ap itsp.toArray := lp; simp only [Rep] at h2; obtain ⟨aq, vsq, rfl, qq, tq⟩ := h2; cases r2; obtain ⟨itsq, vq, lq⟩ := isList_of I qq; exact SeqAt.RcNeAt.tuple_list lp lq hu'
    | tup q =>
      simp only [hgt] at hn
      simp only [Rep] at h1; obtain ⟨ap, vsp, rfl, qp, tp⟩ := h1; cases r1; rw [hG] at qp; obtain ⟨itsp, vp, lp, _⟩ := I.tuple qp; have lp : s.heap.IsTuple ap itsp.toArray := lp; simp only [Rep] at h2; obtain ⟨aq, vsq, rfl, qq, tq⟩ := h2; cases r2; rw [hG] at qq; obtain ⟨itsq, vq, lq, _⟩ := I.tuple qq; have lq : s.heap.IsTuple aq itsq.toArray := lq
      have g1 : itsp.length = p.length := by rw [← vp.length, tp.len]
      have g2 : itsq.length = q.length := by rw [← vq.length, tq.len]
      simp only [eqD] at h
      cases e3 : eqZ p q with
      | none => rw [e3] at h; cases h
      | some r' =>
        rw [e3] at h
        cases h
        have := SeqAt.RcNeAt.tuples (A := A) (e := pairB p q) lp lq (by omega) (items_at I hG (n - 1) (by omega) tp tq vp vq e3 (by omega))
        rw [show min itsp.toArray.size itsq.toArray.size = min p.length q.length by simp only [List.size_toArray]; omega, ← (eqZ_all e3).1, List.size_toArray, List.size_toArray, g1, g2] at this
        exact this
    | dK q => simp only [eqD, Option.some.injEq] at h; subst h; simp only [Rep] at h1; obtain ⟨ap, vsp, rfl, qp, tp⟩ := h1; cases r1; rw [hG] at qp; obtain ⟨itsp, vp, lp, _⟩ := I.tuple qp; have lp : s.heap.IsTuple ap itsp.toArray := lp; simp only [Rep] at h2; obtain ⟨aq, vsq, rfl, qq, tq⟩ := h2; cases r2; have lq := (dc_of I).1 qq; exact SeqAt.RcNeAt.tuple_dict lp lq hu'
    | dT q => simp only [eqD, Option.some.injEq] at h; subst h; simp only [Rep] at h1; obtain ⟨ap, vsp, rfl, qp, tp⟩ := h1; cases r1; rw [hG] at qp; obtain ⟨itsp, vp, lp, _⟩ := I.tuple qp; have lp : s.heap.IsTuple ap itsp.toArray := lp; simp only [Rep] at h2; obtain ⟨aq, vsq, rfl, qq, tq⟩ := h2; cases r2; have lq := (dc_of I).2 qq; exact SeqAt.RcNeAt.tuple_dict lp lq hu'
    | obj => simp only [eqD] at h; cases h
    | scr => simp only [eqD] at h; cases h
  | dK p =>
    cases e with
    | non => simp only [eqD, Option.some.injEq] at h; subst h; simp only [Rep] at h1; obtain ⟨ap, vsp, rfl, qp, tp⟩ := h1; cases r1; have lp := (dc_of I).1 qp; simp only [Rep] at h2; subst h2; cases r2; exact SeqAt.RcNeAt.dict_none lp hu'
    | bl q => simp only [eqD, Option.some.injEq] at h; subst h; simp only [Rep] at h1; obtain ⟨ap, vsp, rfl, qp, tp⟩ := h1; cases r1; have lp := (dc_of I).1 qp; simp only [Rep] at h2; subst h2; cases r2; exact SeqAt.RcNeAt.dict_bool q lp hu'
    | int q => simp only [eqD, Option.some.injEq] at h; subst h; simp only [Rep] at h1; obtain ⟨ap, vsp, rfl, qp, tp⟩ := h1; cases r1; have lp := (dc_of I).1 qp; simp only [Rep] at h2; subst h2; obtain ⟨tq, rfl⟩ := r2; exact SeqAt.RcNeAt.dict_int q tq lp hu'
    | str q => simp only [eqD, Option.some.injEq] at h; subst h; simp only [Rep] at h1; obtain ⟨ap, vsp, rfl, qp, tp⟩ := h1; cases r1; have lp := (dc_of I).1 qp; simp only [Rep] at h2; subst h2; obtain ⟨tq, rfl⟩ := r2; exact SeqAt.RcNeAt.dict_str q tq lp hu'
    | lst q => simp only [eqD, Option.some.injEq] at h; subst h; simp only [Rep] at h1; obtain ⟨ap, vsp, rfl, qp, tp⟩ := h1; cases r1; have lp := (dc_of I).1 qp; simp only [Rep] at h2; obtain ⟨aq, vsq, rfl, qq, tq⟩ := h2; cases r2; obtain ⟨itsq, vq, lq⟩ := isList_of I qq; exact SeqAt.RcNeAt.dict_list lp lq hu'
    | tup q => simp only [eqD, Option.some.injEq] at h; subst h; simp only [Rep] at h1; obtain ⟨ap, vsp, rfl, qp, tp⟩ := h1; cases r1; have lp := (dc_of I).1 qp; simp only [Rep] at h2; obtain ⟨aq, vsq, rfl, qq, tq⟩ := h2; cases r2; rw [hG] at qq; obtain ⟨itsq, vq, lq, _⟩ := I.tuple qq; have lq : s.heap.IsTuple aq itsq.toArray := lq; exact SeqAt.RcNeAt.dict_tuple lp lq hu'
    | dK => simp only [eqD] at h; cases h
    | dT => simp only [eqD] at h; cases h
    | obj => simp only [eqD] at h; cases h
    | scr => simp only [eqD] at h; cases h
  | dT p =>
    cases e with
    | non => simp only [eqD, Option.some.injEq] at h; subst h; simp only [Rep] at h1; obtain ⟨ap, vsp, rfl, qp, tp⟩ := h1; cases r1; have lp := (dc_of I).2 qp; simp only [Rep] at h2; subst h2; cases r2; exact SeqAt.RcNeAt.dict_none lp hu'
    | bl q => simp only [eqD, Option.some.injEq] at h; subst h; simp only [Rep] at h1; obtain ⟨ap, vsp, rfl, qp, tp⟩ := h1; cases r1; have lp := (dc_of I).2 qp; simp only [Rep] at h2; subst h2; cases r2; exact SeqAt.RcNeAt.dict_bool q lp hu'
    | int q => simp only [eqD, Option.some.injEq] at h; subst h; simp only [Rep] at h1; obtain ⟨ap, vsp, rfl, qp, tp⟩ := h1; cases r1; have lp := (dc_of I).2 qp; simp only [Rep] at h2; subst h2; obtain ⟨tq, rfl⟩ := r2; exact SeqAt.RcNeAt.dict_int q tq lp hu'
    | str q => simp only [eqD, Option.some.injEq] at h; subst h; simp only [Rep] at h1; obtain ⟨ap, vsp, rfl, qp, tp⟩ := h1; cases r1; have lp := (dc_of I).2 qp; simp only [Rep] at h2; subst h2; obtain ⟨tq, rfl⟩ := r2; exact SeqAt.RcNeAt.dict_str q tq lp hu'
    | lst q => simp only [eqD, Option.some.injEq] at h; subst h; simp only [Rep] at h1; obtain ⟨ap, vsp, rfl, qp, tp⟩ := h1; cases r1; have lp := (dc_of I).2 qp; simp only [Rep] at h2; obtain ⟨aq, vsq, rfl, qq, tq⟩ := h2; cases r2; obtain ⟨itsq, vq, lq⟩ := isList_of I qq; exact SeqAt.RcNeAt.dict_list lp lq hu'
    | tup q => simp only [eqD, Option.some.injEq] at h; subst h; simp only [Rep] at h1; obtain ⟨ap, vsp, rfl, qp, tp⟩ := h1; cases r1; have lp := (dc_of I).2 qp; simp only [Rep] at h2; obtain ⟨aq, vsq, rfl, qq, tq⟩ := h2; cases r2; rw [hG] at qq; obtain ⟨itsq, vq, lq, _⟩ := I.tuple qq; have lq : s.heap.IsTuple aq itsq.toArray := lq; exact SeqAt.RcNeAt.dict_tuple lp lq hu'
    | dK => simp only [eqD] at h; cases h
    | dT => simp only [eqD] at h; cases h
    | obj => simp only [eqD] at h; cases h
    | scr => simp only [eqD] at h; cases h
  | obj => cases e <;> (simp only [eqD] at h; cases h)
  | scr => cases e <;> (simp only [eqD] at h; cases h)
end
/-! ### ==, != -/
def rEqD (ne : Bool) : Gx → R2 := fun G x y H Q => ∃ d e r, hgt d ≤ 64 ∧ Rep G H d x ∧ Rep G H e y ∧ eqD d e = some r ∧ Q (.bl (if ne then !r else r)) H
theorem opr_eq {X : Cx} {G : Gx} (hG : G.K = X.K) (hu : X.A.units + 100 < cLine) : OpR X (compareOp .Eq) (rEqD false G) := by
  intro pins s σ H x y v u Q I rx ry h
  obtain ⟨d, e, r, hh, h1, h2, h3, q⟩ := h
  exact rcAt_D I hG 64 d e X.A x y v u r hh h1 h2 rx ry h3 (by omega) X.prog X.w X.xe _ ⟨.bl _, H, I, rfl, q⟩
theorem opr_ne {X : Cx} {G : Gx} (hG : G.K = X.K) (hu : X.A.units + 100 < cLine) : OpR X (compareOp .NotEq) (rEqD true G) := by
  intro pins s σ H x y v u Q I rx ry h
  obtain ⟨d, e, r, hh, h1, h2, h3, q⟩ := h
  exact neAt_D I hG 64 d e X.A x y v u r hh h1 h2 rx ry h3 (by omega) X.prog X.w X.xe _ ⟨.bl _, H, I, rfl, q⟩
theorem Acc.deep {G : Gx} {S H : Hp} (s : Sub S H) {d : D} {v : V} (h : Acc false G S H d v) : Rep G H d v := Rep1.deep s h
theorem ok_eq : OpOk false opEq (rB (rEqD false)) := by
  intro G S H vs ds z Q s ac e q
  unfold opEq at e
  split at e
  · obtain ⟨v, w, rfl, h1, h2⟩ := ac.two
    split at e
    · rename_i a b hh
      cases e2 : eqD a b with
      | none => rw [e2] at e; cases e
      | some r => rw [e2] at e; cases e; exact ⟨_, _, r, hh, h1.deep s, h2.deep s, e2, q.bl s⟩
    · cases e
  · cases e
theorem ok_ne : OpOk false opNe (rB (rEqD true)) := by
  intro G S H vs ds z Q s ac e q
  unfold opNe at e
  split at e
  · obtain ⟨v, w, rfl, h1, h2⟩ := ac.two
    split at e
    · rename_i a b hh
      cases e2 : eqD a b with
      | none => rw [e2] at e; cases e
      | some r => rw [e2] at e; cases e; exact ⟨_, _, r, hh, h1.deep s, h2.deep s, e2, q.bl s⟩
    · cases e
  · cases e
end DL
namespace DL
open PySem PySem.Spec PyProof.Rows L2
/-! ### in -/
theorem any_split {P : Value → Bool → Prop} : ∀ {its : List Value} {bs : List Bool}, Paired P its bs → ∃ e : Value → Bool, (∀ u ∈ its, P u (e u)) ∧ its.any e = bs.any id := by
  intro its bs h
  classical
  refine ⟨fun u => decide ((u, true) ∈ its.zip bs), ?_, ?_⟩
  · intro u hu
    by_cases z : (u, true) ∈ its.zip bs
    · show P u (decide ((u, true) ∈ its.zip bs))
      rw [decide_eq_true z]
      clear hu
      induction h with
      | nil => cases z
      | cons r t ih =>
        rcases List.mem_cons.mp z with e | z
        · cases e; exact r
        · exact ih z
    · show P u (decide ((u, true) ∈ its.zip bs))
      rw [decide_eq_false z]
      induction h with
      | nil => cases hu
      | @cons w b its bs r t ih =>
        rcases List.mem_cons.mp hu with rfl | hu
        · cases b with
          | false => exact r
          | true => exact absurd (List.mem_cons_self) z
        · exact ih hu fun q => z (List.mem_cons_of_mem _ q)
  · have key : ∀ (Z : List (Value × Bool)), (∀ p ∈ its.zip bs, p ∈ Z) → (∀ u, (u, true) ∈ Z → (u, true) ∈ its.zip bs ∨ ∃ w, (w, true) ∈ its.zip bs) → True := fun _ _ _ => trivial
    rw [Bool.eq_iff_iff, List.any_eq_true, List.any_eq_true]
    constructor
    · rintro ⟨u, hu, h2⟩
      have h3 := of_decide_eq_true h2
      exact ⟨true, (List.of_mem_zip h3).2, rfl⟩
    · rintro ⟨b, hb, h2⟩
      simp only [id] at h2
      subst h2
      clear key
      have : ∃ u, u ∈ its ∧ (u, true) ∈ its.zip bs := by
        induction h with
        | nil => cases hb
        | @cons w b its bs r t ih =>
          rcases List.mem_cons.mp hb with rfl | hb
          · exact ⟨w, List.mem_cons_self, List.mem_cons_self⟩
          · obtain ⟨u, h1, h2⟩ := ih hb
            exact ⟨u, List.mem_cons_of_mem _ h1, List.mem_cons_of_mem _ h2⟩
      obtain ⟨u, h1, h2⟩ := this
      exact ⟨u, h1, decide_eq_true h2⟩
section
variable {X : Cx} {pins : List (Addr × Obj)} {σ : St} {H : Hp} {s : Shared} {G : Gx}
theorem anyD_pair (I : Inv X pins σ H s) (hG : G.K = X.K) (n : Nat) {x : D} {A : Around} {xv : V} {v : Value} (hx : Rep G H x xv) (rx : RelV xv v) (hu : A.units + n < cLine) : ∀ {ys : List D} {ws : List V} {its : List Value} {r : Bool}, hgtL ys ≤ n → RepL G H ys ws → Vals ws its → anyD x ys = some r →
    ∃ bs : List Bool, Paired (fun u b => SeqAt.EqAt A s u v b) its bs ∧ r = bs.any id
  | [], ws, its, r, _, h, hv, e => by
    simp only [RepL] at h
    subst h
    cases hv
    simp only [anyD] at e
    cases e
    exact ⟨[], .nil, rfl⟩
  | y :: ys, ws, its, r, hn, h, hv, e => by
    simp only [RepL] at h
    obtain ⟨w, t, rfl, p, h⟩ := h
    cases hv with
    | cons r1 rt =>
      simp only [hgtL] at hn
      simp only [anyD] at e
      cases e1 : eqD y x with
      | none => rw [e1] at e; cases e
      | some a =>
        rw [e1] at e
        dsimp only at e
        cases e2 : anyD x ys with
        | none => rw [e2] at e; cases e
        | some b =>
          rw [e2] at e
          cases e
          obtain ⟨bs, q1, q2⟩ := anyD_pair I hG n hx rx hu (by omega) h rt e2
          exact ⟨a :: bs, .cons (eqAt_D I hG n y x A w xv _ v a (by omega) p hx r1 rx e1 hu) q1, by rw [List.any_cons, q2]; rfl⟩
end
/-- x in y -/
def rInL (neg : Bool) : Gx → R2 := fun G x y H Q => ∃ d ys r, hgtL ys ≤ 64 ∧ Rep G H d x ∧ (Rep G H (.lst ys) y ∨ Rep G H (.tup ys) y) ∧ anyD d ys = some r ∧ Q (.bl (if neg then !r else r)) H
def rInS (neg : Bool) : R2 := fun x y H Q => ∃ i j, x = .str i ∧ y = .str j ∧ Q (.bl (if neg then !inStr i j else inStr i j)) H
def rInK (neg : Bool) : R2 := fun x y H Q => ∃ a kvs k, y = .ref a ∧ H a = some (.dK kvs) ∧ x = kV k ∧ Q (.bl (if neg then !(valV kvs k).isSome else (valV kvs k).isSome)) H
def rIn (neg : Bool) : Gx → R2 := fun G x y H Q => rInL neg G x y H Q ∨ rInS neg x y H Q ∨ rInK neg x y H Q
section
variable {X : Cx} {G : Gx}
theorem opr_in (hG : G.K = X.K) (hu : X.A.units + 100 < cLine) : OpR X (compareOp .In) (rIn false G) := by
  intro pins s σ H x y v u Q I rx ry h
  rcases h with ⟨d, ys, r, hh, h1, h2, h3, q⟩ | ⟨i, j, rfl, rfl, q⟩ | ⟨a, kvs, k, rfl, e, rfl, q⟩
  · have fin := fun (b : Bool) (hb : b = r) => (⟨.bl b, H, I, rfl, by rw [hb]; exact q⟩ : EP X pins σ Q (.bool b) s)
    rcases h2 with h2 | h2
    · simp only [Rep] at h2
      obtain ⟨a, vs, rfl, e, t⟩ := h2
      cases ry
      obtain ⟨its, rv, l⟩ := isList_of I e
      obtain ⟨bs, q1, q2⟩ := anyD_pair I hG 64 (A := X.A.in1) h1 rx (by show X.A.units + 1 + 64 < cLine; omega) hh t rv h3
      obtain ⟨f, f1, f2⟩ := any_split q1
      exact SeqAt.in_listAt f l (fun w hw => f1 w (by simpa using hw)) (fin _ (by rw [q2, ← f2]; simp))
    · simp only [Rep] at h2
      obtain ⟨a, vs, rfl, e, t⟩ := h2
      cases ry
      rw [hG] at e
      obtain ⟨its, rv, l, _⟩ := I.tuple e
      obtain ⟨bs, q1, q2⟩ := anyD_pair I hG 64 (A := X.A.in1) h1 rx (by show X.A.units + 1 + 64 < cLine; omega) hh t rv h3
      obtain ⟨f, f1, f2⟩ := any_split q1
      exact SeqAt.in_tupleAt f (show s.heap.IsTuple a its.toArray from l) (fun w hw => f1 w (by simpa using hw)) (fin _ (by rw [q2, ← f2]; simp))
  · exact op_in_str pins s σ H _ _ v u Q I rx ry ⟨i, j, rfl, rfl, q⟩
  · cases ry
    exact d_in (by omega) I (DGet.k e) rx fun s' I' => ⟨.bl _, H, I', rfl, q⟩
theorem opr_notin (hG : G.K = X.K) (hu : X.A.units + 100 < cLine) : OpR X (compareOp .NotIn) (rIn true G) := by
  intro pins s σ H x y v u Q I rx ry h
  rcases h with ⟨d, ys, r, hh, h1, h2, h3, q⟩ | ⟨i, j, rfl, rfl, q⟩ | ⟨a, kvs, k, rfl, e, rfl, q⟩
  · have fin := fun (b : Bool) (hb : b = r) => (⟨.bl (!b), H, I, rfl, by rw [hb]; exact q⟩ : EP X pins σ Q (.bool (!b)) s)
    rcases h2 with h2 | h2
    · simp only [Rep] at h2
      obtain ⟨a, vs, rfl, e, t⟩ := h2
      cases ry
      obtain ⟨its, rv, l⟩ := isList_of I e
      obtain ⟨bs, q1, q2⟩ := anyD_pair I hG 64 (A := X.A.in1) h1 rx (by show X.A.units + 1 + 64 < cLine; omega) hh t rv h3
      obtain ⟨f, f1, f2⟩ := any_split q1
      exact SeqAt.notIn_listAt f l (fun w hw => f1 w (by simpa using hw)) (fin _ (by rw [q2, ← f2]; simp))
    · simp only [Rep] at h2
      obtain ⟨a, vs, rfl, e, t⟩ := h2
      cases ry
      rw [hG] at e
      obtain ⟨its, rv, l, _⟩ := I.tuple e
      obtain ⟨bs, q1, q2⟩ := anyD_pair I hG 64 (A := X.A.in1) h1 rx (by show X.A.units + 1 + 64 < cLine; omega) hh t rv h3
      obtain ⟨f, f1, f2⟩ := any_split q1
      exact SeqAt.notIn_tupleAt f (show s.heap.IsTuple a its.toArray from l) (fun w hw => f1 w (by simpa using hw)) (fin _ (by rw [q2, ← f2]; simp))
  · exact L2.op_notin_str pins s σ H _ _ v u Q I rx ry ⟨i, j, rfl, rfl, q⟩
  · cases ry
    exact d_notIn (by omega) I (DGet.k e) rx fun s' I' => ⟨.bl _, H, I', rfl, q⟩
end
theorem keyOf_kV {G : Gx} {S H : Hp} {k : D} {κ : Key} {v : V} (h : Acc false G S H k v) (e : keyOf k = some κ) : v = kV κ := by
  cases k <;> simp only [keyOf, Option.some.injEq] at e <;> first
    | (subst e; first | exact h.int | exact h.str)
    | cases e
theorem lookG_val {G : Gx} {S : Hp} : ∀ {kvs : List (Key × D)} {ws : List (Key × V)} (κ : Key), RepK G S kvs ws → (lookG kvs κ).isSome = (valV ws κ).isSome
  | [], ws, κ, h => by simp only [RepK] at h; subst h; rfl
  | (k, d) :: kvs, ws, κ, h => by
    simp only [RepK] at h
    obtain ⟨v, r, rfl, p, t⟩ := h
    have ih := lookG_val κ t
    unfold lookG valV at ih ⊢
    rw [List.find?_cons, List.find?_cons]
    by_cases z : k = κ
    · simp [z]
    · simp only [z, decide_false]
      exact ih
theorem ok_in : OpOk false opInn (rB (rIn false)) := by
  intro G S H vs ds z Q s ac e q
  unfold opInn at e
  split at e
  · obtain ⟨v, w, rfl, h1, h2⟩ := ac.two
    split at e
    · rename_i x ys hh
      cases e2 : anyD x ys with
      | none => rw [e2] at e; cases e
      | some r => rw [e2] at e; cases e; exact .inl ⟨_, _, r, hh, h1.deep s, .inl (h2.deep s), e2, q.bl s⟩
    · cases e
  · obtain ⟨v, w, rfl, h1, h2⟩ := ac.two
    split at e
    · rename_i x ys hh
      cases e2 : anyD x ys with
      | none => rw [e2] at e; cases e
      | some r => rw [e2] at e; cases e; exact .inl ⟨_, _, r, hh, h1.deep s, .inr (h2.deep s), e2, q.bl s⟩
    · cases e
  · obtain ⟨v, w, rfl, h1, h2⟩ := ac.two
    cases h1.str; cases h2.str; cases e
    exact .inr (.inl ⟨_, _, rfl, rfl, q.bl s⟩)
  · obtain ⟨v, w, rfl, h1, h2⟩ := ac.two
    rename_i k kvs
    obtain ⟨a, ws, rfl, e1, r1⟩ := h2.dK s
    cases e2 : keyOf k with
    | none => rw [e2] at e; cases e
    | some κ =>
      rw [e2] at e
      cases e
      refine .inr (.inr ⟨a, ws, κ, rfl, e1, keyOf_kV h1 e2, ?_⟩)
      have := q.bl s
      rw [lookG_val κ r1] at this
      exact this
  · cases e
theorem ok_notin : OpOk false opNotin (rB (rIn true)) := by
  intro G S H vs ds z Q s ac e q
  unfold opNotin at e
  split at e
  · obtain ⟨v, w, rfl, h1, h2⟩ := ac.two
    split at e
    · rename_i x ys hh
      cases e2 : anyD x ys with
      | none => rw [e2] at e; cases e
      | some r => rw [e2] at e; cases e; exact .inl ⟨_, _, r, hh, h1.deep s, .inl (h2.deep s), e2, q.bl s⟩
    · cases e
  · obtain ⟨v, w, rfl, h1, h2⟩ := ac.two
    split at e
    · rename_i x ys hh
      cases e2 : anyD x ys with
      | none => rw [e2] at e; cases e
      | some r => rw [e2] at e; cases e; exact .inl ⟨_, _, r, hh, h1.deep s, .inr (h2.deep s), e2, q.bl s⟩
    · cases e
  · obtain ⟨v, w, rfl, h1, h2⟩ := ac.two
    cases h1.str; cases h2.str; cases e
    exact .inr (.inl ⟨_, _, rfl, rfl, q.bl s⟩)
  · obtain ⟨v, w, rfl, h1, h2⟩ := ac.two
    rename_i k kvs
    obtain ⟨a, ws, rfl, e1, r1⟩ := h2.dK s
    cases e2 : keyOf k with
    | none => rw [e2] at e; cases e
    | some κ =>
      rw [e2] at e
      cases e
      refine .inr (.inr ⟨a, ws, κ, rfl, e1, keyOf_kV h1 e2, ?_⟩)
      have := q.bl s
      rw [lookG_val κ r1] at this
      exact this
  · cases e

/-! ### isinstance -/
theorem kit_isTy (K : PySem.W.Frag) {t : String} {T : String} {b : Bool} (h : kitB t T = some b) : PySem.W.kitOne K (.type t) (.type T) = some b := h
def rTyOf (tys : List String) : Gx → List V → Hp → VK → Prop := fun G xs H Q => ∃ x t, xs = [x] ∧ TyX G.K H x (.type t) ∧ t ∈ ["NoneType", "bool", "int", "str", "list", "tuple", "dict"] ∧ Q (.bl (tys.any (isTy t))) H
theorem scr_ty {K : PySem.W.Frag} {H : Hp} {a : Addr} {xs : List V} (h : SqL K H a xs) : TyX K H (.ref a) (.type "list") := by
  rcases h with (h | ⟨o, h⟩) | ⟨o, its, n, e, c, _⟩
  · exact .base (.lst h)
  · exact .base (.frz h)
  · exact .kList e c
theorem tup_ty {K : PySem.W.Frag} {H : Hp} {a : Addr} {xs : List V} (h : SqT K H a xs) : TyX K H (.ref a) (.type "tuple") := by
  rcases h with (h | ⟨o, h⟩) | ⟨o, its, n, e, c, _⟩
  · exact .base (.tup h)
  · exact .fTuple h
  · exact .kTuple e c
theorem ok_isin (tys : List String) : OpOk false (opIsin tys) (rTyOf tys) := by
  intro G S H vs ds z Q s ac e q
  unfold opIsin at e
  split at e
  · rename_i d
    obtain ⟨v, rfl, h1⟩ := ac.one
    cases d with
    | non => cases h1.non; cases e; exact ⟨_, _, rfl, .base .non, by decide, q.bl s⟩
    | bl b => cases h1.bl; cases e; exact ⟨_, _, rfl, .base (.bl b), by decide, q.bl s⟩
    | int b => cases h1.int; cases e; exact ⟨_, _, rfl, .base (.int b), by decide, q.bl s⟩
    | str b => cases h1.str; cases e; exact ⟨_, _, rfl, .base (.str b), by decide, q.bl s⟩
    | lst ds => obtain ⟨a, vs, rfl, e1, _⟩ := h1.lst s; cases e; exact ⟨_, _, rfl, .base (.lst e1), by decide, q.bl s⟩
    | tup ds => obtain ⟨a, vs, rfl, e1, _⟩ := h1.tup s; cases e; exact ⟨_, _, rfl, tup_ty e1, by decide, q.bl s⟩
    | dK ds => obtain ⟨a, vs, rfl, e1, _⟩ := h1.dK s; cases e; exact ⟨_, _, rfl, .base (.dK e1), by decide, q.bl s⟩
    | dT ds =>
      have : ∃ a ws, v = .ref a ∧ H a = some (.dT ws) := by
        obtain ⟨a, ws, e1, e2, _⟩ := (show Rep1 G S H (.dT ds) v from h1)
        exact ⟨a, ws, e1, e2⟩
      obtain ⟨a, ws, rfl, e1⟩ := this
      cases e
      exact ⟨_, _, rfl, .base (.dT e1), by decide, q.bl s⟩
    | scr ns => obtain ⟨a, rfl, e1⟩ := h1.scr s; cases e; exact ⟨_, _, rfl, scr_ty e1, by decide, q.bl s⟩
    | obj c fs => cases e
  · cases e
/-! ### join, split -/
def rM1 (r : Gx → V → List V → Hp → VK → Prop) : Gx → List V → Hp → VK → Prop := fun G vs H Q => match vs with
  | x :: xs => r G x xs H Q
  | _ => False
def rJoin (K : PySem.W.Frag) : V → List V → Hp → VK → Prop := fun x xs H Q => ∃ a p, ∃ ys : List Str, x = .str a ∧ xs = [.ref p] ∧ (SqL K H p (ys.map V.str) ∨ SqT K H p (ys.map V.str)) ∧ (ys.map (·.length)).sum + ys.length * a.length ≤ 16777216 ∧ Q (.str (Txt.join a ys)) H
def rSplit : V → List V → Hp → VK → Prop := fun x xs H Q => ∃ a b, x = .str a ∧ xs = [.str b] ∧ (b.length == 0) = false ∧ a.length + 2 ≤ sizeLine ∧ rNewStrs (Txt.split a b) H Q
theorem ok_join : OpOk false opJoin (rM1 fun G => rJoin G.K) := by
  intro G S H vs ds z Q s ac e q
  unfold opJoin at e
  split at e
  · obtain ⟨v, w, rfl, h1, h2⟩ := ac.two
    obtain ⟨l1, xs, rfl, e1, r1⟩ := h2.lst s
    cases h1.str
    rename_i a xs'
    cases e2 : strsD xs' with
    | none => rw [e2] at e; cases e
    | some ys =>
      rw [e2] at e
      dsimp only [Option.bind] at e
      split at e
      · cases e
        rename_i hz
        exact ⟨_, l1, ys, rfl, rfl, .inl (.of (by rw [e1, strs_of e2 r1])), hz, q.str s⟩
      · cases e
  · obtain ⟨v, w, rfl, h1, h2⟩ := ac.two
    obtain ⟨l1, xs, rfl, e1, g1, r1⟩ := h2.tup s
    cases h1.str
    rename_i a xs'
    cases e2 : strsD xs' with
    | none => rw [e2] at e; cases e
    | some ys =>
      rw [e2] at e
      dsimp only [Option.bind] at e
      split at e
      · cases e
        rename_i hz
        exact ⟨_, l1, ys, rfl, rfl, .inr (by rw [← strs_of e2 r1]; exact e1), hz, q.str s⟩
      · cases e
  · cases e
theorem repL_strs {G : Gx} {S : Hp} : ∀ (ys : List Str), RepL G S (ys.map D.str) (ys.map V.str)
  | [] => RepL.nil
  | y :: ys => RepL.cons (by simp only [Rep]) (repL_strs ys)
theorem ok_split : OpOk false opSplit (rM1 fun G => rSplit) := by
  intro G S H vs ds z Q s ac e q
  unfold opSplit at e
  split at e
  · obtain ⟨v, w, rfl, h1, h2⟩ := ac.two
    cases h1.str; cases h2.str
    split at e
    · cases e
      rename_i hz
      exact ⟨_, _, rfl, rfl, by simpa using hz.1, by rw [line_lim]; exact hz.2, fun p hp => q.lst s (repL_strs _) hp⟩
    · cases e
  · cases e
end DL
namespace DL
open PySem PySem.Spec PyProof.Rows L2
/-! ### repr -/
section
variable {X : Cx} {pins : List (Addr × Obj)} {σ : St} {H : Hp} {s : Shared} {G : Gx}
def keyPy : Key → PyData
  | .inl i => .int i
  | .inr x => .str x
theorem toPyK_keys : ∀ {kvs : List (Key × D)} {r : List (PyData × PyData)}, toPyK kvs = some r → r.map (·.1) = kvs.map fun kv => keyPy kv.1
  | [], r, h => by simp only [toPyK] at h; cases h; rfl
  | (k, d) :: kvs, r, h => by
    simp only [toPyK] at h
    cases e : toPy d with
    | none => rw [e] at h; cases h
    | some p =>
      rw [e] at h
      dsimp only at h
      cases e2 : toPyK kvs with
      | none => rw [e2] at h; cases h
      | some t =>
        rw [e2] at h
        cases h
        rw [List.map_cons, List.map_cons, toPyK_keys e2]
        cases k <;> rfl
theorem keys_reads {h : Heap} {knd : KeyKind X.prog X.w Key} (hk : knd = mixKind X.prog X.w) : ∀ {es : List DictEntry} {kvs : List (Key × Value)}, PySem.Pairs knd es kvs → ReadsAll h (es.map (·.key)) (kvs.map fun kv => keyPy kv.1) []
  | _, _, .nil => .nil
  | e :: es, kv :: kvs, .cons h1 h2 h3 => by
    subst hk
    have : Reads h e.key (keyPy kv.1) [] := by
      rcases keyIs_shape h1 with ⟨i, t, e1, e2⟩ | ⟨x, t, e1, e2⟩
      · rw [e1, e2]; exact Reads.int i t
      · rw [e1, e2]; exact Reads.str x t
    exact ReadsAll.cons this (keys_reads rfl h3)
theorem pairs_vals {knd : KeyKind X.prog X.w Key} : ∀ {es : List DictEntry} {kvs : List (Key × Value)}, PySem.Pairs knd es kvs → es.map (·.val) = kvs.map (·.2)
  | _, _, .nil => rfl
  | e :: es, kv :: kvs, .cons h1 h2 h3 => by rw [List.map_cons, List.map_cons, h2, pairs_vals h3]
theorem RepK.keys : ∀ {kvs : List (Key × D)} {ws : List (Key × V)}, RepK G H kvs ws → ws.map (·.1) = kvs.map (·.1)
  | [], ws, h => by simp only [RepK] at h; subst h; rfl
  | (k, d) :: kvs, ws, h => by
    simp only [RepK] at h
    obtain ⟨v, r, rfl, _, t⟩ := h
    rw [List.map_cons, List.map_cons, RepK.keys t]
theorem KV.keys {κ : Type} : ∀ {ws : List (κ × V)} {vs : List (κ × Value)}, KV ws vs → vs.map (·.1) = ws.map (·.1)
  | _, _, .nil => rfl
  | _, _, .cons h t => by rw [List.map_cons, List.map_cons, h.1, KV.keys t]
theorem ne_sys (I : Inv X pins σ H s) (hs : ∃ o, X.base.get? sysModules = some o) {a : Addr} {o : HO} (h : H a = some o) : a ≠ sysModules := fun e => by
  obtain ⟨u, hu⟩ := hs
  rw [e, (I.bs _ _ hu).2] at h
  cases h
mutual
theorem reads_D (I : Inv X pins σ H s) (hG : G.K = X.K) (hs : ∃ o, X.base.get? sysModules = some o) : ∀ (d : D) (p : PyData) (v : V) (u : Value), toPy d = some p → Rep G H d v → RelV v u → ∃ as, Reads s.heap u p as ∧ sysModules ∉ as
  | .non, p, v, u, e, h, r => by
    simp only [Rep] at h; subst h; cases r; simp only [toPy] at e; cases e
    exact ⟨_, .none, by simp⟩
  | .bl b, p, v, u, e, h, r => by
    simp only [Rep] at h; subst h; cases r; simp only [toPy] at e; cases e
    exact ⟨_, .bool b, by simp⟩
  | .int b, p, v, u, e, h, r => by
    simp only [Rep] at h; subst h; obtain ⟨t, rfl⟩ := r; simp only [toPy] at e; cases e
    exact ⟨_, .int b t, by simp⟩
  | .str b, p, v, u, e, h, r => by
    simp only [Rep] at h; subst h; obtain ⟨t, rfl⟩ := r; simp only [toPy] at e; cases e
    exact ⟨_, .str b t, by simp⟩
  | .lst ds, p, v, u, e, h, r => by
    simp only [Rep] at h
    obtain ⟨a, vs, rfl, q, t⟩ := h
    cases r
    simp only [toPy] at e
    cases e2 : toPyL ds with
    | none => rw [e2] at e; cases e
    | some ps =>
      rw [e2] at e
      cases e
      obtain ⟨_, its, n, rv, _, ho⟩ := I.lstM q
      obtain ⟨as, ra, na⟩ := readsL_D I hG hs ds ps vs its e2 t rv
      exact ⟨_, Reads.list ho rfl rfl ra, fun hm => by
        rcases List.mem_cons.mp hm with z | z
        · exact ne_sys I hs q z.symm
        · exact na z⟩
  | .tup ds, p, v, u, e, h, r => by
    simp only [Rep] at h
    obtain ⟨a, vs, rfl, q, t⟩ := h
    cases r
    simp only [toPy] at e
    cases e2 : toPyL ds with
    | none => rw [e2] at e; cases e
    | some ps =>
      rw [e2] at e
      cases e
      rw [hG] at q
      obtain ⟨its, rv, ⟨o, ho, hc, n, hd⟩, _⟩ := I.tuple q
      obtain ⟨as, ra, na⟩ := readsL_D I hG hs ds ps vs its e2 t rv
      exact ⟨_, Reads.tuple ho hc hd ra, na⟩
  | .dK kvs, p, v, u, e, h, r => by
    simp only [Rep] at h
    obtain ⟨a, ws, rfl, q, t⟩ := h
    cases r
    simp only [toPy] at e
    cases e2 : toPyK kvs with
    | none => rw [e2] at e; cases e
    | some ps =>
      rw [e2] at e
      cases e
      obtain ⟨_, hd, vs, rel, o, es, ep, ho, hx, hdat, ks, pr, nd⟩ := dk_of I.hok q
      obtain ⟨bs, rb, nb⟩ := readsK_D I hG hs kvs ps ws vs e2 t rel
      have hk : ReadsAll s.heap (es.toList.map (·.key)) (ps.map (·.1)) [] := by
        have := keys_reads (h := s.heap) rfl pr
        rw [toPyK_keys e2]
        have e3 : (kvs.map fun kv => keyPy kv.1) = vs.map fun kv => keyPy kv.1 := by
          have : (vs.map (·.1)).map keyPy = (kvs.map (·.1)).map keyPy := by rw [KV.keys rel, RepK.keys t]
          simpa [Function.comp_def] using this.symm
        rw [e3]
        exact this
      have hv : ReadsAll s.heap (es.toList.map (·.val)) (ps.map (·.2)) bs := by rw [pairs_vals pr]; exact rb
      refine ⟨_, Reads.dict ho hx.1 hdat hk hv, fun hm => ?_⟩
      simp only [List.append_nil, List.cons_append, List.nil_append, List.mem_cons] at hm
      rcases hm with z | z
      · exact ne_sys I hs q z.symm
      · exact nb z
  | .dT _, p, v, u, e, h, r => by simp only [toPy] at e; cases e
  | .obj _ _, p, v, u, e, h, r => by simp only [toPy] at e; cases e
  | .scr _, p, v, u, e, h, r => by simp only [toPy] at e; cases e
theorem readsL_D (I : Inv X pins σ H s) (hG : G.K = X.K) (hs : ∃ o, X.base.get? sysModules = some o) : ∀ (ds : List D) (ps : List PyData) (vs : List V) (us : List Value), toPyL ds = some ps → RepL G H ds vs → Vals vs us → ∃ as, ReadsAll s.heap us ps as ∧ sysModules ∉ as
  | [], ps, vs, us, e, h, r => by
    simp only [RepL] at h; subst h; cases r; simp only [toPyL] at e; cases e
    exact ⟨_, .nil, by simp⟩
  | d :: ds, ps, vs, us, e, h, r => by
    simp only [RepL] at h
    obtain ⟨v, t, rfl, h1, h2⟩ := h
    cases r with
    | cons r1 r2 =>
      simp only [toPyL] at e
      cases e1 : toPy d with
      | none => rw [e1] at e; cases e
      | some p =>
        rw [e1] at e
        dsimp only at e
        cases e2 : toPyL ds with
        | none => rw [e2] at e; cases e
        | some q =>
          rw [e2] at e
          cases e
          obtain ⟨as, a1, a2⟩ := reads_D I hG hs d p v _ e1 h1 r1
          obtain ⟨bs, b1, b2⟩ := readsL_D I hG hs ds q t _ e2 h2 r2
          exact ⟨_, .cons a1 b1, fun z => (List.mem_append.mp z).elim a2 b2⟩
theorem readsK_D (I : Inv X pins σ H s) (hG : G.K = X.K) (hs : ∃ o, X.base.get? sysModules = some o) : ∀ (ds : List (Key × D)) (ps : List (PyData × PyData)) (vs : List (Key × V)) (us : List (Key × Value)), toPyK ds = some ps → RepK G H ds vs → KV vs us → ∃ as, ReadsAll s.heap (us.map (·.2)) (ps.map (·.2)) as ∧ sysModules ∉ as
  | [], ps, vs, us, e, h, r => by
    simp only [RepK] at h; subst h; cases r; simp only [toPyK] at e; cases e
    exact ⟨_, .nil, by simp⟩
  | (k, d) :: ds, ps, vs, us, e, h, r => by
    simp only [RepK] at h
    obtain ⟨v, t, rfl, h1, h2⟩ := h
    cases r with
    | cons r1 r2 =>
      simp only [toPyK] at e
      cases e1 : toPy d with
      | none => rw [e1] at e; cases e
      | some p =>
        rw [e1] at e
        dsimp only at e
        cases e2 : toPyK ds with
        | none => rw [e2] at e; cases e
        | some q =>
          rw [e2] at e
          cases e
          obtain ⟨as, a1, a2⟩ := reads_D I hG hs d p v _ e1 h1 r1.2
          obtain ⟨bs, b1, b2⟩ := readsK_D I hG hs ds q t _ e2 h2 r2
          exact ⟨_, .cons a1 b1, fun z => (List.mem_append.mp z).elim a2 b2⟩
end
end
def rRepr : Gx → List V → Hp → VK → Prop := fun G xs H Q => ∃ x d p, xs = [x] ∧ Rep G H d x ∧ toPy d = some p ∧ p.showable = true ∧ p.shown.length ≤ lim ∧ p.depth ≤ 64 ∧ Q (.str p.shown) H
theorem call_reprD {X : Cx} {G : Gx} (hG : G.K = X.K) (hg : X.A.guards = some []) (hs : ∃ o, X.base.get? sysModules = some o) (hu : X.A.units + 100 < cLine) : CallR X (.builtin "repr") (rRepr G) := by
  intro pins s σ H xs us Q I r h
  obtain ⟨x, d, p, rfl, h1, h2, h3, h4, h5, q⟩ := h
  cases r with
  | cons r1 r2 =>
    cases r2
    obtain ⟨as, ra, na⟩ := reads_D I hG hs d p x _ h2 h1 r1
    have hsz : p.shown.length ≤ sizeLine := by rw [line_lim]; exact h4
    cases ra with
    | none => exact PySem.P.repr_of_none ⟨.str _, H, I.tok _, ⟨_, rfl⟩, q⟩
    | bool b => exact PySem.P.repr_of_bool ⟨.str _, H, I.tok _, ⟨_, rfl⟩, q⟩
    | int i t => exact PySem.P.repr_of_int (by simpa [PyData.showable] using h3) ⟨.str _, H, I.tok _, ⟨_, rfl⟩, q⟩
    | str y t => exact PySem.P.repr_of_str ⟨.str _, H, I.tok _, ⟨_, rfl⟩, q⟩ hsz
    | list e1 e2 e3 e4 => exact repr_of_reads' (Reads.list e1 e2 e3 e4) h3 (fun _ => na) hg (by omega) (fun _ _ z => z) (fun h' u tk hk => ⟨.str _, H, I.kept hk, ⟨_, rfl⟩, q⟩) hsz
    | tuple e1 e2 e3 e4 => exact repr_of_reads' (Reads.tuple e1 e2 e3 e4) h3 (fun _ => na) hg (by omega) (fun _ _ z => z) (fun h' u tk hk => ⟨.str _, H, I.kept hk, ⟨_, rfl⟩, q⟩) hsz
    | dict e1 e2 e3 e4 e5 => exact repr_of_reads' (Reads.dict e1 e2 e3 e4 e5) h3 (fun _ => na) hg (by omega) (fun _ _ z => z) (fun h' u tk hk => ⟨.str _, H, I.kept hk, ⟨_, rfl⟩, q⟩) hsz
theorem ok_repr : OpOk false opRepr rRepr := by
  intro G S H vs ds z Q s ac e q
  unfold opRepr at e
  split at e
  · obtain ⟨v, rfl, h1⟩ := ac.one
    split at e
    · rename_i d p hp
      split at e
      · rename_i hz
        cases e
        exact ⟨v, _, p, rfl, h1.deep s, hp, hz.1, hz.2.1, hz.2.2, q.str s⟩
      · cases e
    · cases e
  · cases e
end DL
namespace DL
open PySem PySem.Spec PyProof.Rows L2
/-! ### a block's own slots -/
def wipeS (own : List Nat) : Nat → St → St
  | _, [] => []
  | j, x :: g => (if own.contains j = true then none else x) :: wipeS own (j + 1) g
theorem wipeS_get (own : List Nat) : ∀ (s : St) (j i : Nat), (wipeS own j s)[i]? = (s[i]?).map fun x => if own.contains (j + i) = true then none else x
  | [], j, i => by simp [wipeS]
  | x :: s, j, 0 => by simp [wipeS]
  | x :: s, j, i + 1 => by
    have := wipeS_get own s (j + 1) i
    simp only [wipeS, List.getElem?_cons_succ]
    rw [this, show j + 1 + i = j + (i + 1) by omega]
theorem wipe_get (s : St) : ∀ (own : List Nat) (i : Nat), (wipe s own)[i]? = (s[i]?).map fun x => if own.contains i = true then none else x
  | [], i => by simp [wipe]
  | v :: vs, i => by
    have ih := wipe_get s vs i
    show ((wipe s vs).set v none)[i]? = _
    rw [List.getElem?_set]
    by_cases h : v = i
    · subst h
      simp only [if_pos]
      rw [wipe_length]
      by_cases hv : v < s.length
      · simp [hv]
      · simp [hv, List.getElem?_eq_none (Nat.le_of_not_lt hv)]
    · rw [if_neg h, ih]
      congr 1
      funext x
      have : (List.contains (v :: vs) i) = List.contains vs i := by
        simp [List.contains_cons, Ne.symm h]
      rw [this]
theorem wipe_eq (s : St) (own : List Nat) : wipe s own = wipeS own 0 s := by
  apply List.ext_getElem?
  intro i
  rw [wipe_get, wipeS_get, Nat.zero_add]
def keepA (own : List Nat) : Nat → Gm → Gm
  | _, [] => []
  | j, x :: g => (if own.contains j = true then x else none) :: keepA own (j + 1) g
theorem slots_cons_none (g : Gm) (y : Option V) (s : St) : slots (none :: g) (y :: s) = slots g s := by cases y <;> rfl
theorem wipeA_slots (own : List Nat) : ∀ (g : Gm) (s : St) (j : Nat), (slots g s).Perm (slots (keepA own j g) s ++ slots (wipeA own j g) (wipeS own j s))
  | [], s, j => by simp [wipeA, keepA, slots]
  | x :: g, [], j => by cases x <;> (simp only [wipeA, wipeS, keepA]; split <;> simp [slots])
  | x :: g, y :: s, j => by
    have ih := wipeA_slots own g s (j + 1)
    simp only [wipeA, keepA, wipeS]
    by_cases h : own.contains j = true
    · simp only [h, if_true]
      cases x with
      | none => simpa [slots_cons_none] using ih
      | some dk =>
        obtain ⟨d, k⟩ := dk
        cases y with
        | none => simpa [slots] using ih
        | some v => simpa [slots] using ih
    · simp only [h, if_false]
      cases x with
      | none => simpa [slots_cons_none] using ih
      | some dk =>
        obtain ⟨d, k⟩ := dk
        cases y with
        | none => simpa [slots] using ih
        | some v =>
          simp only [slots]
          exact (List.Perm.cons _ ih).trans List.perm_middle.symm
theorem backA_slots (own : List Nat) : ∀ (g g' : Gm) (s : St) (j : Nat), g.length = s.length → g'.length = s.length → ∃ l, (slots (keepA own j g) s ++ slots g' (wipeS own j s)).Perm (l ++ slots (backA own j g g') s)
  | [], [], [], j, _, _ => ⟨[], by simp [backA, slots, keepA]⟩
  | x :: g, z :: g', y :: s, j, h1, h2 => by
    obtain ⟨l, ih⟩ := backA_slots own g g' s (j + 1) (by simpa using h1) (by simpa using h2)
    refine ⟨l, ?_⟩
    simp only [keepA, wipeS, backA]
    by_cases h : own.contains j = true
    · simp only [h, if_true]
      have e1 : slots (z :: g') (none :: wipeS own (j + 1) s) = slots g' (wipeS own (j + 1) s) := by cases z <;> simp [slots]
      rw [e1]
      cases x with
      | none => simpa [slots_cons_none] using ih
      | some dk =>
        obtain ⟨d, k⟩ := dk
        cases y with
        | none => simpa [slots] using ih
        | some v =>
          simp only [slots, List.cons_append]
          exact (List.Perm.cons _ ih).trans List.perm_middle.symm
    · simp only [h, if_false]
      cases z with
      | none => simpa [slots_cons_none] using ih
      | some dk =>
        obtain ⟨d, k⟩ := dk
        cases y with
        | none => simpa [slots] using ih
        | some v =>
          have q : (slots (keepA own (j + 1) g) s ++ ((v, d, k) :: slots g' (wipeS own (j + 1) s))).Perm (l ++ ((v, d, k) :: slots (backA own (j + 1) g g') s)) :=
            List.perm_middle.trans ((List.Perm.cons _ ih).trans List.perm_middle.symm)
          simpa [slots] using q
  | [], _ :: _, [], _, _, h => by simp at h
  | _ :: _, _, [], _, h, _ => by simp at h
  | [], _, _ :: _, _, h, _ => by simp at h
  | _ :: _, [], _ :: _, _, _, h => by simp at h
theorem cov_wipe (own : List Nat) : ∀ (g : Gm) (s : St) (j : Nat), Cov g s → Cov (wipeA own j g) (wipeS own j s)
  | [], [], j, _ => trivial
  | x :: g, y :: s, j, h => by
    simp only [wipeA, wipeS]
    refine ⟨?_, cov_wipe own g s (j + 1) h.2⟩
    split
    · intro z; simp at z
    · exact h.1
  | [], _ :: _, _, h => h.elim
  | _ :: _, [], _, h => h.elim
theorem cov_back (own : List Nat) : ∀ (g g' : Gm) (s : St) (j : Nat), Cov g s → Cov g' (wipeS own j s) → Cov (backA own j g g') s
  | [], [], [], j, _, _ => trivial
  | x :: g, z :: g', y :: s, j, h, h2 => by
    simp only [backA]
    simp only [wipeS] at h2
    refine ⟨?_, cov_back own g g' s (j + 1) h.2 h2.2⟩
    split
    · exact h.1
    · rename_i hn
      have := h2.1
      rw [if_neg hn] at this
      exact this
  | [], _ :: _, [], _, _, h => h.elim
  | _ :: _, _, [], _, h, _ => h.elim
  | [], _, _ :: _, _, h, _ => h.elim
  | _ :: _, [], _ :: _, _, _, h => h.elim
theorem Sim.perm' {G : Gx} {S H : Hp} {E E' : List Ent} (s : Sim G S H E) (p : E.Perm E') : Sim G S H E' := s.perm p
/-- a block begins -/
theorem blk_in {G : Gx} {S H : Hp} {fr : List Ent} {Γ : Gm} {σ : St} (own : List Nat) (s : Sim G S H (fr ++ slots Γ σ)) : Sim G S H ((fr ++ slots (keepA own 0 Γ) σ) ++ slots (wipeG Γ own) (wipe σ own)) := by
  refine s.perm ?_
  rw [List.append_assoc, wipe_eq]
  exact List.Perm.append_left fr (wipeA_slots own Γ σ 0)
/-- a block ends -/
theorem blk_out {G : Gx} {S H : Hp} {fr : List Ent} {Γ Γ' : Gm} {σ : St} (own : List Nat) (c : Cov Γ σ) (c' : Cov Γ' (wipe σ own)) (s : Sim G S H ((fr ++ slots (keepA own 0 Γ) σ) ++ slots Γ' (wipe σ own))) : Cov (backG Γ Γ' own) σ ∧ Sim G S H (fr ++ slots (backG Γ Γ' own) σ) := by
  rw [wipe_eq] at c' s
  refine ⟨cov_back own Γ Γ' σ 0 c c', ?_⟩
  have l1 := c.len
  have l2 := c'.len
  have l3 : (wipeS own 0 σ).length = σ.length := by rw [← wipe_eq, wipe_length]
  obtain ⟨l, p⟩ := backA_slots own Γ Γ' σ 0 l1 (by omega)
  rw [List.append_assoc] at s
  have s2 := s.perm (List.Perm.append_left fr p)
  have s3 : Sim G S H (l ++ (fr ++ slots (backG Γ Γ' own) σ)) := by
    refine s2.perm ?_
    rw [← List.append_assoc, ← List.append_assoc]
    exact List.Perm.append_right _ List.perm_append_comm
  exact Sim.left (E := l) s3
/-! ### truth -/
theorem truth_V {G : Gx} {K : PySem.W.Frag} (hG : G.K = K) {H : Hp} {d : D} {v : V} {b : Bool} (h : Rep G H d v) (e : truth d = some b) : TruV K v H b := by
  subst hG
  cases d with
  | non => simp only [Rep] at h; subst h; simp only [truth] at e; cases e; exact rfl
  | bl k => simp only [Rep] at h; subst h; simp only [truth] at e; cases e; exact rfl
  | int k => simp only [Rep] at h; subst h; simp only [truth] at e; cases e; exact rfl
  | str k =>
    simp only [Rep] at h; subst h; simp only [truth] at e
    split at e
    · cases e; rename_i hz; exact ⟨by rw [line_lim]; exact hz, rfl⟩
    · cases e
  | lst ds =>
    simp only [Rep] at h
    obtain ⟨a, vs, rfl, q, r⟩ := h
    simp only [truth] at e; cases e
    refine .inl ⟨vs, .of q, ?_⟩
    have := r.len
    cases vs <;> cases ds <;> simp_all
  | tup ds =>
    simp only [Rep] at h
    obtain ⟨a, vs, rfl, q, r⟩ := h
    simp only [truth] at e; cases e
    refine .inr (.inl ⟨vs, q, ?_⟩)
    have := r.len
    cases vs <;> cases ds <;> simp_all
  | dK ds =>
    simp only [Rep] at h
    obtain ⟨a, vs, rfl, q, r⟩ := h
    simp only [truth] at e; cases e
    refine .inr (.inr ⟨vs, q, ?_⟩)
    cases ds with
    | nil => simp only [RepK] at r; subst r; rfl
    | cons kv t => obtain ⟨k, d⟩ := kv; simp only [RepK] at r; obtain ⟨v, r', rfl, _⟩ := r; rfl
  | dT ds => simp only [truth] at e; cases e
  | obj c ds => simp only [truth] at e; cases e
  | scr ns => simp only [truth] at e; cases e
/-! ### what a def promises -/
def spOf (G : Gx) (f : FunIR) : Sp := fun vs H Q E => ∃ (fr : List Ent) (S : Hp) (as : List DK) (Qd : DK → List (Option DK) → Prop) (Xd : Exc → List (Option DK) → Prop),
  vs.length = f.ps.length ∧ as.length = vs.length ∧ Sim G S H (slots (as.map some) (vs.map some) ++ fr) ∧ semF f as Qd Xd ∧
  (∀ v S' H' d k fs, fs.length = vs.length → Sim G S' H' ((v, d, k) :: (slots fs (vs.map some) ++ fr)) → Qd (d, k) fs → Q v H') ∧
  (∀ x cls dx S' H' fs, fs.length = vs.length → Sim G S' H' (slots fs (vs.map some) ++ fr) → ExcR G S' H' x cls dx → Xd x fs → E cls dx H')
structure FnG (P : Program) (w : World) (K : PySem.W.Frag) (mg : Str → Option Value) (base : Heap) (CX : CXT) (k : Nat) (f : Addr) (fd : FuncData) (ps : List Str) (sp : Sp) : Prop where
  len : ∀ vs H Q E, sp vs H Q E → vs.length = ps.length
  run : ∀ (A : Around) (outer : List Env) (s : Shared) (H : Hp) (args : Args) (us : List Value) (vs : List V) (Q : VK) (E : XK), Room k A → A.guards = some [] → Env0 P w K mg base A outer s H → BindsTo s fd args (ps.zip us) → Vals vs us → sp vs H Q E →
    codeAny (model P w) A (.call (.ref f) args) (CR CX outer P w H s Q E) s
theorem take_ok {G : Gx} {σ : St} : ∀ {rs : List OR} {vs : List V} {T : List Ent}, OpdR σ rs vs T → ∀ {Γ Γ2 : Gm} {S H : Hp} {fr : List Ent} {as : List DK}, Cov Γ σ → Sim G S H (T ++ (fr ++ slots Γ σ)) → takeArgs Γ rs = some (as, Γ2) →
    as.length = vs.length ∧ Cov Γ2 σ ∧ Sim G S H (slots (as.map some) (vs.map some) ++ (fr ++ slots Γ2 σ)) := by
  intro rs vs T o
  induction o with
  | nil =>
    intro Γ Γ2 S H fr as c s e
    simp only [takeArgs] at e
    cases e
    exact ⟨rfl, c, s⟩
  | @v d k rs v vs T o ih =>
    intro Γ Γ2 S H fr as c s e
    simp only [takeArgs] at e
    cases q : takeArgs Γ rs with
    | none => rw [q] at e; cases e
    | some r =>
      obtain ⟨as', Γ'⟩ := r
      rw [q] at e
      cases e
      have s2 : Sim G S H (T ++ (((v, d, k) :: fr) ++ slots Γ σ)) := s.perm (List.perm_middle.symm)
      obtain ⟨l, c2, s3⟩ := ih c s2 q
      refine ⟨by simp [l], c2, ?_⟩
      simp only [List.map_cons, slots]
      exact s3.perm List.perm_middle
  | b hv o ih =>
    intro Γ Γ2 S H fr as c s e
    simp only [takeArgs] at e
    cases e
  | @l i rs v vs T hv o ih =>
    intro Γ Γ2 S H fr as c s e
    simp only [takeArgs] at e
    cases q0 : Γ.getD i none with
    | none => rw [q0] at e; cases e
    | some dk =>
      obtain ⟨d, k⟩ := dk
      rw [q0] at e
      dsimp only at e
      cases q : takeArgs (Γ.set i none) rs with
      | none => rw [q] at e; cases e
      | some r =>
        obtain ⟨as', Γ'⟩ := r
        rw [q] at e
        cases e
        obtain ⟨w, hw, p⟩ := slots_get c (getD_some q0)
        rw [hv] at hw
        cases hw
        have s2 : Sim G S H (T ++ (((v, d, k) :: fr) ++ slots (Γ.set i none) σ)) := by
          refine s.perm (List.Perm.append_left T ?_)
          refine (List.Perm.append_left fr p).trans ?_
          exact List.perm_middle
        obtain ⟨l, c2, s3⟩ := ih (Cov.unset i c) s2 q
        refine ⟨by simp [l], c2, ?_⟩
        simp only [List.map_cons, slots]
        exact s3.perm List.perm_middle
theorem give_ok {G : Gx} {σ : St} : ∀ {rs : List OR} {vs : List V} {T : List Ent}, OpdR σ rs vs T → ∀ {Γ : Gm} {S H : Hp} {fr : List Ent} {fs : List (Option DK)}, fs.length = vs.length → Cov Γ σ → Sim G S H (slots fs (vs.map some) ++ (fr ++ slots Γ σ)) →
    Cov (giveBack rs fs Γ) σ ∧ Sim G S H (fr ++ slots (giveBack rs fs Γ) σ) := by
  intro rs vs T o
  induction o with
  | nil =>
    intro Γ S H fr fs l c s
    cases fs with
    | nil => simp only [giveBack]; exact ⟨c, by simpa [slots] using s⟩
    | cons _ _ => simp at l
  | @v d k rs v vs T o ih =>
    intro Γ S H fr fs l c s
    cases fs with
    | nil => simp at l
    | cons f fs =>
      simp only [giveBack]
      refine ih (by simpa using l) c ?_
      cases f with
      | none => simpa [slots] using s
      | some dk =>
        obtain ⟨d, k⟩ := dk
        simp only [List.map_cons, slots, List.cons_append] at s
        exact s.tail
  | @b i rs v vs T hv o ih =>
    intro Γ S H fr fs l c s
    cases fs with
    | nil => simp at l
    | cons f fs =>
      simp only [giveBack]
      refine ih (by simpa using l) c ?_
      cases f with
      | none => simpa [slots] using s
      | some dk =>
        obtain ⟨d, k⟩ := dk
        simp only [List.map_cons, slots, List.cons_append] at s
        exact s.tail
  | @l i rs v vs T hv o ih =>
    intro Γ S H fr fs l c s
    cases fs with
    | nil => simp at l
    | cons f fs =>
      simp only [giveBack]
      obtain ⟨l0, p0⟩ := slots_sub (g := Γ) (s := σ) i
      cases f with
      | none =>
        refine ih (by simpa using l) (Cov.unset i c) ?_
        have s1 : Sim G S H (slots fs (vs.map some) ++ (fr ++ slots Γ σ)) := by simpa [slots] using s
        have s2 : Sim G S H (l0 ++ (slots fs (vs.map some) ++ (fr ++ slots (Γ.set i none) σ))) := by
          refine s1.perm ((List.Perm.append_left _ (List.Perm.append_left fr p0)).trans ?_)
          rw [← List.append_assoc, ← List.append_assoc, ← List.append_assoc, ← List.append_assoc]
          refine List.Perm.append_right _ ?_
          rw [List.append_assoc l0]
          exact List.perm_append_comm
        exact Sim.left (E := l0) s2
      | some dk =>
        obtain ⟨d, k⟩ := dk
        refine ih (by simpa using l) (Cov.put i (some (d, k)) hv c) ?_
        have s1 : Sim G S H ((v, d, k) :: (slots fs (vs.map some) ++ (fr ++ slots Γ σ))) := by simpa [slots] using s
        have s2 : Sim G S H (l0 ++ (slots fs (vs.map some) ++ (fr ++ slots (Γ.set i (some (d, k))) σ))) := by
          refine s1.perm ?_
          refine (List.Perm.cons _ (List.Perm.append_left _ (List.Perm.append_left fr p0))).trans ?_
          have p1 := slots_put (g := Γ) (s := σ) d k c hv
          refine List.Perm.trans ?_ (List.Perm.append_left l0 (List.Perm.append_left _ (List.Perm.append_left fr p1.symm)))
          generalize slots fs (vs.map some) = A
          generalize slots (Γ.set i none) σ = B
          have e1 : ((v, d, k) :: (A ++ (fr ++ (l0 ++ B)))).Perm (l0 ++ (A ++ (fr ++ ((v, d, k) :: B)))) := by
            have h1 : (A ++ (fr ++ (l0 ++ B))).Perm (l0 ++ (A ++ (fr ++ B))) := by
              rw [← List.append_assoc, ← List.append_assoc, ← List.append_assoc, ← List.append_assoc]
              refine List.Perm.append_right _ ?_
              rw [List.append_assoc l0]
              exact List.perm_append_comm
            have h2 : (l0 ++ (A ++ (fr ++ ((v, d, k) :: B)))).Perm ((v, d, k) :: (l0 ++ (A ++ (fr ++ B)))) := by
              rw [← List.append_assoc, ← List.append_assoc, ← List.append_assoc l0, ← List.append_assoc (l0 ++ A)]
              exact List.perm_middle
            exact (List.Perm.cons _ h1).trans h2.symm
          exact e1
        exact Sim.left (E := l0) s2
end DL
namespace DL
open PySem PySem.Spec PyProof.Rows L2
/-! ### names -/
structure Par where
  N : List Str
  gls : List (Str × Cst)
def visB (sc : Scope) (x : Str) : Bool := match sc.names.lookup x with
  | some .local | some .cell | some .free => true
  | _ => false
def locB (sc : Scope) (x : Str) : Bool := match sc.names.lookup x with
  | some .local | some .cell => true
  | _ => false
def glB (sc : Scope) (x : Str) : Bool := decide (sc.names.lookup x = some .globalImplicit) && !(x == ("__debug__" : Str)) && decide (x ≠ ("__name__" : Str))
def nmB (P : Par) (sc : Scope) (i : Nat) (x : Str) : Bool := decide (P.N[i]? = some x) && visB sc x && !(x == ("__debug__" : Str)) && !(x == ("__classdict__" : Str))
def stB (P : Par) (sc : Scope) (i : Nat) (x : Str) : Bool := decide (P.N[i]? = some x) && locB sc x
def bltNames : List Str := ["len", "abs", "int", "list", "tuple", "repr", "all", "any", "isinstance", "range", "str", "bool", "dict", "set", "sorted", "zip", "enumerate", "reversed", "sum", "min", "max"]
def cV : Cst → V
  | .non => .non | .bl b => .bl b | .int i => .int i | .str x => .str x | .tup _ => .non
def CallOk (X : Cx) (G : Gx) (f : FunIR) : Prop := ∃ k a fd, FnG X.prog X.w X.K X.mg X.base (L2.CX X.prog X.w) k a fd f.ps (spOf G f) ∧ Room k X.A ∧ X.mg f.name = some (.ref a) ∧ PySem.W.keepIn X.K (.ref a) = true ∧ Binds X.K fd f.ps []
structure Ctx (P : Par) (X : Cx) (G : Gx) (W : WX) : Prop where
  N : X.N = P.N
  K : G.K = X.K
  calm : X.calm = true
  nd : X.N.Nodup
  room : X.A.units + 200 < cLine
  grd : X.A.guards = some []
  sys : ∃ o, X.base.get? sysModules = some o
  blt : ∀ x ∈ bltNames, X.mg x = none
  gls : ∀ x c, P.gls.lookup x = some c → ∃ v u, X.mg x = some u ∧ RelV v u ∧ ∀ S, Rep G S c.d v
  tk : Takes X W
theorem takes_never {X : Cx} : Takes X (fun _ _ _ _ => False) := fun u s' ⟨_, _, _, _, _, _, _, _, _, _, _, _, _, _, _, _, w⟩ => w.elim
theorem Ctx.blk {P : Par} {X : Cx} {G : Gx} {W : WX} (C : Ctx P X G W) (s : Shared) (H : Hp) (scope : Scope) (cl : List (Str × Addr)) (D : Addr) (fp : List Addr) : Ctx P (X.blk s H scope (compEnvC scope cl D X.env) fp) G (fun _ _ _ _ => False) :=
  ⟨C.N, C.K, C.calm, C.nd, C.room, C.grd, C.sys, C.blt, C.gls, takes_never⟩
theorem CallOk.blk {X : Cx} {G : Gx} {f : FunIR} (C : CallOk X G f) (s : Shared) (H : Hp) (scope : Scope) (cl : List (Str × Addr)) (D : Addr) (fp : List Addr) : CallOk (X.blk s H scope (compEnvC scope cl D X.env) fp) G f := C
section
variable {P : Par} {X : Cx} {G : Gx} {W : WX}
theorem and2 {a b : Bool} (h : (a && b) = true) : a = true ∧ b = true := by rw [Bool.and_eq_true] at h; exact h
theorem notF {a : Bool} (h : (!a) = true) : a = false := by cases a <;> simp_all
theorem nm_ok (C : Ctx P X G W) {i : Nat} {x : Str} {pos : Pos} (h : nmB P X.env.scope i x = true) : PE X (.Name x pos) (tVar i) := by
  obtain ⟨h, h4⟩ := and2 h
  obtain ⟨h, h3⟩ := and2 h
  obtain ⟨h1, h2⟩ := and2 h
  refine pe_var (by rw [C.N]; exact of_decide_eq_true h1) ?_ (notF h3) (notF h4)
  unfold visB at h2
  unfold Vis
  split at h2
  · rename_i e; exact .inl e
  · rename_i e; exact .inr (.inl e)
  · rename_i e; exact .inr (.inr e)
  · cases h2
theorem glB_ok {x : Str} (h : glB X.env.scope x = true) : Gl X x ∧ (x == ("__debug__" : Str)) = false ∧ x ≠ ("__name__" : Str) := by
  obtain ⟨h, h3⟩ := and2 h
  obtain ⟨h1, h2⟩ := and2 h
  exact ⟨show X.env.scope.names.lookup x = some .globalImplicit from of_decide_eq_true h1, notF h2, of_decide_eq_true h3⟩
/-! ### argument lists -/
def isStar : Expr → Bool
  | .Starred _ _ => true
  | _ => false
theorem star_no {e : Expr} {es : List Expr} {env : Env} (h : isStar e = false) : starEach (e :: es) env = (false, eval e env) :: starEach es env := by
  cases e <;> first | rfl | (simp [isStar] at h)
theorem star_all {env : Env} : ∀ {es : List Expr}, (∀ e ∈ es, isStar e = false) → ∀ p ∈ starEach es env, p.1 = false
  | [], _, p, hp => by simp [starEach] at hp
  | e :: es, h, p, hp => by
    rw [star_no (h e (List.mem_cons_self))] at hp
    rcases List.mem_cons.mp hp with rfl | hp
    · rfl
    · exact star_all (fun e he => h e (List.mem_cons_of_mem _ he)) p hp
theorem star_len {env : Env} : ∀ {es : List Expr}, (∀ e ∈ es, isStar e = false) → (starEach es env).length = es.length
  | [], _ => rfl
  | e :: es, h => by rw [star_no (h e (List.mem_cons_self)), List.length_cons, star_len (fun e he => h e (List.mem_cons_of_mem _ he)), List.length_cons]
theorem back_any {env : Env} {pos : Pos} {es : List Expr} (h : ∀ e ∈ es, isStar e = false) : (backTo pos (starEach es env)).any (·.1) = false := by
  rw [List.any_eq_false]
  intro p hp
  unfold backTo at hp
  obtain ⟨q, hq, rfl⟩ := List.mem_map.mp hp
  rw [star_all h q hq]
  exact Bool.false_ne_true
/-- operands and their readings -/
def AllPE (X : Cx) (G : Gx) (W : WX) : List IE → List Expr → Prop
  | [], [] => True
  | i :: is, x :: xs => PE X x (tO G W i) ∧ isStar x = false ∧ AllPE X G W is xs
  | _, _ => False
theorem AllPE.pa : ∀ {is : List IE} {xs : List Expr}, AllPE X G W is xs → PA X xs (tL G W is)
  | [], [], _ => pa_nil
  | i :: is, x :: xs, h => pa_cons h.1 (AllPE.pa h.2.2) (star_no h.2.1)
  | [], _ :: _, h => h.elim
  | _ :: _, [], h => h.elim
theorem AllPE.ns : ∀ {is : List IE} {xs : List Expr}, AllPE X G W is xs → ∀ e ∈ xs, isStar e = false
  | [], [], _ => fun e h => by cases h
  | i :: is, x :: xs, h => fun e he => by
    rcases List.mem_cons.mp he with rfl | he
    · exact h.2.1
    · exact AllPE.ns h.2.2 e he
  | [], _ :: _, h => h.elim
  | _ :: _, [], h => h.elim
theorem AllPE.one {is : List IE} {x : Expr} (h : AllPE X G W is [x]) : ∃ i, is = [i] ∧ PE X x (tO G W i) ∧ isStar x = false := by
  match is, h with
  | [i], h => exact ⟨i, rfl, h.1, h.2.1⟩
  | _ :: _ :: _, h => exact h.2.2.elim
theorem AllPE.two {is : List IE} {x y : Expr} (h : AllPE X G W is [x, y]) : ∃ i j, is = [i, j] ∧ PE X x (tO G W i) ∧ PE X y (tO G W j) ∧ isStar x = false ∧ isStar y = false := by
  match is, h with
  | [i, j], h => exact ⟨i, j, rfl, h.1, h.2.2.1, h.2.1, h.2.2.2.1⟩
  | [_], h => exact h.2.2.elim
  | _ :: _ :: _ :: _, h => exact h.2.2.2.2.elim
/-! ### shapes of operations -/
/-- binary operators -/
def binO : Op → Option Operator
  | .add => some .Add | .sub => some .Sub | .mul => some .Mult | .mod => some .Mod | .fdiv => some .FloorDiv | .pow => some .Pow
  | _ => none
def cmpO : Op → Option CmpOp
  | .eq => some .Eq | .ne => some .NotEq | .lt => some .Lt | .le => some .LtE | .gt => some .Gt | .ge => some .GtE | .inn => some .In | .notin => some .NotIn
  | _ => none
def bltO : Op → Option Str
  | .len => some "len" | .abs => some "abs" | .int => some "int" | .list => some "list" | .tuple => some "tuple" | .repr => some "repr" | .all => some "all" | .any => some "any"
  | _ => none
def tyNames : List String := ["int", "str", "bool", "list", "tuple", "dict"]
def rd : Op → Gx → List V → Hp → VK → Prop
  | .add => rB fun G => r2Add G.K
  | .sub => rB fun _ => rI0 fun i j => .int (i - j)
  | .mul => rB fun _ => r2Mul
  | .mod => rB fun _ => rI (fun _ j => 0 < j) fun i j => .int (i % j)
  | .fdiv => rB fun _ => rI CDiv fun i j => .int (i / j)
  | .pow => rB fun _ => rI CPow fun i j => .int (i ^ j.toNat)
  | .neg => r1 (rU fun i => .int (-i))
  | .eq => rB (rEqD false)
  | .ne => rB (rEqD true)
  | .lt => rB fun _ => rI0 fun i j => .bl (decide (i < j))
  | .le => rB fun _ => rI0 fun i j => .bl (decide (i ≤ j))
  | .gt => rB fun _ => rI0 fun i j => .bl (decide (j < i))
  | .ge => rB fun _ => rI0 fun i j => .bl (decide (j ≤ i))
  | .inn => rB (rIn false)
  | .notin => rB (rIn true)
  | .isN => r1 fun x H Q => Q (.bl (decide (x = .non))) H
  | .notN => r1 fun x H Q => Q (.bl (!decide (x = .non))) H
  | .len => fun G => rLen G.K
  | .abs => fun _ xs H Q => ∃ i, xs = [.int i] ∧ Q (.int (if i < 0 then -i else i)) H
  | .int => fun _ xs H Q => (∃ i, xs = [.int i] ∧ Q (.int i) H) ∨ ∃ k, xs = [.bl k] ∧ Q (.int (if k then 1 else 0)) H
  | .list => fun G xs H Q => ∃ p ys, xs = [.ref p] ∧ (SqL G.K H p ys ∨ SqT G.K H p ys) ∧ ∀ l, H l = none → Q (.ref l) (upd H l (.lst ys))
  | .tuple => fun G xs H Q => ∃ p ys, xs = [.ref p] ∧ ((SqL G.K H p ys ∧ ∀ l, H l = none → Q (.ref l) (upd H l (.tup ys))) ∨ (SqT G.K H p ys ∧ Q (.ref p) H))
  | .repr => rRepr
  | .all => fun G => rAll G.K
  | .any => fun G => rAny G.K
  | .isin tys => rTyOf tys
  | .idx => rB fun G => r2Ix G.K
  | .sl lo hi => fun G => rSl (r3Sl G.K) lo hi
  | .tup => fun _ vs H Q => vs.length ≤ sizeLine ∧ ∀ p, H p = none → Q (.ref p) (upd H p (.tup vs))
  | .join => rM1 fun G => rJoin G.K
  | .split => rM1 fun _ => rSplit
  | _ => fun _ _ _ _ => False
def opD' : Op → List D → Option (D × Nat)
  | .dict => fun _ => none
  | o => opD o
theorem OpOk.none {st : Bool} {g : List D → Option (D × Nat)} {r : Gx → List V → Hp → VK → Prop} (h : ∀ ds, g ds = none) : OpOk st g r := fun G S H vs ds z Q s a e q => by rw [h] at e; cases e
theorem rd_ok : ∀ o : Op, OpOk o.st (opD' o) (rd o)
  | .add => ok_add | .sub => ok_sub | .mul => ok_mul | .mod => ok_mod | .fdiv => ok_fdiv | .pow => ok_pow | .neg => ok_neg
  | .eq => ok_eq | .ne => ok_ne | .lt => ok_lt | .le => ok_le | .gt => ok_gt | .ge => ok_ge | .inn => ok_in | .notin => ok_notin
  | .isN => ok_isN | .notN => ok_notN | .len => ok_len | .abs => ok_abs | .int => ok_int | .list => ok_list | .tuple => ok_tuple
  | .repr => ok_repr | .all => ok_all | .any => ok_any | .isin tys => ok_isin tys | .idx => ok_idx | .sl lo hi => ok_sl lo hi | .tup => ok_tup
  | .join => ok_join | .split => ok_split
  | .dict => .none fun _ => rfl
  | .get1 => .none fun _ => rfl | .get2 => .none fun _ => rfl | .items => .none fun _ => rfl | .ss => .none fun _ => rfl | .dictP => .none fun _ => rfl | .mapz => .none fun _ => rfl
/-- the operands as they are written -/
def shCmp (o : Op) (a : Expr) (op : CmpOp) (b : Expr) : Option (List Expr) :=
  if (decide (cmpO o = some op) && !behindInMarks op b) = true then some [a, b] else
  match b with
  | .Constant .none _ _ => if o = .isN ∧ op = .Is then some [a] else if o = .notN ∧ op = .IsNot then some [a] else none
  | _ => none
def shCall (sc : Scope) (o : Op) (x : Str) (es : List Expr) : Option (List Expr) := match es with
  | [a] => if (decide (bltO o = some x) && glB sc x) = true then some [a] else none
  | [a, .Name y _] => match o with
    | .isin [T] => if (decide (x = "isinstance") && glB sc x && glB sc y && decide (y = (T : String)) && tyNames.contains T && !isStar a) = true then some [a] else none
    | _ => none
  | _ => none
def callB : Expr → Bool
  | .Call .. => true
  | _ => false
def shMeth (o : Op) (a : Expr) (n : Str) (es : List Expr) (ok : Bool) : Option (List Expr) := match es with
  | [b] => if (o = .join ∧ n = "join" ∧ ok = true) ∨ (o = .split ∧ n = "split" ∧ ok = true) then some [a, b] else none
  | _ => none
def isSl : Expr → Bool
  | .Slice .. => true
  | _ => false
def shSub (o : Op) (a : Expr) (s : Expr) : Option (List Expr) := match s with
  | .Slice none none none _ => if o = .sl false false then some [a] else none
  | .Slice (some x) none none _ => if o = .sl true false then some [a, x] else none
  | .Slice none (some y) none _ => if o = .sl false true then some [a, y] else none
  | .Slice (some x) (some y) none _ => if o = .sl true true then some [a, x, y] else none
  | b => if o = .idx ∧ isSl b = false then some [a, b] else none
def shp (sc : Scope) (o : Op) (e : Expr) : Option (List Expr) := match e with
  | .UnaryOp .USub a _ => if o = .neg then some [a] else none
  | .Compare a [op] [b] _ => shCmp o a op b
  | .BinOp a op b _ => if binO o = some op then some [a, b] else none
  | .Call (.Name x _) es [] _ => shCall sc o x es
  | .Call (.Attribute a n p) es [] q => shMeth o a n es (p.endLine == q.line && !callB a)
  | .Subscript a s _ => shSub o a s
  | .Tuple xs _ _ => if o = .tup then some xs else none
  | _ => none
theorem ty_boot {T : String} (h : tyNames.contains T = true) : bootBuiltins (T : String) = some (.type T) ∧ (∃ x ∈ bltNames, x = (T : String)) := by
  have : T ∈ tyNames := by simpa using h
  simp only [tyNames, List.mem_cons, List.not_mem_nil, or_false] at this
  rcases this with rfl | rfl | rfl | rfl | rfl | rfl <;> exact ⟨by decide +kernel, _, by decide +kernel, rfl⟩
theorem kit_all {t T : String} (ht : t ∈ ["NoneType", "bool", "int", "str", "list", "tuple", "dict"]) (hT : tyNames.contains T = true) : kitB t T = some (isTy t T) := by
  have : T ∈ tyNames := by simpa using hT
  simp only [tyNames, List.mem_cons, List.not_mem_nil, or_false] at this ht
  rcases this with rfl | rfl | rfl | rfl | rfl | rfl <;> rcases ht with rfl | rfl | rfl | rfl | rfl | rfl | rfl <;> kernel_rfl
end
end DL
namespace DL
open PySem PySem.Spec PyProof.Rows L2
section
variable {P : Par} {X : Cx} {G : Gx} {W : WX}
theorem bin_ok (C : Ctx P X G W) {o : Op} {op : Operator} (h : binO o = some op) : ∃ r : Gx → R2, rd o = rB r ∧ OpR X (binaryOp op) (r G) := by
  have hk := C.K
  cases o <;> simp only [binO] at h <;> first | (cases h; done) | (cases h)
  · exact ⟨_, rfl, by rw [hk]; exact opr_add⟩
  · exact ⟨_, rfl, op_sub⟩
  · exact ⟨_, rfl, opr_mul⟩
  · exact ⟨_, rfl, op_mod⟩
  · exact ⟨_, rfl, op_fdiv⟩
  · exact ⟨_, rfl, op_pow⟩
theorem cmp_ok (C : Ctx P X G W) {o : Op} {op : CmpOp} (h : cmpO o = some op) : ∃ r : Gx → R2, rd o = rB r ∧ OpR X (compareOp op) (r G) := by
  have hk := C.K
  have hr := C.room
  cases o <;> simp only [cmpO] at h <;> first | (cases h; done) | (cases h)
  · exact ⟨_, rfl, opr_eq hk (by omega)⟩
  · exact ⟨_, rfl, opr_ne hk (by omega)⟩
  · exact ⟨_, rfl, op_lt⟩
  · exact ⟨_, rfl, op_le⟩
  · exact ⟨_, rfl, op_gt⟩
  · exact ⟨_, rfl, op_ge⟩
  · exact ⟨_, rfl, opr_in hk (by omega)⟩
  · exact ⟨_, rfl, opr_notin hk (by omega)⟩
/-- a built-in by its name, and its rule -/
theorem blt_ok (C : Ctx P X G W) {o : Op} {x : Str} (h : bltO o = some x) : X.mg x = none ∧ x ≠ ("__name__" : Str) ∧
    ((∃ id, bootBuiltins x = some (.builtin id) ∧ CallR X (.builtin id) (rd o G)) ∨ ∃ T, bootBuiltins x = some (.type T) ∧ CallR X (.type T) (rd o G)) := by
  have hk := C.K
  have hr := C.room
  cases o <;> simp only [bltO] at h <;> first | (cases h; done) | (cases h)
  · exact ⟨C.blt _ (by decide +kernel), by decide +kernel, .inl ⟨"len", by decide +kernel, by show CallR X _ (rLen G.K); rw [hk]; exact call_len⟩⟩
  · exact ⟨C.blt _ (by decide +kernel), by decide +kernel, .inl ⟨"abs", by decide +kernel, call_abs⟩⟩
  · exact ⟨C.blt _ (by decide +kernel), by decide +kernel, .inr ⟨"int", by decide +kernel, call_int1⟩⟩
  · exact ⟨C.blt _ (by decide +kernel), by decide +kernel, .inr ⟨"list", by decide +kernel, by show CallR X _ (fun xs H Q => ∃ p ys, xs = [.ref p] ∧ (SqL G.K H p ys ∨ SqT G.K H p ys) ∧ ∀ l, H l = none → Q (.ref l) (upd H l (.lst ys))); rw [hk]; exact call_list_of⟩⟩
  · exact ⟨C.blt _ (by decide +kernel), by decide +kernel, .inr ⟨"tuple", by decide +kernel, by show CallR X _ (fun xs H Q => ∃ p ys, xs = [.ref p] ∧ ((SqL G.K H p ys ∧ ∀ l, H l = none → Q (.ref l) (upd H l (.tup ys))) ∨ (SqT G.K H p ys ∧ Q (.ref p) H))); rw [hk]; exact call_tuple_of⟩⟩
  · exact ⟨C.blt _ (by decide +kernel), by decide +kernel, .inl ⟨"repr", by decide +kernel, call_reprD hk C.grd C.sys (by omega)⟩⟩
  · exact ⟨C.blt _ (by decide +kernel), by decide +kernel, .inl ⟨"all", by decide +kernel, by show CallR X _ (rAll G.K); rw [hk]; exact cr_all C.calm⟩⟩
  · exact ⟨C.blt _ (by decide +kernel), by decide +kernel, .inl ⟨"any", by decide +kernel, by show CallR X _ (rAny G.K); rw [hk]; exact cr_any C.calm⟩⟩
theorem tE_mono {f : FE} {σ : St} {H : Hp} {Q Q' : VK} (h : tE G W f σ H Q) (m : ∀ v H, Q v H → Q' v H) : tE G W f σ H Q' :=
  let ⟨fr, Γ, S, Qd, Xd, c, s, h, post, hx⟩ := h
  ⟨fr, Γ, S, Qd, Xd, c, s, h, fun v S' H' Γ' d k c' s' q => m _ _ (post v S' H' Γ' d k c' s' q), hx⟩
theorem tO_mono {i : IE} {σ : St} {H : Hp} {Q Q' : VK} (h : tO G W i σ H Q) (m : ∀ v H, Q v H → Q' v H) : tO G W i σ H Q' := by
  cases i <;> first
    | exact tE_mono h m
    | exact ⟨h.choose, h.choose_spec.1, m _ _ h.choose_spec.2⟩
theorem pe_is1 {a : Expr} {ta : TE} {k : Nat} {pos p2 : Pos} (ha : PE X a ta) : PE X (.Compare a [.Is] [.Constant .none k p2] pos) (fun σ H Q => ta σ H fun x H1 => Q (.bl (decide (x = .non))) H1) :=
  PE.imp (pe_cmpR op_isN ha (pe_non (j := k) (pos := p2)) (nomark _)) fun σ H Q h => by
    show ta σ H fun x H1 => (V.non = V.non ∧ _)
    simpa using h
theorem pe_is2 {a : Expr} {ta : TE} {k : Nat} {pos p2 : Pos} (ha : PE X a ta) : PE X (.Compare a [.IsNot] [.Constant .none k p2] pos) (fun σ H Q => ta σ H fun x H1 => Q (.bl (!decide (x = .non))) H1) :=
  PE.imp (pe_cmpR op_notN ha (pe_non (j := k) (pos := p2)) (nomark _)) fun σ H Q h => by
    show ta σ H fun x H1 => (V.non = V.non ∧ _)
    simpa using h
theorem call_isinT (C : Ctx P X G W) {T : String} (hT : tyNames.contains T = true) : CallR X (.builtin "isinstance") (fun xs H Q => ∃ x, xs = [x, .ty T] ∧ rTyOf [T] G [x] H Q) := by
  intro pins s σ H xs us Q I r h
  obtain ⟨x, rfl, y, t, e, ty, ht, q⟩ := h
  cases e
  have q : Q (.bl ([T].any (isTy t))) H := q
  refine call_isi pins s σ H _ us Q I r ⟨x, .ty T, .type t, .type T, isTy t T, rfl, .ty T, by rw [← C.K]; exact ty, kit_ty (kit_all ht hT), ?_⟩
  simpa using q
theorem abase {a : Expr} {n : Str} {env : Env} {u : Sem Value} (h : callB a = false) : attributeBase a n env u = u := by
  cases a <;> first | rfl | (simp [callB] at h)
theorem cmp_shp (C : Ctx P X G W) {o : Op} {a b : Expr} {op : CmpOp} {pos : Pos} {xs : List Expr} {is : List IE} (h : shCmp o a op b = some xs) (ha : AllPE X G W is xs) :
    PE X (.Compare a [op] [b] pos) (fun σ H Q => tL G W is σ H fun vs H1 => rd o G vs H1 Q) := by
  unfold shCmp at h
  split at h
  · rename_i hb
    cases h
    obtain ⟨hb, hm⟩ := and2 hb
    obtain ⟨r, e1, hr⟩ := cmp_ok C (of_decide_eq_true hb)
    obtain ⟨i, j, rfl, h1, h2, _, _⟩ := ha.two
    rw [e1]
    exact pe_cmpR hr h1 h2 (notF hm)
  · split at h
    · split at h
      · rename_i hc
        cases h
        obtain ⟨rfl, rfl⟩ := hc
        obtain ⟨i, rfl, h1, _⟩ := ha.one
        exact pe_is1 h1
      · split at h
        · rename_i hc
          cases h
          obtain ⟨rfl, rfl⟩ := hc
          obtain ⟨i, rfl, h1, _⟩ := ha.one
          exact pe_is2 h1
        · cases h
    · cases h
theorem call_shp (C : Ctx P X G W) {o : Op} {x : Str} {es : List Expr} {p pos : Pos} {xs : List Expr} {is : List IE} (h : shCall X.env.scope o x es = some xs) (ha : AllPE X G W is xs) :
    PE X (.Call (.Name x p) es [] pos) (fun σ H Q => tL G W is σ H fun vs H1 => rd o G vs H1 Q) := by
  cases es with
  | nil => cases h
  | cons a es =>
  cases es with
  | nil =>
    unfold shCall at h
    dsimp only at h
    split at h
    · rename_i hb
      cases h
      obtain ⟨hb, hg⟩ := and2 hb
      obtain ⟨g1, g2, g3⟩ := glB_ok hg
      obtain ⟨m1, m2, m3⟩ := blt_ok C (of_decide_eq_true hb)
      have hs := ha.ns _ List.mem_cons_self
      rcases m3 with ⟨id, b1, b2⟩ | ⟨T, b1, b2⟩
      · exact pe_callB b2 g1 m1 b1 ha.pa g3 g2 (star_no hs) (back_any (es := []) (by simp))
      · exact pe_callTy b2 g1 m1 b1 ha.pa g3 g2 (star_no hs) (back_any (es := []) (by simp))
    · cases h
  | cons b es =>
  cases es with
  | cons _ _ => unfold shCall at h; cases b <;> cases h
  | nil =>
  unfold shCall at h
  cases b <;> first | (cases h; done) | skip
  case Name y p2 =>
    dsimp only at h
    cases o <;> first | (cases h; done) | skip
    case isin tys =>
      match tys with
      | [] => cases h
      | _ :: _ :: _ => cases h
      | [T] =>
        dsimp only at h
        split at h
        · rename_i hc
          cases h
          obtain ⟨hc, c6⟩ := and2 hc
          obtain ⟨hc, c5⟩ := and2 hc
          obtain ⟨hc, c4⟩ := and2 hc
          obtain ⟨hc, c3⟩ := and2 hc
          obtain ⟨c1, c2⟩ := and2 hc
          have e1 := of_decide_eq_true c1
          have e4 := of_decide_eq_true c4
          obtain ⟨g1, g2, g3⟩ := glB_ok c2
          obtain ⟨g4, g5, g6⟩ := glB_ok c3
          obtain ⟨i, rfl, h1, hs⟩ := ha.one
          obtain ⟨b1, z, b2, b3⟩ := ty_boot c5
          subst e1
          have hm : X.mg y = none := by rw [e4, ← b3]; exact C.blt z b2
          have py : PE X (.Name y p2) (tC (.ty T)) := pe_bltn g4 hm (by rw [e4]; exact b1) rfl g6 g5
          have pa : PA X [a, .Name y p2] (tCons (tO G W i) (tCons (tC (.ty T)) tNil)) := pa_cons h1 (pa_cons py pa_nil) (star_no hs)
          refine PE.imp (pe_callB (call_isinT C c5) g1 (C.blt _ (by decide +kernel)) (by decide +kernel) pa g3 g2 (star_no hs) (back_any (es := [.Name y p2]) (by simp [isStar]))) fun σ H Q h => ?_
          exact tO_mono (show tO G W i σ H fun x H1 => rTyOf [T] G [x] H1 Q from h) fun v H1 q => ⟨v, rfl, q⟩
        · cases h
theorem str1_ok {e : IE} {σ : St} {H : Hp} {Q : VK} (h : tO G W (.str1 e) σ H Q) : tO G W (.str1 e) σ H fun v H1 => ∃ i, v = .str i ∧ Q (.str i) H1 := by
  obtain ⟨fr, Γ, S, Qd, Xd, c, s, h, post, hx⟩ := h
  refine ⟨fr, Γ, S, (fun r Γ' => (∃ i, r.1 = .str i) ∧ Qd r Γ'), Xd, c, s, ?_, ?_, hx⟩
  · have h : ev e false Γ (fun r Γ' => match r.1 with
      | .str i => Qd (.str i, 0) Γ'
      | _ => False) Xd := h
    show ev e false Γ (fun r Γ' => match r.1 with
      | .str i => (∃ j, D.str i = .str j) ∧ Qd (.str i, 0) Γ'
      | _ => False) Xd
    have e2 : (fun (r : DK) (Γ' : Gm) => match r.1 with
      | .str i => (∃ j, D.str i = .str j) ∧ Qd (.str i, 0) Γ'
      | _ => False) = fun (r : DK) (Γ' : Gm) => match r.1 with
      | .str i => Qd (.str i, 0) Γ'
      | _ => False := by
      funext r Γ'
      obtain ⟨d, k⟩ := r
      cases d <;> first | rfl | exact propext ⟨fun h => h.2, fun h => ⟨⟨_, rfl⟩, h⟩⟩
    rw [e2]
    exact h
  · intro v S' H' Γ' d k c' s' q
    obtain ⟨⟨i, e⟩, q⟩ := q
    simp only at e
    subst e
    have r := s'.rep
    simp only [Rep] at r
    subst r
    exact ⟨i, rfl, post _ S' H' Γ' _ _ c' s' q⟩
theorem meth_shp (C : Ctx P X G W) {o : Op} {a : Expr} {n : Str} {es : List Expr} {p pos : Pos} {xs : List Expr} {is : List IE} (hi : o = .join ∨ o = .split → ∃ i j, is = [.str1 i, j]) (h : shMeth o a n es (p.endLine == pos.line && !callB a) = some xs) (ha : AllPE X G W is xs) :
    PE X (.Call (.Attribute a n p) es [] pos) (fun σ H Q => tL G W is σ H fun vs H1 => rd o G vs H1 Q) := by
  have hk := C.K
  match es, h with
  | [b], h =>
    dsimp only [shMeth] at h
    split at h
    · rename_i hc
      cases h
      rcases hc with ⟨rfl, rfl, hc⟩ | ⟨rfl, rfl, hc⟩
      · obtain ⟨i, j, e⟩ := hi (.inl rfl)
        subst e
        obtain ⟨h1, _, h2, s2, _⟩ := ha
        obtain ⟨c2, c3⟩ := and2 hc
        refine PE.imp (pe_join h1 h2 (star_no s2) (abase (notF c3)) c2) fun σ H Q h => ?_
        have h : tO G W (.str1 i) σ H fun x H1 => tO G W j σ H1 fun y H2 => rJoin G.K x [y] H2 Q := h
        rw [hk] at h
        exact tO_mono (str1_ok h) fun x H1 ⟨a, e, q⟩ => ⟨⟨a, e⟩, by rw [e]; exact q⟩
      · obtain ⟨i, j, e⟩ := hi (.inr rfl)
        subst e
        obtain ⟨h1, _, h2, s2, _⟩ := ha
        obtain ⟨c2, c3⟩ := and2 hc
        refine PE.imp (pe_split h1 h2 (star_no s2) (abase (notF c3)) c2) fun σ H Q h => ?_
        have h : tO G W (.str1 i) σ H fun x H1 => tO G W j σ H1 fun y H2 => rSplit x [y] H2 Q := h
        exact tO_mono (str1_ok h) fun x H1 ⟨a, e, q⟩ => ⟨⟨a, e⟩, by rw [e]; exact q⟩
    · cases h
  | [], h => cases h
  | _ :: _ :: _, h => cases h
theorem int1_ok {e : IE} {σ : St} {H : Hp} {Q : VK} (h : tO G W (.int1 e) σ H Q) : tO G W (.int1 e) σ H fun v H1 => ∃ i, v = .int i ∧ Q (.int i) H1 := by
  obtain ⟨fr, Γ, S, Qd, Xd, c, s, h, post, hx⟩ := h
  refine ⟨fr, Γ, S, (fun r Γ' => (∃ i, r.1 = .int i) ∧ Qd r Γ'), Xd, c, s, ?_, ?_, hx⟩
  · have h : ev e false Γ (fun r Γ' => match r.1 with
      | .int i => Qd (.int i, 0) Γ'
      | _ => False) Xd := h
    show ev e false Γ (fun r Γ' => match r.1 with
      | .int i => (∃ j, D.int i = .int j) ∧ Qd (.int i, 0) Γ'
      | _ => False) Xd
    have e2 : (fun (r : DK) (Γ' : Gm) => match r.1 with
      | .int i => (∃ j, D.int i = .int j) ∧ Qd (.int i, 0) Γ'
      | _ => False) = fun (r : DK) (Γ' : Gm) => match r.1 with
      | .int i => Qd (.int i, 0) Γ'
      | _ => False := by
      funext r Γ'
      obtain ⟨d, k⟩ := r
      cases d <;> first | rfl | exact propext ⟨fun h => h.2, fun h => ⟨⟨_, rfl⟩, h⟩⟩
    rw [e2]
    exact h
  · intro v S' H' Γ' d k c' s' q
    obtain ⟨⟨i, e⟩, q⟩ := q
    simp only at e
    subst e
    have r := s'.rep
    simp only [Rep] at r
    subst r
    exact ⟨i, rfl, post _ S' H' Γ' _ _ c' s' q⟩
theorem sub_shp (C : Ctx P X G W) {o : Op} {a s : Expr} {pos : Pos} {xs : List Expr} {is : List IE} (hi : o = .sl true true → ∃ i j l, is = [i, .int1 j, l]) (h : shSub o a s = some xs) (ha : AllPE X G W is xs) :
    PE X (.Subscript a s pos) (fun σ H Q => tL G W is σ H fun vs H1 => rd o G vs H1 Q) := by
  have hk := C.K
  have hr := C.room
  unfold shSub at h
  split at h
  · split at h
    · rename_i ho
      cases h
      subst ho
      obtain ⟨i, rfl, h1, _⟩ := ha.one
      refine PE.imp (pe_slice slr_all h1 po_none po_none) fun σ H Q h => ?_
      have h : tO G W i σ H fun x H1 => r3Sl G.K x none none H1 Q := h
      rw [hk] at h
      exact h
    · cases h
  · split at h
    · rename_i ho
      cases h
      subst ho
      obtain ⟨i, j, rfl, h1, h2, _, _⟩ := ha.two
      refine PE.imp (pe_slice slr_all h1 (po_some h2) po_none) fun σ H Q h => ?_
      have h : tO G W i σ H fun x H1 => tO G W j σ H1 fun y H2 => rSl (r3Sl G.K) true false [x, y] H2 Q := h
      rw [hk] at h
      refine tO_mono h fun x H1 h => tO_mono h fun y H2 h => ?_
      cases y <;> first | exact ⟨_, rfl, h⟩ | exact h.elim
    · cases h
  · split at h
    · rename_i ho
      cases h
      subst ho
      obtain ⟨i, j, rfl, h1, h2, _, _⟩ := ha.two
      refine PE.imp (pe_slice slr_all h1 po_none (po_some h2)) fun σ H Q h => ?_
      have h : tO G W i σ H fun x H1 => tO G W j σ H1 fun y H2 => rSl (r3Sl G.K) false true [x, y] H2 Q := h
      rw [hk] at h
      refine tO_mono h fun x H1 h => tO_mono h fun y H2 h => ?_
      cases y <;> first | exact ⟨_, rfl, h⟩ | exact h.elim
    · cases h
  · split at h
    · rename_i ho
      cases h
      subst ho
      obtain ⟨i, j, l, e⟩ := hi rfl
      subst e
      obtain ⟨h1, _, h2, _, h3, _, _⟩ := ha
      refine PE.imp (pe_slice slr_all h1 (po_some h2) (po_some h3)) fun σ H Q h => ?_
      have h : tO G W i σ H fun x H1 => tO G W (.int1 j) σ H1 fun y H2 => tO G W l σ H2 fun z H3 => rSl (r3Sl G.K) true true [x, y, z] H3 Q := h
      rw [hk] at h
      refine tO_mono h fun x H1 h => tO_mono (int1_ok h) fun y H2 h => ?_
      obtain ⟨n, rfl, h⟩ := h
      exact ⟨_, rfl, tO_mono h fun z H3 h => by cases z <;> first | exact ⟨_, rfl, h⟩ | exact h.elim⟩
    · cases h
  · split at h
    · rename_i ho
      cases h
      obtain ⟨rfl, hb⟩ := ho
      obtain ⟨i, j, rfl, h1, h2, _, _⟩ := ha.two
      refine PE.imp (pe_ix (ixr_all (by omega)) h1 h2 ?_) fun σ H Q h => ?_
      · intro o' i'
        cases s <;> first | rfl | (simp [isSl] at hb)
      · have h : tO G W i σ H fun x H1 => tO G W j σ H1 fun y H2 => r2Ix G.K x y H2 Q := h
        rw [hk] at h
        exact h
    · cases h
theorem shp_ok (C : Ctx P X G W) {o : Op} {e : Expr} {xs : List Expr} {is : List IE} (hi : o = .sl true true → ∃ i j l, is = [i, .int1 j, l]) (hj : o = .join ∨ o = .split → ∃ i j, is = [.str1 i, j]) (h : shp X.env.scope o e = some xs) (ha : AllPE X G W is xs) :
    PE X e (fun σ H Q => tL G W is σ H fun vs H1 => rd o G vs H1 Q) := by
  unfold shp at h
  split at h
  · split at h
    · rename_i ho
      cases h
      subst ho
      obtain ⟨i, rfl, h1, _⟩ := ha.one
      exact pe_un un_neg h1
    · cases h
  · exact cmp_shp C h ha
  · split at h
    · rename_i hb
      cases h
      obtain ⟨r, e1, hr⟩ := bin_ok C hb
      obtain ⟨i, j, rfl, h1, h2, _, _⟩ := ha.two
      rw [e1]
      exact pe_op hr h1 h2
    · cases h
  · exact call_shp C h ha
  · exact meth_shp C hj h ha
  · exact sub_shp C hi h ha
  · split at h
    · rename_i ho
      cases h
      subst ho
      exact pe_tup ha.pa
    · cases h
  · cases h
end
end DL
namespace DL
open PySem PySem.Spec PyProof.Rows L2
/-! ### an owned list changes -/
theorem own0_nil {G : Gx} {S H : Hp} : ∀ {ds : List D} {vs : List V} {F : List Addr}, OwnL (Own G S H 0) ds vs F → F = []
  | [], vs, F, h => h.2
  | d :: ds, vs, F, ⟨v, r, F1, F2, e1, e2, p, t⟩ => by rw [e2, p.1, own0_nil t]; rfl
theorem own0_of {G : Gx} {S H : Hp} : ∀ {ds : List D} {vs : List V}, RepL G S ds vs → OwnL (Own G S H 0) ds vs []
  | [], vs, r => by simp only [RepL] at r; exact ⟨r, rfl⟩
  | d :: ds, vs, r => by
    simp only [RepL] at r
    obtain ⟨v, t, e, a, b⟩ := r
    exact ⟨v, t, [], [], e, rfl, ⟨rfl, a⟩, own0_of b⟩
theorem own0K_of {G : Gx} {S H : Hp} : ∀ {ds : List (Key × D)} {vs : List (Key × V)}, RepK G S ds vs → OwnKV (Own G S H 0) ds vs []
  | [], vs, r => by simp only [RepK] at r; exact ⟨r, rfl⟩
  | (k, d) :: ds, vs, r => by
    simp only [RepK] at r
    obtain ⟨v, t, e, a, b⟩ := r
    exact ⟨v, t, [], [], e, rfl, ⟨rfl, a⟩, own0K_of b⟩
theorem own0K_nil {G : Gx} {S H : Hp} {κ : Type} : ∀ {ds : List (κ × D)} {vs : List (κ × V)} {F : List Addr}, OwnKV (Own G S H 0) ds vs F → F = []
  | [], vs, F, h => h.2
  | (k, d) :: ds, vs, F, ⟨v, r, F1, F2, e1, e2, p, t⟩ => by rw [e2, p.1, own0K_nil t]; rfl
/-- the list that an entry owns -/
theorem Sim.lst1 {G : Gx} {S H : Hp} {v : V} {ds : List D} {E : List Ent} (s : Sim G S H ((v, .lst ds, 1) :: E)) : ∃ a vs, v = .ref a ∧ H a = some (.lst vs) ∧ RepL G S ds vs := by
  obtain ⟨F, ow, _⟩ := s.head
  obtain ⟨a, vs, F', e, _, q, r⟩ := ow
  exact ⟨a, vs, e, q, r.rep0⟩
theorem upd_sim {G : Gx} {S H : Hp} {a : Addr} {o : HO} {E : List Ent} {d d' : D} (hf : ∀ F, Own G S H 1 d (.ref a) F → F = [a]) (s : Sim G S H ((.ref a, d, 1) :: E)) (ho : Own G S (upd H a o) 1 d' (.ref a) [a]) : Sim G S (upd H a o) ((.ref a, d', 1) :: E) := by
  obtain ⟨F, ⟨F1, F2, e, ow, t⟩, nd, fr⟩ := s.own
  subst e
  have hF := hf F1 ow
  subst hF
  have hs : S a = none := fr a (by simp)
  have nin : a ∉ F2 := fun z => (List.nodup_append.mp nd).2.2 a (by simp) a z rfl
  refine ⟨fun b u h => ?_, [a] ++ F2, ⟨[a], F2, rfl, ho, t.mono (.refl S) fun b hb => ?_⟩, nd, fr⟩
  · by_cases z : b = a
    · subst z; rw [hs] at h; cases h
    · rw [upd_ne z]; exact s.sub b u h
  · by_cases z : b = a
    · subst z; exact absurd hb nin
    · rw [upd_ne z]
theorem Sim.setL {G : Gx} {S H : Hp} {a : Addr} {ds ds' : List D} {vs' : List V} {E : List Ent} (s : Sim G S H ((.ref a, .lst ds, 1) :: E)) (r : RepL G S ds' vs') : Sim G S (upd H a (.lst vs')) ((.ref a, .lst ds', 1) :: E) := by
  refine upd_sim (fun F ow => ?_) s ⟨a, vs', [], rfl, rfl, upd_same, own0_of r⟩
  obtain ⟨b, vs, F', e, e2, _, r⟩ := ow
  cases e
  rw [e2, own0_nil r]
theorem Sim.setK {G : Gx} {S H : Hp} {a : Addr} {ds ds' : List (Key × D)} {vs' : List (Key × V)} {E : List Ent} (s : Sim G S H ((.ref a, .dK ds, 1) :: E)) (r : RepK G S ds' vs') : Sim G S (upd H a (.dK vs')) ((.ref a, .dK ds', 1) :: E) := by
  refine upd_sim (fun F ow => ?_) s ⟨a, vs', [], rfl, rfl, upd_same, own0K_of r⟩
  obtain ⟨b, vs, F', e, e2, _, r⟩ := ow
  cases e
  rw [e2, own0K_nil r]
/-- an entry that lost what it owned -/
theorem Sim.zero {G : Gx} {S H : Hp} {v : V} {d : D} {k : Nat} {E : List Ent} (s : Sim G S H ((v, d, k) :: E)) : ∃ S', Sub S S' ∧ Sim G S' H ((v, d, 0) :: E) ∧ Rep G S' d v := by
  obtain ⟨S', h1, h2⟩ := Sim.lower (j := 0) s (Nat.zero_le _)
  exact ⟨S', h1, h2, h2.rep0⟩
/-! ### targets -/
mutual
def gTg (K : PySem.W.Frag) : Tg → TG
  | .name i => gName i
  | .tup ts => gTup K ts.length (gTgs K ts)
def gTgs (K : PySem.W.Frag) : List Tg → TGs
  | [] => gNil
  | t :: ts => gCons (gTg K t) (gTgs K ts)
end
mutual
def tgB (st : Nat → Str → Bool) : Tg → Expr → Bool
  | .name i, .Name x _ => st i x
  | .tup ts, .Tuple es _ _ => tgsB st ts es
  | _, _ => false
def tgsB (st : Nat → Str → Bool) : List Tg → List Expr → Bool
  | [], [] => true
  | t :: ts, e :: es => tgB st t e && tgsB st ts es
  | _, _ => false
end
theorem tgsB_star {st : Nat → Str → Bool} {ts : List Tg} {es : List Expr} (env : Env) (h : tgsB st ts es = true) : assignEach es env = es.map fun e => (false, assign e env) := by
  induction es generalizing ts with
  | nil => rfl
  | cons e es ih =>
    cases ts with
    | nil => simp [tgsB] at h
    | cons t ts =>
      simp only [tgsB] at h
      obtain ⟨h1, h2⟩ := and2 h
      rw [List.map_cons, ← ih h2]
      cases e <;> first | rfl | (cases t <;> simp [tgB] at h1)
theorem tgsB_len {st : Nat → Str → Bool} {ts : List Tg} {es : List Expr} (h : tgsB st ts es = true) : es.length = ts.length := by
  induction es generalizing ts with
  | nil => cases ts with
    | nil => rfl
    | cons _ _ => simp [tgsB] at h
  | cons e es ih =>
    cases ts with
    | nil => simp [tgsB] at h
    | cons t ts =>
      simp only [tgsB] at h
      obtain ⟨h1, h2⟩ := and2 h
      simp [ih h2]
section
variable {X : Cx} {st : Nat → Str → Bool}
def StOk (X : Cx) (st : Nat → Str → Bool) : Prop := ∀ i x, st i x = true → X.N[i]? = some x ∧ Loc X.env.scope x ∧ (X.fn x = true ∨ X.env.scope.names.lookup x = some .local)
mutual
theorem tg_ok (hc : X.calm = true) (nd : X.N.Nodup) (hs : StOk X st) : ∀ (tg : Tg) (e : Expr), tgB st tg e = true → PG X e (gTg X.K tg)
  | .name i, .Name x _, h => by
    simp only [tgB] at h
    obtain ⟨h1, h2, h3⟩ := hs i x h
    exact pg_name nd h1 h2 h3
  | .tup ts, .Tuple es k pos, h => by
    simp only [tgB] at h
    have e1 := tgsB_star X.env h
    refine pg_tup hc (tgs_ok hc nd hs ts es h) ?_ ?_
    · rw [e1, List.length_map, tgsB_len h]
    · rw [e1, List.findIdx?_eq_none_iff]
      intro p hp
      obtain ⟨q, _, rfl⟩ := List.mem_map.mp hp
      rfl
  | .name i, .BoolOp .., h | .name i, .NamedExpr .., h | .name i, .BinOp .., h | .name i, .UnaryOp .., h | .name i, .Lambda .., h | .name i, .IfExp .., h | .name i, .Dict .., h | .name i, .Set .., h | .name i, .ListComp .., h | .name i, .SetComp .., h | .name i, .DictComp .., h | .name i, .GeneratorExp .., h | .name i, .Await .., h | .name i, .Yield .., h | .name i, .YieldFrom .., h | .name i, .Compare .., h | .name i, .Call .., h | .name i, .FormattedValue .., h | .name i, .JoinedStr .., h | .name i, .Constant .., h | .name i, .Attribute .., h | .name i, .Subscript .., h | .name i, .Starred .., h | .name i, .List .., h | .name i, .Tuple .., h | .name i, .Slice .., h => by simp [tgB] at h
  | .tup i, .BoolOp .., h | .tup i, .NamedExpr .., h | .tup i, .BinOp .., h | .tup i, .UnaryOp .., h | .tup i, .Lambda .., h | .tup i, .IfExp .., h | .tup i, .Dict .., h | .tup i, .Set .., h | .tup i, .ListComp .., h | .tup i, .SetComp .., h | .tup i, .DictComp .., h | .tup i, .GeneratorExp .., h | .tup i, .Await .., h | .tup i, .Yield .., h | .tup i, .YieldFrom .., h | .tup i, .Compare .., h | .tup i, .Call .., h | .tup i, .FormattedValue .., h | .tup i, .JoinedStr .., h | .tup i, .Constant .., h | .tup i, .Attribute .., h | .tup i, .Subscript .., h | .tup i, .Starred .., h | .tup i, .List .., h | .tup i, .Name .., h | .tup i, .Slice .., h => by simp [tgB] at h
theorem tgs_ok (hc : X.calm = true) (nd : X.N.Nodup) (hs : StOk X st) : ∀ (ts : List Tg) (es : List Expr), tgsB st ts es = true → PGs X es (gTgs X.K ts)
  | [], [], h => pgs_nil
  | t :: ts, e :: es, h => by
    have e1 := tgsB_star X.env h
    simp only [tgsB] at h
    obtain ⟨h1, h2⟩ := and2 h
    refine pgs_cons (tg_ok hc nd hs t e h1) (tgs_ok hc nd hs ts es h2) ?_
    rw [e1, tgsB_star X.env h2]
    rfl
  | [], _ :: _, h => by simp [tgsB] at h
  | _ :: _, [], h => by simp [tgsB] at h
end
end
/-- the slots but those of own -/
def Same (own : List Nat) (σ σ' : St) : Prop := wipe σ' own = wipe σ own
theorem same_set {own : List Nat} {σ : St} {i : Nat} {v : Option V} (h : i ∈ own) : Same own σ (σ.set i v) := by
  unfold Same
  apply List.ext_getElem?
  intro j
  rw [wipe_get, wipe_get, List.getElem?_set]
  by_cases z : i = j
  · subst z
    rw [if_pos rfl]
    have hc : own.contains i = true := by simpa using h
    by_cases hl : i < σ.length
    · rw [if_pos hl, List.getElem?_eq_getElem hl]
      simp [hc, h]
    · rw [if_neg hl, List.getElem?_eq_none (Nat.le_of_not_lt hl)]
  · rw [if_neg z]
theorem sim_set {G : Gx} {S H : Hp} {v : V} {d : D} {k : Nat} {fr : List Ent} {Γ : Gm} {σ : St} (i : Nat) (c : Cov Γ σ) (s : Sim G S H ((v, d, k) :: (fr ++ slots Γ σ))) :
    Cov (Γ.set i (some (d, k))) (σ.set i (some v)) ∧ Sim G S H (fr ++ slots (Γ.set i (some (d, k))) (σ.set i (some v))) := by
  refine ⟨Cov.set i _ v c, ?_⟩
  by_cases hi : i < Γ.length
  · obtain ⟨l, p⟩ := slots_sub (g := Γ) (s := σ) i
    have p2 := slots_set v d k c hi
    have s2 : Sim G S H (l ++ (fr ++ slots (Γ.set i (some (d, k))) (σ.set i (some v)))) := by
      refine s.perm ?_
      refine (List.Perm.cons _ (List.Perm.append_left fr p)).trans ?_
      refine List.Perm.trans ?_ (List.Perm.append_left l (List.Perm.append_left fr p2.symm))
      generalize slots (Γ.set i none) σ = B
      have h1 : (fr ++ (l ++ B)).Perm (l ++ (fr ++ B)) := by
        rw [← List.append_assoc, ← List.append_assoc]
        exact List.Perm.append_right _ List.perm_append_comm
      have h2 : (l ++ (fr ++ ((v, d, k) :: B))).Perm ((v, d, k) :: (l ++ (fr ++ B))) := by
        rw [← List.append_assoc, ← List.append_assoc]
        exact List.perm_middle
      exact (List.Perm.cons _ h1).trans h2.symm
    exact Sim.left (E := l) s2
  · have h1 : Γ.set i (some (d, k)) = Γ := List.set_eq_of_length_le (Nat.le_of_not_lt hi)
    have h2 : σ.set i (some v) = σ := List.set_eq_of_length_le (by rw [← c.len]; exact Nat.le_of_not_lt hi)
    rw [h1, h2]
    exact s.tail
section
variable {G : Gx}
mutual
theorem set_ok (own : List Nat) : ∀ (tg : Tg) (d : D) (v : V) (Γ Γ' : Gm) (σ : St) (S H : Hp) (fr : List Ent) (Q : St → Hp → Prop), (∀ i ∈ tgIx tg, i ∈ own) → Cov Γ σ → Sim G S H (fr ++ slots Γ σ) → Rep G S d v → setTg tg (d, 0) Γ = some Γ' →
    (∀ σ', Cov Γ' σ' → Sim G S H (fr ++ slots Γ' σ') → Same own σ σ' → σ'.length = σ.length → Q σ' H) → gTg G.K tg v σ H Q
  | .name i, d, v, Γ, Γ', σ, S, H, fr, Q, ho, c, s, r, e, q => by
    simp only [setTg] at e
    cases e
    have s2 := s.add0 r (k := 0) (.inl rfl)
    obtain ⟨c1, s1⟩ := sim_set i c s2
    exact q _ c1 s1 (same_set (ho i (by simp [tgIx]))) (by simp)
  | .tup ts, d, v, Γ, Γ', σ, S, H, fr, Q, ho, c, s, r, e, q => by
    simp only [setTg] at e
    cases d <;> first | (cases e; done) | skip
    case tup ds =>
      dsimp only at e
      split at e
      · rename_i hl
        simp only [Rep] at r
        obtain ⟨a, vs, rfl, q1, r⟩ := r
        refine ⟨a, vs, rfl, s.sub.sqT q1, by rw [r.len, hl], ?_⟩
        exact sets_ok own ts ds vs Γ Γ' σ S H fr Q (by simpa [tgIx] using ho) c s r e q
      · cases e
theorem sets_ok (own : List Nat) : ∀ (ts : List Tg) (ds : List D) (vs : List V) (Γ Γ' : Gm) (σ : St) (S H : Hp) (fr : List Ent) (Q : St → Hp → Prop), (∀ i ∈ tgIxs ts, i ∈ own) → Cov Γ σ → Sim G S H (fr ++ slots Γ σ) → RepL G S ds vs → setTgs ts ds Γ = some Γ' →
    (∀ σ', Cov Γ' σ' → Sim G S H (fr ++ slots Γ' σ') → Same own σ σ' → σ'.length = σ.length → Q σ' H) → gTgs G.K ts vs σ H Q
  | [], [], vs, Γ, Γ', σ, S, H, fr, Q, ho, c, s, r, e, q => by
    simp only [setTgs] at e
    cases e
    simp only [RepL] at r
    exact ⟨r, q σ c s rfl rfl⟩
  | t :: ts, d :: ds, vs, Γ, Γ', σ, S, H, fr, Q, ho, c, s, r, e, q => by
    simp only [setTgs] at e
    cases e1 : setTg t (d, 0) Γ with
    | none => rw [e1] at e; cases e
    | some Γ1 =>
      rw [e1] at e
      simp only [RepL] at r
      obtain ⟨v, rest, rfl, r1, r2⟩ := r
      refine ⟨v, rest, rfl, ?_⟩
      refine set_ok own t d v Γ Γ1 σ S H fr _ (fun i hi => ho i (by simp [tgIxs, hi])) c s r1 e1 fun σ1 c1 s1 m1 l1 => ?_
      refine sets_ok own ts ds rest Γ1 Γ' σ1 S H fr Q (fun i hi => ho i (by simp [tgIxs, hi])) c1 s1 r2 e fun σ2 c2 s2 m2 l2 => ?_
      exact q σ2 c2 s2 (m2.trans m1) (l2.trans l1)
  | [], _ :: _, vs, Γ, Γ', σ, S, H, fr, Q, ho, c, s, r, e, q => by simp only [setTgs] at e; cases e
  | _ :: _, [], vs, Γ, Γ', σ, S, H, fr, Q, ho, c, s, r, e, q => by simp only [setTgs] at e; cases e
end
end
/-! ### what is walked -/
def Feeds (G : Gx) (J : It) (ds : List D) (hold : List Ent) : Prop := ∀ S H E, Sim G S H (hold ++ E) → ∀ i, (∀ d, ds[i]? = some d → J.go i H ∧ ∀ x H', J.yld i H x H' → H' = H ∧ Rep G S d x) ∧ (ds.length ≤ i → J.stop i H)
def rIt : ItK → Gx → List V → Hp → (It → Hp → Prop) → Prop
  | .seq, G, vs, H, R => (∃ a xs, vs = [.ref a] ∧ SqL G.K H a xs ∧ R (Itl G.K a) H) ∨ (∃ a xs, vs = [.ref a] ∧ SqT G.K H a xs ∧ R (Itt G.K a) H) ∨ ∃ x, vs = [.str x] ∧ R (Its x) H
  | .range, G, vs, H, R => (∃ j : Int, vs = [.int j] ∧ -(2 ^ 62) ≤ j ∧ j < 2 ^ 62 ∧ R (Itr 0 j.toNat) H) ∨ ∃ i j : Int, vs = [.int i, .int j] ∧ (-(2 ^ 62) ≤ i ∧ i < 2 ^ 62 ∧ -(2 ^ 62) ≤ j ∧ j < 2 ^ 62) ∧ R (Itr i (j - i).toNat) H
  | _, _, _, _, _ => False
def isSet : Expr → Bool
  | .Set .. => true
  | _ => false
def itX (it : ItK) (sc : Scope) (e : Expr) : Option (List Expr) := match it, e with
  | .seq, e => if isSet e = false then some [e] else none
  | .range, .Call (.Name x _) [a] [] _ => if (decide (x = "range") && glB sc x) = true then some [a] else none
  | .range, .Call (.Name x _) [a, b] [] _ => if (decide (x = "range") && glB sc x) = true then some [a, b] else none
  | _, _ => none
theorem itl_feed {G : Gx} {a : Addr} {ds : List D} {k : Nat} (hk : k ≤ 1) : Feeds G (Itl G.K a) ds [(.ref a, .lst ds, k)] := by
  intro S H E s i
  obtain ⟨F, ow, _⟩ := s.head
  obtain ⟨b, vs, e, q, r⟩ : Rep1 G S H (.lst ds) (.ref a) := ow.one s.sub hk
  cases e
  refine ⟨fun d hd => ?_, fun hl => ⟨vs, .of q, by rw [r.len]; exact hl⟩⟩
  obtain ⟨w, hw, rw'⟩ := r.at hd
  exact ⟨⟨vs, w, .of q, hw⟩, fun x H' y => ⟨y.1, by have := y.2 vs (.of q); rw [hw] at this; cases this; exact rw'⟩⟩
theorem itt_feed {G : Gx} {a : Addr} {ds : List D} {k : Nat} : Feeds G (Itt G.K a) ds [(.ref a, .tup ds, k)] := by
  intro S H E s i
  have r := Sim.repA (d := .tup ds) rfl s
  simp only [Rep] at r
  obtain ⟨b, vs, e, q, r⟩ := r
  cases e
  have q2 := s.sub.sqT q
  refine ⟨fun d hd => ?_, fun hl => ⟨vs, q2, by rw [r.len]; exact hl⟩⟩
  obtain ⟨w, hw, rw'⟩ := r.at hd
  exact ⟨⟨vs, w, q2, hw⟩, fun x H' y => ⟨y.1, by have := y.2 vs q2; rw [hw] at this; cases this; exact rw'⟩⟩
theorem its_feed {G : Gx} {x : Str} : Feeds G (Its x) (x.cps.toList.map fun c => .str ⟨#[c]⟩) [] := by
  intro S H E s i
  refine ⟨fun d hd => ?_, fun hl => by show x.cps.size ≤ i; simpa using hl⟩
  rw [List.getElem?_map] at hd
  cases e : x.cps.toList[i]? with
  | none => rw [e] at hd; cases hd
  | some c =>
    rw [e] at hd
    cases hd
    have hi : i < x.cps.size := by have := List.getElem?_eq_some_iff.mp e; obtain ⟨h, _⟩ := this; simpa using h
    refine ⟨hi, fun y H' z => ⟨z.1, ?_⟩⟩
    obtain ⟨c', h1, h2⟩ := z.2
    simp only [Rep]
    rw [h2]
    have : x.cps.toList[i]? = x.cps[i]? := by simp
    rw [this, h1] at e
    cases e
    rfl
theorem itr_feed {G : Gx} {lo : Int} {n : Nat} : Feeds G (Itr lo n) (rangeD lo n) [] := by
  intro S H E s i
  have hl : (rangeD lo n).length = n := by simp [rangeD]
  refine ⟨fun d hd => ?_, fun h => by rw [hl] at h; exact h⟩
  unfold rangeD at hd
  rw [List.getElem?_map] at hd
  have hi : i < n := by
    by_cases z : i < n
    · exact z
    · rw [List.getElem?_eq_none (by simpa using Nat.le_of_not_lt z)] at hd; cases hd
  rw [List.getElem?_range hi] at hd
  cases hd
  exact ⟨hi, fun x H' y => ⟨y.1, by simp only [Rep]; exact y.2⟩⟩
theorem it_feed {G : Gx} {σ : St} {it : ItK} {rs : List OR} {vs : List V} {T E : List Ent} {S H : Hp} {ds : List D} (o : OpdR σ rs vs T) (s : Sim G S H (T ++ E)) (e : itD it rs = some ds) :
    ∃ hold S', Sub S S' ∧ Sim G S' H (hold ++ E) ∧ ∀ R : It → Hp → Prop, (∀ J, Feeds G J ds hold → R J H) → rIt it G vs H R := by
  unfold itD at e
  split at e
  · cases e
    cases o with
    | v o =>
      cases o
      rename_i k v
      have key : ∃ S', Sub S S' ∧ ∃ j, j ≤ 1 ∧ Sim G S' H ((v, .lst ds, j) :: E) := by
        by_cases hk : k ≤ 1
        · exact ⟨S, .refl S, k, hk, s⟩
        · obtain ⟨S', h1, h2⟩ := Sim.lower (j := 1) s (by omega)
          exact ⟨S', h1, 1, Nat.le_refl _, h2⟩
      obtain ⟨S', h1, j, hj, h2⟩ := key
      obtain ⟨F, ow, _⟩ := h2.head
      obtain ⟨b, ws, e, q, r⟩ : Rep1 G S' H (.lst ds) v := ow.one h2.sub hj
      subst e
      exact ⟨[(.ref b, .lst ds, j)], S', h1, h2, fun R hR => .inl ⟨b, ws, rfl, .of q, hR _ (itl_feed hj)⟩⟩
  · cases e
    cases o with
    | v o =>
      cases o
      have r := Sim.repA (d := .tup ds) rfl s
      simp only [Rep] at r
      obtain ⟨b, ws, e, q, r⟩ := r
      subst e
      exact ⟨[(.ref b, .tup ds, _)], S, .refl S, s, fun R hR => .inr (.inl ⟨b, ws, rfl, s.sub.sqT q, hR _ itt_feed⟩)⟩
  · cases e
    cases o with
    | v o =>
      cases o
      have r := Sim.repA rfl s
      simp only [Rep] at r
      subst r
      exact ⟨[], S, .refl S, s.tail, fun R hR => .inr (.inr ⟨_, rfl, hR _ its_feed⟩)⟩
  · split at e
    · rename_i hz
      cases e
      cases o with
      | v o =>
        cases o
        have r := Sim.repA rfl s
        simp only [Rep] at r
        subst r
        exact ⟨[], S, .refl S, s.tail, fun R hR => .inl ⟨_, rfl, by unfold lim at hz; omega, by unfold lim at hz; omega, hR _ itr_feed⟩⟩
    · cases e
  · split at e
    · rename_i hz
      cases e
      cases o with
      | v o =>
        cases o with
        | v o =>
          cases o
          have r := Sim.repA rfl s
          have r2 := Sim.repA rfl s.tail
          simp only [Rep] at r r2
          subst r r2
          exact ⟨[], S, .refl S, s.tail.tail, fun R hR => .inr ⟨_, _, rfl, by unfold lim at hz; omega, hR _ itr_feed⟩⟩
    · cases e
  · cases e
section
variable {P : Par} {X : Cx} {G : Gx} {W : WX}
theorem pi_ok (C : Ctx P X G W) {tg : Expr} {it : ItK} {e : Expr} {xs : List Expr} {is : List IE} (h : itX it X.env.scope e = some xs) (ha : AllPE X G W is xs) : PI X tg e (fun σ H R => tL G W is σ H fun vs H1 => rIt it G vs H1 R) := by
  have hk := C.K
  unfold itX at h
  split at h
  · split at h
    · cases h
      obtain ⟨i, rfl, h1, _⟩ := ha.one
      refine ⟨fun pins s σ H R I h => ?_⟩
      refine thn (h1.run pins s σ H (fun v H1 => rIt .seq G [v] H1 R) I h) fun u s1 ⟨v, H1, I1, r1, q1⟩ => ?_
      have q1 : rIt .seq G [v] H1 R := q1
      unfold rIt at q1
      simp only [hk] at q1
      rcases q1 with ⟨a, ys, e1, q, hR⟩ | ⟨a, ys, e1, q, hR⟩ | ⟨x, e1, hR⟩
      · cases e1
        cases r1
        obtain ⟨its, rv, p, hz⟩ := I1.list q
        refine wpAny_pyIter_list p.isList ?_
        refine ⟨s1.heap.objs.size, [s1.heap.objs.size], _, _, H1, rfl, I1.kept (t' := s1.toks) fun b o e => Heap.get?_push_of_some _ e, turn_list a _, ⟨_, Heap.get?_push_size _ rfl, rfl, rfl⟩, fun b hb => ?_, hR⟩
        have e : b = s1.heap.objs.size := by simpa using hb
        subst e
        exact I1.fpOk (Nat.le_refl _) (I1.hok.fresh (Nat.le_refl _))
      · cases e1
        cases r1
        obtain ⟨its, rv, p, hz⟩ := I1.tuple q
        refine wpAny_pyIter_tuple (show s1.heap.IsTuple a its.toArray from p) ?_
        refine ⟨s1.heap.objs.size, [s1.heap.objs.size], _, _, H1, rfl, I1.kept (t' := s1.toks) fun b o e => Heap.get?_push_of_some _ e, turn_tuple a _, ⟨_, Heap.get?_push_size _ rfl, rfl, rfl⟩, fun b hb => ?_, hR⟩
        have e : b = s1.heap.objs.size := by simpa using hb
        subst e
        exact I1.fpOk (Nat.le_refl _) (I1.hok.fresh (Nat.le_refl _))
      · cases e1
        obtain ⟨t, rfl⟩ := r1
        cases ha : x.cps.all (· < 128)
        · exact wpAny_pyIter_wide ha (pi_one (tk := s1.toks) I1 _ (turn_str _ x t "str_iterator" (.inr rfl)) ⟨_, Heap.get?_push_size _ rfl, rfl, rfl⟩ hR)
        · exact wpAny_pyIter_ascii ha (pi_one (tk := s1.toks) I1 _ (turn_str _ x t "str_ascii_iterator" (.inl rfl)) ⟨_, Heap.get?_push_size _ rfl, rfl, rfl⟩ hR)
    · cases h
  · split at h
    · rename_i hc
      cases h
      obtain ⟨c1, c2⟩ := and2 hc
      have e1 := of_decide_eq_true c1
      obtain ⟨g1, g2, g3⟩ := glB_ok c2
      subst e1
      have hs := ha.ns _ List.mem_cons_self
      obtain ⟨i, rfl, _, _⟩ := ha.one
      refine ⟨fun pins s σ H R I h => (pi_range1 (tg := tg) g1 (C.blt _ (by decide +kernel)) ha.pa (star_no hs)).run pins s σ H R I ?_⟩
      refine tO_mono (show tO G W i σ H fun v H1 => rIt .range G [v] H1 R from h) fun v H1 q => ?_
      rcases q with ⟨j, e, h1, h2, h3⟩ | ⟨j, l, e, _⟩
      · exact ⟨j, e, h1, h2, h3⟩
      · cases e
    · cases h
  · split at h
    · rename_i hc
      cases h
      obtain ⟨c1, c2⟩ := and2 hc
      have e1 := of_decide_eq_true c1
      obtain ⟨g1, g2, g3⟩ := glB_ok c2
      subst e1
      have hs := ha.ns
      obtain ⟨i, j, rfl, _, _, s1, s2⟩ := ha.two
      refine ⟨fun pins s σ H R I h => (pi_range2 (tg := tg) g1 (C.blt _ (by decide +kernel)) ha.pa (by rw [star_no s1, star_no s2]; rfl) (star_no s2)).run pins s σ H R I ?_⟩
      refine tO_mono (show tO G W i σ H fun v H1 => tO G W j σ H1 fun w H2 => rIt .range G [v, w] H2 R from h) fun v H1 q => tO_mono q fun w H2 q => ?_
      rcases q with ⟨j, e, h1, h2, h3⟩ | ⟨j, l, e, h3, h4⟩
      · cases e
      · exact ⟨j, l, e, h3, h4⟩
    · cases h
  · cases h
end
end DL
namespace DL
open PySem PySem.Spec PyProof.Rows L2
section
variable {P : Par} {X : Cx} {G : Gx} {W : WX}
/-! ### a test whose truth is its value's -/
def plainE : Expr → Bool
  | .UnaryOp .Not _ _ => false
  | .BoolOp .. => false
  | .IfExp .. => false
  | .Compare .. => false
  | _ => true
theorem plain_true {e : Expr} {env : Env} (h : plainE e = true) : ∀ whole, isTrue e env whole = (do let v ← whole; standAt e.pos; holding [v] (truthy v)) := by
  intro whole
  cases e with
  | UnaryOp op x p => cases op <;> first | rfl | (simp [plainE] at h)
  | BoolOp => simp [plainE] at h
  | IfExp => simp [plainE] at h
  | Compare => simp [plainE] at h
  | _ => rfl
theorem tru_pt (hk : G.K = X.K) {ir : IE} {e : Expr} (hE : PE X e (tE G W (ev ir false))) (pl : plainE e = true) (hev : ∀ Γ Q Xd, ev ir true Γ Q Xd → ev ir false Γ (finQ true Q) Xd) : PT X e (tT G W (ev ir true)) := by
  refine PT.imp (pt_truth hE (plain_true pl)) fun σ H Q h => ?_
  obtain ⟨fr, Γ, S, Qd, Xd, c, s, h, post, hx⟩ := h
  refine ⟨fr, Γ, S, finQ true Qd, Xd, c, s, hev _ _ _ h, fun v S' H' Γ' d k c' s' q => ?_, hx⟩
  have q : (match truth d with | some b => Qd (.bl b, 0) Γ' | none => False) := q
  cases e1 : truth d with
  | none => rw [e1] at q; exact q.elim
  | some b =>
    rw [e1] at q
    exact ⟨b, truth_V hk s'.rep e1, post b S' H' Γ' c' s'.tail q⟩
/-- a comparison as a test -/
theorem cmp_pt {ir : IE} {a b : Expr} {op : CmpOp} {pos : Pos} {r : R2} {ta tb : TE} (ho : OpR X (compareOp op) r) (ha : PE X a ta) (hb : PE X b tb) (hm : behindInMarks op b = false)
    (h1 : ∀ σ H Q, tE G W (ev ir false) σ H Q → tOp r ta tb σ H Q) (hev : ∀ Γ Q Xd, ev ir true Γ Q Xd → ev ir false Γ (fun z Γ' => (∃ b, z.1 = .bl b) ∧ finQ true Q z Γ') Xd) : PT X (.Compare a [op] [b] pos) (tT G W (ev ir true)) := by
  refine PT.imp (pt_cmpR ho ha hb hm) fun σ H Q h => h1 _ _ _ ?_
  obtain ⟨fr, Γ, S, Qd, Xd, c, s, h, post, hx⟩ := h
  refine ⟨fr, Γ, S, _, Xd, c, s, hev _ _ _ h, fun v S' H' Γ' d k c' s' q => ?_, hx⟩
  obtain ⟨⟨b, e⟩, q⟩ := q
  simp only at e
  subst e
  have r := s'.rep
  simp only [Rep] at r
  exact ⟨b, r, post b S' H' Γ' c' s'.tail q⟩
/-! ### names, constants -/
theorem var_ok (i : Nat) (mv : Bool) (σ : St) (H : Hp) (Q : VK) (h : tE G W (ev (.var i mv) false) σ H Q) : tVar i σ H Q := by
  obtain ⟨fr, Γ, S, Qd, Xd, c, s, h, post, hx⟩ := h
  simp only [ev] at h
  cases e : Γ.getD i none with
  | none => rw [e] at h; exact h.elim
  | some dk =>
    obtain ⟨d, k⟩ := dk
    rw [e] at h
    obtain ⟨v, hv, p⟩ := slots_get c (getD_some e)
    refine ⟨v, hv, ?_⟩
    have s1 : Sim G S H ((v, d, k) :: (fr ++ slots (Γ.set i none) σ)) := (s.perm (List.Perm.append_left fr p)).perm List.perm_middle
    cases mv with
    | true =>
      simp only [if_true] at h
      exact post v S H _ d k (Cov.unset i c) s1 h
    | false =>
      have h : Qd (d, 0) (Γ.set i (some (d, 0))) := h
      obtain ⟨S', h1, s2, r⟩ := s1.zero
      have s3 := s2.add0 (k := 0) r (.inl rfl)
      refine post v S' H _ d 0 (Cov.put i _ hv c) ?_ h
      refine s3.perm (List.Perm.cons _ ?_)
      refine List.perm_middle.symm.trans (List.Perm.append_left fr ?_)
      exact (slots_put d 0 c hv).symm
theorem rep_cst (S : Hp) (c : Cst) (h : ∀ xs, c ≠ .tup xs) : Rep G S c.d (cV c) := by cases c <;> first | (simp only [Cst.d, cV, Rep]; done) | exact absurd rfl (h _)
theorem cst_ok (c : Cst) (v : V) (hr : ∀ S, Rep G S c.d v) (σ : St) (H : Hp) (Q : VK) (h : tE G W (fun Γ Q _ => Q (c.d, 0) Γ) σ H Q) : Q v H := by
  obtain ⟨fr, Γ, S, Qd, Xd, cv, s, h, post, hx⟩ := h
  exact post v S H Γ c.d 0 cv (s.add0 (hr S) (.inl rfl)) h
def cstB : Cst → Const → Bool
  | .non, .none => true
  | .bl a, .bool b => a == b
  | .int a, .int b => decide (a = b)
  | .str a, .str b => decide (a = b)
  | _, _ => false
theorem cstB_no {c : Cst} {k : Const} (h : cstB c k = true) : ∀ xs, c ≠ .tup xs := by rintro xs rfl; cases k <;> cases h
theorem pe_cst {c : Cst} {k : Const} {j : Nat} {pos : Pos} (h : cstB c k = true) : PE X (.Constant k j pos) (fun σ H Q => Q (cV c) H) := by
  cases c <;> cases k <;> simp only [cstB] at h <;> first | (cases h; done) | skip
  · exact pe_non
  · rw [beq_iff_eq] at h; subst h; exact pe_bl
  · have := of_decide_eq_true h; subst this; exact pe_int
  · have := of_decide_eq_true h; subst this; exact pe_str
/-! ### lists -/
theorem vals_rep {σ : St} : ∀ {rs : List OR} {vs : List V} {T : List Ent} {ds : List D} {S H : Hp} {E : List Ent}, OpdR σ rs vs T → valsD rs = some ds → Sim G S H (T ++ E) → ∃ S', Sub S S' ∧ Sim G S' H E ∧ RepL G S' ds vs := by
  intro rs vs T ds S H E o
  induction o generalizing ds S with
  | nil => intro e s; simp only [valsD] at e; cases e; exact ⟨S, .refl S, s, RepL.nil⟩
  | @v d k rs v vs T o ih =>
    intro e s
    simp only [valsD] at e
    cases e1 : valsD rs with
    | none => rw [e1] at e; cases e
    | some ds' =>
      rw [e1] at e
      cases e
      obtain ⟨S1, h1, s1, r1⟩ := Sim.zero s
      obtain ⟨S2, h2, s2, r2⟩ := ih e1 s1.tail
      exact ⟨S2, h1.trans h2, s2, RepL.cons (r1.mono h2 _ _) r2⟩
  | b hv o ih => intro e s; simp only [valsD] at e; cases e
  | l hv o ih => intro e s; simp only [valsD] at e; cases e
theorem lst_ok (es : List IE) (σ : St) (H : Hp) (Q : VK) (h : tE G W (ev (.lst es) false) σ H Q) : tLst (tL G W es) σ H Q := by
  obtain ⟨fr, Γ, S, Qd, Xd, c, s, h, post, hx⟩ := h
  simp only [ev] at h
  refine run_L es σ H _ fr Γ S _ Xd c s h (fun vs S' H' Γ' rs T c' s' o q => ?_) hx
  cases e : valsD rs with
  | none => rw [e] at q; exact q.elim
  | some ds =>
    rw [e] at q
    dsimp only at q
    split at q
    · rename_i hz
      obtain ⟨S2, h2, s2, r2⟩ := vals_rep o e s'
      refine ⟨by rw [r2.len, line_lim]; exact hz, fun p hp => ?_⟩
      have L : Leaves G S2 H' (.lst ds, 1) Q := fun v S3 H3 F g ow nd f1 f2 => post v S3 H3 Γ' (.lst ds) 1 c' (s2.add g ow nd f1 f2) q
      exact L.lst s2.sub r2 hp
    · exact q.elim
/-! ### calls -/
theorem pe_callG {f : FunIR} {is : List IE} {xs : List Expr} {x : Str} {p pos : Pos} (C : Ctx P X G W) (ok : CallOk X G f) (hx : x = f.name) (g : glB X.env.scope x = true) (ha : AllPE X G W is xs) (hne : xs ≠ []) : PE X (.Call (.Name x p) xs [] pos) (tE G W (ev (.call f is) false)) := by
  subst hx
  obtain ⟨k, a, fd, F, hr, hm, hkp, hb⟩ := ok
  obtain ⟨g1, g2, _⟩ := glB_ok g
  cases xs with
  | nil => exact absurd rfl hne
  | cons e es =>
  have hst : starEach (e :: es) X.env = (false, eval e X.env) :: starEach es X.env := star_no (ha.ns _ List.mem_cons_self)
  have hpl : (backTo pos (starEach es X.env)).any (·.1) = false := back_any fun e he => ha.ns e (List.mem_cons_of_mem _ he)
  have pa := ha.pa
  refine ⟨fun pins s σ H Q I h => ?_⟩
  refine wpAny_Call_Name_kw (ld_glob I g1 hm ?_ g2)
  obtain ⟨fr, Γ, S, Qd, Xd, c, sm, h, post, hxw⟩ := h
  simp only [ev] at h
  have hL : tL G W is σ H fun vs H1 => spOf G f vs H1 Q (fun cls dx H' => W cls dx σ H') := by
    refine run_L is σ H _ fr Γ S _ Xd c sm h (fun vs S' H' Γ' rs T c' s' o q => ?_) hxw
    cases e1 : takeArgs Γ' rs with
    | none => rw [e1] at q; exact q.elim
    | some r =>
      obtain ⟨as, Γ2⟩ := r
      rw [e1] at q
      dsimp only at q
      obtain ⟨l1, c2, s2⟩ := take_ok o c' s' e1
      refine ⟨fr ++ slots Γ2 σ, S', as, _, _, ?_, l1, s2, q, fun v S3 H3 d k fs lf s3 q3 => ?_, fun x cls dx S3 H3 fs lf s3 xr q3 => ?_⟩
      · have : as.length = f.ps.length := by
          cases f
          simp only [semF] at q
          exact q.1
        omega
      · have s4 : Sim G S3 H3 (slots fs (vs.map some) ++ (((v, d, k) :: fr) ++ slots Γ2 σ)) := s3.perm (List.perm_middle.symm)
        obtain ⟨c5, s5⟩ := give_ok o lf c2 s4
        exact post v S3 H3 _ d k c5 s5 q3
      · obtain ⟨c5, s5⟩ := give_ok o lf c2 s3
        exact hxw x cls dx S3 H3 _ c5 s5 xr q3
  refine PySem.W.callWith_K (h₀ := X.base) I.ok.mod.kin hkp (thn (pa.run pos pins s σ H _ I hL) fun us s1 ⟨vs, H1, I1, r, q⟩ => ⟨I1.kIn, ?_⟩) hst hpl
  have hl : us.length = f.ps.length := by rw [← r.length]; exact F.len _ _ _ _ q
  have hbd := hb s1 us I1.kIn (by simpa using hl)
  rw [List.append_nil] at hbd
  refine wpAny_call (codeAny_mono (F.run X.A X.stack s1 H1 ⟨us, []⟩ us vs Q _ hr C.grd I1.env0 hbd r q) fun r s' hq => ?_)
  cases r with
  | error e => exact C.tk e s' (XE.of_call I1 (fun _ _ _ h => h) hq)
  | ok fl =>
    cases fl with
    | ret u => exact I1.after hq
    | next => exact False.elim hq
    | brk => exact False.elim hq
    | cont => exact False.elim hq
/-! ### and, or, not, if -/
theorem not_pe (hk : G.K = X.K) {ir : IE} {e : Expr} {pos : Pos} (h1 : PE X e (tE G W (ev ir false))) : PE X (.UnaryOp .Not e pos) (tE G W (ev (.not ir) false)) := by
  refine PE.imp (pe_notT h1) fun σ H Q h => ?_
  obtain ⟨fr, Γ, S, Qd, Xd, c, s, h, post, hx⟩ := h
  simp only [ev] at h
  refine ⟨fr, Γ, S, _, Xd, c, s, h, fun v S' H' Γ' d k c' s' q => ?_, hx⟩
  dsimp only at q
  cases e1 : truth d with
  | none => rw [e1] at q; exact q.elim
  | some b =>
    rw [e1] at q
    refine ⟨b, truth_V hk s'.rep e1, post _ S' H' Γ' (.bl (!b)) 0 c' (s'.tail.add0 (by simp only [Rep]) (.inl rfl)) q⟩
theorem not_pt {ir : IE} {e : Expr} {pos : Pos} (h1 : PT X e (tT G W (ev ir true))) : PT X (.UnaryOp .Not e pos) (tT G W (ev (.not ir) true)) := by
  refine PT.imp (pt_not h1) fun σ H Q h => ?_
  obtain ⟨fr, Γ, S, Qd, Xd, c, s, h, post, hx⟩ := h
  simp only [ev] at h
  exact ⟨fr, Γ, S, _, Xd, c, s, h, fun b S' H' Γ' c' s' q => post (!b) S' H' Γ' c' s' q, hx⟩
/-- values, each matched -/
def AllV (X : Cx) (G : Gx) (W : WX) : List IE → List Expr → Prop
  | [], [] => True
  | i :: is, x :: xs => (PE X x (tE G W (ev i false)) ∧ PT X x (tT G W (ev i true))) ∧ AllV X G W is xs
  | _, _ => False
theorem and_ok (hk : G.K = X.K) {pos : Pos} : ∀ (is : List IE) (xs : List Expr), is ≠ [] → AllV X G W is xs → PE X (.BoolOp .And xs pos) (tE G W (evAnd is false)) ∧ PW X (.BoolOp .And xs pos) (tT G W (evAnd is true))
  | [], _, h, _ => absurd rfl h
  | [i], [x], _, h => ⟨pe_one h.1.1, pw_and1 h.1.2⟩
  | i :: j :: is, x :: y :: xs, _, hv => by
    obtain ⟨r1, r2⟩ := and_ok hk (pos := pos) (j :: is) (y :: xs) (by simp) hv.2
    constructor
    · refine PE.imp (pe_andT hv.1.1 r1) fun σ H Q h => ?_
      obtain ⟨fr, Γ, S, Qd, Xd, c, s, h, post, hx⟩ := h
      simp only [evAnd] at h
      refine ⟨fr, Γ, S, _, Xd, c, s, h, fun v S' H' Γ' d k c' s' q => ?_, hx⟩
      dsimp only at q
      cases e1 : truth d with
      | none => rw [e1] at q; exact q.elim
      | some b =>
        rw [e1] at q
        refine ⟨b, truth_V hk s'.rep e1, ?_⟩
        cases b with
        | true => rw [if_pos rfl]; exact ⟨fr, Γ', S', Qd, Xd, c', s'.tail, q, post, hx⟩
        | false => rw [if_neg Bool.false_ne_true]; exact post v S' H' Γ' d k c' s' q
    · refine ⟨fun wh pins s σ H Q I h => (pw_and hv.1.2 r2).run wh pins s σ H Q I ?_⟩
      obtain ⟨fr, Γ, S, Qd, Xd, c, s, h, post, hx⟩ := h
      simp only [evAnd] at h
      refine ⟨fr, Γ, S, _, Xd, c, s, h, fun b S' H' Γ' c' s' q => ?_, hx⟩
      cases b with
      | true => rw [if_pos rfl]; exact ⟨fr, Γ', S', Qd, Xd, c', s', q, post, hx⟩
      | false => rw [if_neg Bool.false_ne_true]; exact post false S' H' Γ' c' s' q
  | [_], [], _, h => h.elim
  | [_], _ :: _ :: _, _, h => h.2.elim
  | _ :: _ :: _, [], _, h => h.elim
  | _ :: _ :: _, [_], _, h => h.2.elim
theorem or_ok (hk : G.K = X.K) {pos : Pos} : ∀ (is : List IE) (xs : List Expr), is ≠ [] → AllV X G W is xs → PE X (.BoolOp .Or xs pos) (tE G W (evOr is false)) ∧ PW X (.BoolOp .Or xs pos) (tT G W (evOr is true))
  | [], _, h, _ => absurd rfl h
  | [i], [x], _, h => ⟨pe_one h.1.1, pw_or1 h.1.2⟩
  | i :: j :: is, x :: y :: xs, _, hv => by
    obtain ⟨r1, r2⟩ := or_ok hk (pos := pos) (j :: is) (y :: xs) (by simp) hv.2
    constructor
    · refine PE.imp (pe_orT hv.1.1 r1) fun σ H Q h => ?_
      obtain ⟨fr, Γ, S, Qd, Xd, c, s, h, post, hx⟩ := h
      simp only [evOr] at h
      refine ⟨fr, Γ, S, _, Xd, c, s, h, fun v S' H' Γ' d k c' s' q => ?_, hx⟩
      dsimp only at q
      cases e1 : truth d with
      | none => rw [e1] at q; exact q.elim
      | some b =>
        rw [e1] at q
        refine ⟨b, truth_V hk s'.rep e1, ?_⟩
        cases b with
        | false => rw [if_neg Bool.false_ne_true]; exact ⟨fr, Γ', S', Qd, Xd, c', s'.tail, q, post, hx⟩
        | true => rw [if_pos rfl]; exact post v S' H' Γ' d k c' s' q
    · refine ⟨fun wh pins s σ H Q I h => (pw_or hv.1.2 r2).run wh pins s σ H Q I ?_⟩
      obtain ⟨fr, Γ, S, Qd, Xd, c, s, h, post, hx⟩ := h
      simp only [evOr] at h
      refine ⟨fr, Γ, S, _, Xd, c, s, h, fun b S' H' Γ' c' s' q => ?_, hx⟩
      cases b with
      | false => rw [if_neg Bool.false_ne_true]; exact ⟨fr, Γ', S', Qd, Xd, c', s', q, post, hx⟩
      | true => rw [if_pos rfl]; exact post true S' H' Γ' c' s' q
  | [_], [], _, h => h.elim
  | [_], _ :: _ :: _, _, h => h.2.elim
  | _ :: _ :: _, [], _, h => h.elim
  | _ :: _ :: _, [_], _, h => h.2.elim
theorem pt_if {tA tB tC : TT} {c a b : Expr} {pos : Pos} (hc : PT X c tA) (ha : PT X a tB) (hb : PT X b tC) : PT X (.IfExp c a b pos) (fun σ H Q => tA σ H fun k H1 => if k = true then tB σ H1 Q else tC σ H1 Q) := by
  refine ⟨fun pins s σ H Q I h => ?_⟩
  show wpAny _ _ (PySem.isTrue (.IfExp c a b pos) X.env (eval (.IfExp c a b pos) X.env)) _ _ s
  rw [PySem.isTrue]
  refine wpAny_bind (thn (hc.run pins s σ H _ I h) fun d s1 ⟨H1, I1, q1⟩ => ?_)
  cases d with
  | true => exact ha.run pins s1 σ H1 Q I1 q1
  | false => exact hb.run pins s1 σ H1 Q I1 q1
theorem ite_ok {i j l : IE} {c a b : Expr} {pos : Pos} (hc : PT X c (tT G W (ev i true))) (ha : PE X a (tE G W (ev j false)) ∧ PT X a (tT G W (ev j true))) (hb : PE X b (tE G W (ev l false)) ∧ PT X b (tT G W (ev l true))) :
    PE X (.IfExp c a b pos) (tE G W (ev (.ite i j l) false)) ∧ PT X (.IfExp c a b pos) (tT G W (ev (.ite i j l) true)) := by
  constructor
  · refine PE.imp (pe_ifExp hc ha.1 hb.1) fun σ H Q h => ?_
    obtain ⟨fr, Γ, S, Qd, Xd, cv, s, h, post, hx⟩ := h
    simp only [ev] at h
    refine ⟨fr, Γ, S, _, Xd, cv, s, h, fun k S' H' Γ' c' s' q => ?_, hx⟩
    cases k with
    | true => rw [if_pos rfl]; exact ⟨fr, Γ', S', Qd, Xd, c', s', q, post, hx⟩
    | false => rw [if_neg Bool.false_ne_true]; exact ⟨fr, Γ', S', Qd, Xd, c', s', q, post, hx⟩
  · refine PT.imp (pt_if hc ha.2 hb.2) fun σ H Q h => ?_
    obtain ⟨fr, Γ, S, Qd, Xd, cv, s, h, post, hx⟩ := h
    simp only [ev] at h
    refine ⟨fr, Γ, S, _, Xd, cv, s, h, fun k S' H' Γ' c' s' q => ?_, hx⟩
    cases k with
    | true => rw [if_pos rfl]; exact ⟨fr, Γ', S', Qd, Xd, c', s', q, post, hx⟩
    | false => rw [if_neg Bool.false_ne_true]; exact ⟨fr, Γ', S', Qd, Xd, c', s', q, post, hx⟩
end
end DL
namespace DL
open PySem PySem.Spec PyProof.Rows L2
/-! ### chains -/
def chO : Op → Option CmpOp
  | .lt => some .Lt | .le => some .LtE | .gt => some .Gt | .ge => some .GtE
  | _ => none
def cmpF : Op → Int → Int → Bool
  | .lt, a, b => decide (a < b)
  | .le, a, b => decide (a ≤ b)
  | .gt, a, b => decide (b < a)
  | .ge, a, b => decide (b ≤ a)
  | _, _, _ => false
theorem ch_ok {X : Cx} {o : Op} {op : CmpOp} (h : chO o = some op) : OpR X (compareOp op) (rI0 fun i j => .bl (cmpF o i j)) ∧ (∀ x y, cmpI o x y = some (cmpF o x y)) ∧ op ≠ .In ∧ op ≠ .NotIn := by
  cases o <;> simp only [chO] at h <;> first | (cases h; done) | (cases h)
  · exact ⟨op_lt, fun _ _ => rfl, by decide, by decide⟩
  · exact ⟨op_le, fun _ _ => rfl, by decide, by decide⟩
  · exact ⟨op_gt, fun _ _ => rfl, by decide, by decide⟩
  · exact ⟨op_ge, fun _ _ => rfl, by decide, by decide⟩
section
variable {P : Par} {X : Cx} {G : Gx} {W : WX}
theorem chain_run {o o' : Op} {a b c : IE} {t : Bool} {σ : St} {H : Hp} {fr : List Ent} {Γ : Gm} {S : Hp} {Qd : DK → Gm → Prop} {Xd : XD} {Q : VK} (e1 : ∀ x y, cmpI o x y = some (cmpF o x y)) (e2 : ∀ x y, cmpI o' x y = some (cmpF o' x y))
    (cv : Cov Γ σ) (s : Sim G S H (fr ++ slots Γ σ)) (h : ev (.chain o o' a b c) t Γ Qd Xd) (post : ∀ k S' H' Γ', Cov Γ' σ → Sim G S' H' (fr ++ slots Γ' σ) → finQ t Qd (.bl k, 0) Γ' → Q (.bl k) H') (hx : XW G W fr σ Xd) :
    tChain (rI0 fun i j => .bl (cmpF o i j)) (rI0 fun i j => .bl (cmpF o' i j)) (tE G W (ev a false)) (tE G W (ev b false)) (tE G W (ev c false)) σ H Q := by
  simp only [ev] at h
  refine ⟨fr, Γ, S, _, Xd, cv, s, h, fun v1 S1 H1 Γ1 d1 k1 c1 s1 q1 => ?_, hx⟩
  refine ⟨(v1, d1, k1) :: fr, Γ1, S1, _, Xd, c1, s1, q1, fun v2 S2 H2 Γ2 d2 k2 c2 s2 q2 => ?_, hx.tail _⟩
  dsimp only at q2
  cases d1 <;> first | exact q2.elim | skip
  cases d2 <;> first | exact q2.elim | skip
  rename_i x y
  dsimp only at q2
  have r2 := s2.rep
  have r1 := s2.tail.rep
  simp only [Rep] at r1 r2
  subst r1 r2
  refine ⟨x, y, rfl, rfl, cmpF o x y, rfl, ?_⟩
  rw [e1] at q2
  cases hk : cmpF o x y with
  | false =>
    rw [hk] at q2
    rw [if_neg Bool.false_ne_true]
    exact post false S2 H2 Γ2 c2 s2.tail.tail q2
  | true =>
    rw [hk] at q2
    rw [if_pos rfl]
    refine ⟨fr, Γ2, S2, _, Xd, c2, s2.tail.tail, q2, fun v3 S3 H3 Γ3 d3 k3 c3 s3 q3 => ?_, hx⟩
    dsimp only at q3
    cases d3 <;> first | exact q3.elim | skip
    rename_i z
    have r3 := s3.rep
    simp only [Rep] at r3
    subst r3
    dsimp only at q3
    rw [e2] at q3
    exact ⟨y, z, rfl, rfl, post _ S3 H3 Γ3 c3 s3.tail q3⟩
theorem chain_ok {o o' : Op} {op op' : CmpOp} {a b c : IE} {ea eb ec : Expr} {pos : Pos} (h1 : chO o = some op) (h2 : chO o' = some op') (ha : PE X ea (tE G W (ev a false))) (hb : PE X eb (tE G W (ev b false))) (hc : PE X ec (tE G W (ev c false))) :
    PE X (.Compare ea [op, op'] [eb, ec] pos) (tE G W (ev (.chain o o' a b c) false)) ∧ PT X (.Compare ea [op, op'] [eb, ec] pos) (tT G W (ev (.chain o o' a b c) true)) := by
  obtain ⟨r1, e1, _⟩ := ch_ok (X := X) h1
  obtain ⟨r2, e2, n1, n2⟩ := ch_ok (X := X) h2
  have hm : lastMarks [op, op'] [eb, ec] = false := by
    show behindInMarks op' ec = false
    exact nomark ec n1 n2
  constructor
  · refine PE.imp (pe_chain r1 r2 ha hb hc hm) fun σ H Q h => ?_
    obtain ⟨fr, Γ, S, Qd, Xd, cv, s, h, post, hx⟩ := h
    exact chain_run e1 e2 cv s h (fun k S' H' Γ' c' s' q => post _ S' H' Γ' (.bl k) 0 c' (s'.add0 (by simp only [Rep]) (.inl rfl)) q) hx
  · refine PT.imp (pt_chain r1 r2 ha hb hc hm) fun σ H Q h => ?_
    obtain ⟨fr, Γ, S, Qd, Xd, cv, s, h, post, hx⟩ := h
    exact chain_run (Q := fun x H' => ∃ k, x = .bl k ∧ Q k H') e1 e2 cv s h (fun k S' H' Γ' c' s' q => ⟨k, rfl, post k S' H' Γ' c' s' q⟩) hx
/-! ### dicts -/
def pairUp : List V → List (V × V)
  | x :: y :: r => (x, y) :: pairUp r
  | _ => []
def dictX : List (Option Expr) → List Expr → Option (List Expr)
  | [], [] => some []
  | some k :: ks, v :: vs => match dictX ks vs with
    | some r => some (k :: v :: r)
    | none => none
  | _, _ => none
theorem pps_ok {pos : Pos} : ∀ {ks : List (Option Expr)} {vs : List Expr} {xs : List Expr} {is : List IE}, dictX ks vs = some xs → AllPE X G W is xs → ∃ trs, PPs X pos ks vs trs ∧ ks.all (·.isSome) = true ∧ ks.length = vs.length ∧ xs.length = 2 * ks.length ∧
    ∀ σ H Q, (tL G W is σ H fun ws H1 => Q (pairUp ws) H1) → tPairs trs σ H Q
  | [], [], xs, is, e, ha => by
    simp only [dictX] at e
    cases e
    cases is with
    | nil => exact ⟨[], pps_nil, rfl, rfl, rfl, fun σ H Q h => h⟩
    | cons _ _ => exact ha.elim
  | some k :: ks, v :: vs, xs, is, e, ha => by
    simp only [dictX] at e
    cases e1 : dictX ks vs with
    | none => rw [e1] at e; cases e
    | some r =>
      rw [e1] at e
      cases e
      match is, ha with
      | [], ha => exact ha.elim
      | [_], ha => exact ha.2.2.elim
      | i :: j :: is, ha =>
        obtain ⟨trs, h1, h2, h3, h5, h4⟩ := pps_ok (pos := pos) e1 ha.2.2.2.2
        refine ⟨(tO G W i, tO G W j) :: trs, pps_cons ha.1 ha.2.2.1 h1, by simpa using h2, by simp [h3], by simp only [List.length_cons, h5]; omega, fun σ H Q h => ?_⟩
        have h : tO G W i σ H fun x H1 => tO G W j σ H1 fun y H2 => tL G W is σ H2 fun ws H3 => Q ((x, y) :: pairUp ws) H3 := h
        exact tO_mono h fun x H1 h => tO_mono h fun y H2 h => h4 σ H2 (fun ps H3 => Q ((x, y) :: ps) H3) h
  | [], _ :: _, xs, is, e, ha => by simp only [dictX] at e; cases e
  | none :: _, _, xs, is, e, ha => by simp only [dictX] at e; cases e
  | some _ :: _, [], xs, is, e, ha => by simp only [dictX] at e; cases e
theorem repK_put {S : Hp} : ∀ {kvs : List (Key × D)} {ws : List (Key × V)} (κ : Key) {d : D} {v : V}, RepK G S kvs ws → Rep G S d v → RepK G S (putG kvs κ d) (putK ws κ v) := by
  intro kvs ws κ d v h r
  have hk : (ws.any fun kv => decide (kv.1 = κ)) = kvs.any fun kv => decide (kv.1 = κ) := by
    have := RepK.keys h
    have e1 : (ws.any fun kv => decide (kv.1 = κ)) = (ws.map (·.1)).any fun k => decide (k = κ) := by rw [List.any_map]; rfl
    have e2 : (kvs.any fun kv => decide (kv.1 = κ)) = (kvs.map (·.1)).any fun k => decide (k = κ) := by rw [List.any_map]; rfl
    rw [e1, e2, this]
  unfold putG putK
  rw [hk]
  split
  · clear hk
    rename_i hh
    clear hh
    induction kvs generalizing ws with
    | nil => simp only [RepK] at h; subst h; simp [RepK]
    | cons kd kvs ih =>
      obtain ⟨k, e⟩ := kd
      simp only [RepK] at h
      obtain ⟨w, t, rfl, h1, h2⟩ := h
      simp only [List.map_cons]
      by_cases z : k = κ
      · simp only [z, if_true, RepK]
        exact ⟨v, _, rfl, r, ih h2⟩
      · simp only [z, if_false, RepK]
        exact ⟨w, _, rfl, h1, ih h2⟩
  · clear hk
    rename_i hh
    clear hh
    induction kvs generalizing ws with
    | nil => simp only [RepK] at h; subst h; simp only [List.nil_append, RepK]; exact ⟨v, [], rfl, r, rfl⟩
    | cons kd kvs ih =>
      obtain ⟨k, e⟩ := kd
      simp only [RepK] at h
      obtain ⟨w, t, rfl, h1, h2⟩ := h
      simp only [List.cons_append, RepK]
      exact ⟨w, _, rfl, h1, ih h2⟩
theorem dictOf_ok {S H : Hp} : ∀ (ds : List D) (acc : List (Key × D)) (r : List (Key × D)) (vs : List V) (wacc : List (Key × V)), dictOfD ds acc = some r → AccL true G S H ds vs → RepK G S acc wacc →
    ∃ more : List (Key × V), pairUp vs = more.map (fun kv => (kV kv.1, kv.2)) ∧ 2 * more.length = ds.length ∧ RepK G S r (mergeK wacc more)
  | [], acc, r, vs, wacc, e, ha, hr => by
    simp only [dictOfD] at e
    cases e
    cases ha
    exact ⟨[], rfl, rfl, hr⟩
  | [_], acc, r, vs, wacc, e, ha, hr => by simp only [dictOfD] at e; cases e
  | k :: d :: ds, acc, r, vs, wacc, e, ha, hr => by
    simp only [dictOfD] at e
    cases e1 : keyOf k with
    | none => rw [e1] at e; cases e
    | some κ =>
      rw [e1] at e
      obtain ⟨kv, t, rfl, hk, ha⟩ := ha
      obtain ⟨v, t, rfl, hd, ha⟩ := ha
      have hkv : kv = kV κ := by
        have hk : Rep G S k kv := hk
        cases k <;> simp only [keyOf] at e1 <;> first | (cases e1; done) | (cases e1; simp only [Rep] at hk; exact hk)
      obtain ⟨more, m1, m3, m2⟩ := dictOf_ok ds (putG acc κ d) r t (putK wacc κ v) e ha (repK_put κ hr hd)
      refine ⟨(κ, v) :: more, ?_, by simp only [List.length_cons]; omega, m2⟩
      rw [List.map_cons, ← m1, hkv]
      rfl
theorem dict_ok {ks : List (Option Expr)} {vs xs : List Expr} {is : List IE} {pos : Pos} (h : dictX ks vs = some xs) (ha : AllPE X G W is xs) (h15 : ks.length ≤ 15) : PE X (.Dict ks vs pos) (tE G W (ev (.op .dict is) false)) := by
  obtain ⟨trs, h1, h2, h3, h5, h4⟩ := pps_ok (pos := pos) h ha
  have add : ∀ {σ : St} {H : Hp} {fr : List Ent} {Γ : Gm} {S : Hp} {p : Addr}, Sim G S H (fr ++ slots Γ σ) → H p = none → Sim G S (upd H p (.dK [])) (((.ref p, .dK [], 1) :: fr) ++ slots Γ σ) := by
    intro σ H fr Γ S p s hp
    refine s.add (.own s.sub hp) (F := [p]) ⟨p, [], [], rfl, rfl, upd_same, rfl, rfl⟩ (by simp) (fun a ha => ?_) (fun a ha => ?_)
    · simp at ha; rw [ha]; exact hp
    · simp at ha; rw [ha]; exact s.sub.none hp
  have main : ∀ σ H Q, tE G W (ev (.op .dict is) false) σ H Q → ∀ p, H p = none → tL G W is σ (upd H p (.dK [])) fun ws H2 => H2 p = some (.dK []) ∧ ∃ kvs : List (Key × V), pairUp ws = kvs.map (fun kv => (kV kv.1, kv.2)) ∧ kvs.length ≤ 15 ∧ Q (.ref p) (upd H2 p (.dK (mergeK [] kvs))) := by
    intro σ H Q h p hp
    obtain ⟨fr, Γ, S, Qd, Xd, c, s, h, post, hx⟩ := h
    simp only [ev] at h
    refine run_L is σ _ _ ((.ref p, .dK [], 1) :: fr) Γ S _ Xd c (add s hp) h (fun ws S' H' Γ' rs T c' s' o q => ?_) (hx.tail _)
    cases e1 : der Op.dict.st Γ' rs with
    | none => rw [e1] at q; exact q.elim
    | some ds =>
      rw [e1] at q
      dsimp only at q
      cases e2 : opD .dict ds with
      | none => rw [e2] at q; exact q.elim
      | some z =>
        rw [e2] at q
        obtain ⟨S2, ss, s2, acc⟩ := opd_get o c' s' e1
        have e2 : opDict ds = some z := e2
        unfold opDict at e2
        split at e2
        · rename_i hz
          cases e3 : dictOfD ds [] with
          | none => rw [e3] at e2; cases e2
          | some kvs =>
            rw [e3] at e2
            cases e2
            obtain ⟨more, m1, m3, m2⟩ := dictOf_ok ds [] kvs ws [] e3 acc (by simp [RepK])
            have hp2 : H' p = some (.dK []) := by
              obtain ⟨F, ow, _⟩ := s2.head
              obtain ⟨a, vs', F', e, _, q', r'⟩ := ow
              cases e
              cases vs' with
              | nil => exact q'
              | cons _ _ => obtain ⟨e5, _⟩ := r'; cases e5
            refine ⟨hp2, more, m1, by omega, ?_⟩
            have s3 := Sim.setK (ds' := kvs) (vs' := mergeK [] more) (show Sim G S2 H' ((.ref p, .dK [], 1) :: (fr ++ slots Γ' σ)) from s2) m2
            exact post (.ref p) S2 _ Γ' (.dK kvs) 1 c' s3 q
        · cases e2
  cases ks with
  | nil =>
    cases vs with
    | cons _ _ => simp [dictX] at h
    | nil =>
      simp only [dictX] at h
      cases h
      cases is with
      | cons _ _ => exact ha.elim
      | nil =>
        refine PE.imp pe_dnewK fun σ H Q h p hp => ?_
        obtain ⟨_, kvs, e, _, q⟩ := main σ H Q h p hp
        have : kvs = [] := by
          cases kvs with
          | nil => rfl
          | cons _ _ => simp [pairUp] at e
        subst this
        have e2 : upd (upd H p (.dK [])) p (.dK (mergeK [] [])) = upd H p (.dK []) := by
          funext b
          unfold upd
          split <;> rfl
        rw [e2] at q
        exact q
  | cons k ks =>
    exact PE.imp (pe_disp h1 h2 h3 (by simp) h15) fun σ H Q h p hp => h4 σ _ _ (main σ H Q h p hp)
end
end DL
namespace DL
open PySem PySem.Spec PyProof.Rows L2
theorem wipe_wipe (σ : St) (own : List Nat) : wipe (wipe σ own) own = wipe σ own := by
  apply List.ext_getElem?
  intro i
  rw [wipe_get, wipe_get]
  cases σ[i]? with
  | none => rfl
  | some x =>
    show some _ = some _
    congr 1
    split <;> rfl
theorem wipeA_idem (own : List Nat) : ∀ (g : Gm) (j : Nat), wipeA own j (wipeA own j g) = wipeA own j g
  | [], j => rfl
  | x :: g, j => by
    simp only [wipeA]
    rw [wipeA_idem own g (j + 1)]
    congr 1
    split <;> rfl
theorem backA_wipe (own : List Nat) : ∀ (g g' : Gm) (j : Nat), backA own j g (wipeA own j g') = backA own j g g'
  | [], g', j => by cases g' <;> simp [backA, wipeA]
  | x :: g, [], j => by simp [backA, wipeA]
  | x :: g, y :: g', j => by
    simp only [backA, wipeA]
    rw [backA_wipe own g g' (j + 1)]
    congr 1
    split <;> rfl
def tI (G : Gx) (ifs : List IE) : TT := fun σ H Q => ∃ (fr : List Ent) (Γ : Gm) (S : Hp) (Qd : Bool → Gm → Prop), Cov Γ σ ∧ Sim G S H (fr ++ slots Γ σ) ∧ evIfs ifs Γ Qd ∧
  ∀ b S' H' Γ', Cov Γ' σ → Sim G S' H' (fr ++ slots Γ' σ) → Qd b Γ' → Q b H'
abbrev WF : WX := fun _ _ _ _ => False
theorem wf_any {G : Gx} {fr : List Ent} {σ : St} : XW G WF fr σ (fun _ _ => False) := fun _ _ _ _ _ _ _ _ _ q => q
theorem perm3 (A B C : List Ent) : (A ++ B ++ C).Perm (B ++ (A ++ C)) := by
  rw [← List.append_assoc]
  exact List.Perm.append_right _ List.perm_append_comm
section
variable {P : Par} {X : Cx} {G : Gx} {W : WX}
theorem pts_ok {ifs : List IE} {es : List Expr} (h : match ifs, es with | [], [] => True | [i], [e] => PT X e (tT G WF (ev i true)) | _, _ => False) : PTs X es (tI G ifs) := by
  match ifs, es, h with
  | [], [], _ =>
    refine ⟨fun pins s σ H Q I h => pts_nil.run pins s σ H Q I ?_⟩
    obtain ⟨fr, Γ, S, Qd, c, sm, h, post⟩ := h
    simp only [evIfs] at h
    exact post true S H Γ c sm h
  | [i], [e], hp =>
    refine ⟨fun pins s σ H Q I h => (pts_one hp).run pins s σ H Q I ?_⟩
    obtain ⟨fr, Γ, S, Qd, c, sm, h, post⟩ := h
    simp only [evIfs] at h
    refine ⟨fr, Γ, S, _, _, c, sm, h, fun b S' H' Γ' c' s' q => ?_, wf_any⟩
    have q : (if b = true then Qd true Γ' else Qd false Γ') := q
    cases b with
    | true => exact post true S' H' Γ' c' s' q
    | false => exact post false S' H' Γ' c' s' q
theorem comp_rd {own : List Nat} {tg : Tg} {it : ItK} {es ifs : List IE} {elt : IE} (ho : ∀ i ∈ tgIx tg, i ∈ own) (σ : St) (H : Hp) (Q : VK) (h : tE G W (ev (.comp own tg it es ifs elt) false) σ H Q) :
    tLc (fun σ H R => tL G W es σ H fun vs H1 => rIt it G vs H1 R) (gTg G.K tg) (tI G ifs) (tE G WF (ev elt false)) own σ H Q := by
  obtain ⟨fr, Γ, S, Qd, Xd, c, s, h, post, hx⟩ := h
  simp only [ev] at h
  refine run_L es σ H _ fr Γ S _ Xd c s h (fun vs S1 H1 Γ1 rs T c1 s1 o q => ?_) hx
  cases e : itD it rs with
  | none => rw [e] at q; exact q.elim
  | some ds =>
  rw [e] at q
  obtain ⟨hlim, q⟩ := q
  obtain ⟨hold, S2, h2, s2, feed⟩ := it_feed o s1 e
  refine feed _ fun J fd Dz hD => ?_
  -- the frame through the loop
  let F : List Ent := fr ++ slots (keepA own 0 Γ1) σ
  let stp : D → Gm → (Option DK → Gm → Prop) → Prop := fun d Γ2 K => match setTg tg (d, 0) (wipeG Γ2 own) with
    | some Γ3 => evIfs ifs Γ3 (fun b Γ4 => if b = true then ev elt false Γ4 (fun r Γ5 => K (some r) Γ5) (fun _ _ => False) else K none Γ4)
    | none => False
  let Qf : DK → Gm → Prop := fun r Γ' => finQ false Qd r (backG Γ1 Γ' own)
  let Wn : Nat → Nat → Hp → Prop := fun i m H => ∃ (S : Hp) (Γ : Gm) (acc : List D), m + i = ds.length ∧ acc.length ≤ i ∧ Cov (wipeG Γ own) (wipe σ own) ∧
    Sim G S H (((.ref Dz, .lst acc, 1) :: (hold ++ F)) ++ slots (wipeG Γ own) (wipe σ own)) ∧ compL stp (ds.drop i) Γ acc Qf
  refine ⟨Wn, ⟨ds.length, S2, wipeG Γ1 own, [], by simp, by simp, ?_, ?_, ?_⟩, ?_⟩
  · rw [show wipeG (wipeG Γ1 own) own = wipeG Γ1 own from wipeA_idem own Γ1 0, wipe_eq]
    exact cov_wipe own Γ1 σ 0 c1
  · rw [show wipeG (wipeG Γ1 own) own = wipeG Γ1 own from wipeA_idem own Γ1 0]
    have s3 : Sim G S2 H1 ((hold ++ F) ++ slots (wipeG Γ1 own) (wipe σ own)) := by
      have := blk_in own (fr := hold ++ fr) (Γ := Γ1) (σ := σ) (by rw [List.append_assoc]; exact s2)
      rw [List.append_assoc hold] at this
      exact this
    refine s3.add (.own s3.sub hD) (F := [Dz]) ⟨Dz, [], [], rfl, rfl, upd_same, rfl, rfl⟩ (by simp) (fun a ha => ?_) (fun a ha => ?_)
    · simp at ha; rw [ha]; exact hD
    · simp at ha; rw [ha]; exact s3.sub.none hD
  · exact q
  · rintro i m H3 ⟨S3, Γ3, acc, hm, hacc, c3, s3, q3⟩
    have sh : Sim G S3 H3 (hold ++ (F ++ slots (wipeG Γ3 own) (wipe σ own))) := by
      have := Sim.tail (x := (.ref Dz, .lst acc, 1)) (E := (hold ++ F) ++ slots (wipeG Γ3 own) (wipe σ own)) s3
      rw [List.append_assoc] at this
      exact this
    obtain ⟨fgo, fstop⟩ := fd S3 H3 _ sh i
    by_cases hi : i < ds.length
    · refine .inr ?_
      have ed : ds[i]? = some ds[i] := List.getElem?_eq_getElem hi
      obtain ⟨go, yl⟩ := fgo _ ed
      refine ⟨go, Wn (i + 1) (m - 1), fun H' w => ⟨m - 1, by omega, w⟩, fun x H4 y => ?_⟩
      obtain ⟨rfl, rx⟩ := yl x H4 y
      rw [List.drop_eq_getElem_cons hi] at q3
      simp only [compL, stp] at q3
      cases e3 : setTg tg (ds[i], 0) (wipeG Γ3 own) with
      | none => rw [e3] at q3; exact q3.elim
      | some Γ4 =>
        rw [e3] at q3
        dsimp only at q3
        refine set_ok own tg ds[i] x (wipeG Γ3 own) Γ4 (wipe σ own) S3 H4 ((.ref Dz, .lst acc, 1) :: (hold ++ F)) _ ho c3 s3 rx e3 fun σ2 c4 s4 sm l4 => ?_
        have hw : wipe σ2 own = wipe σ own := by
          have : wipe σ2 own = wipe (wipe σ own) own := sm
          rw [this, wipe_wipe]
        refine ⟨hw, (.ref Dz, .lst acc, 1) :: (hold ++ F), Γ4, S3, _, c4, s4, q3, fun b S5 H5 Γ5 c5 s5 q5 => ?_⟩
        have turn : ∀ {S6 : Hp} {H6 : Hp} {Γ6 : Gm} {acc' : List D}, Cov Γ6 σ2 → acc'.length ≤ i + 1 → Sim G S6 H6 (((.ref Dz, .lst acc', 1) :: (hold ++ F)) ++ slots Γ6 σ2) → compL stp (ds.drop (i + 1)) Γ6 acc' Qf → Wn (i + 1) (m - 1) H6 := by
          intro S6 H6 Γ6 acc' c6 l6 s6 q6
          refine ⟨S6, Γ6, acc', by omega, l6, ?_, ?_, q6⟩
          · rw [← hw, wipe_eq]; exact cov_wipe own Γ6 σ2 0 c6
          · have := blk_in own s6
            rw [hw] at this
            exact Sim.left (E := slots (keepA own 0 Γ6) σ2) (this.perm (perm3 _ _ _))
        cases b with
        | false =>
          simp only [Bool.false_eq_true, if_false] at q5 ⊢
          exact turn c5 (by omega) s5 q5
        | true =>
          simp only [if_true] at q5 ⊢
          refine ⟨(.ref Dz, .lst acc, 1) :: (hold ++ F), Γ5, S5, _, _, c5, s5, q5, fun y2 S6 H6 Γ6 e6 k6 c6 s6 q6 => ?_, wf_any⟩
          obtain ⟨S7, h7, s7, r7⟩ := Sim.zero s6
          obtain ⟨a, accv, e7, hv, ra⟩ := Sim.lst1 s7.tail
          cases e7
          refine ⟨accv, hv, ?_, ?_⟩
          · rw [ra.len, line_lim]; omega
          · refine turn c6 (by simp; omega) (Sim.setL s7.tail (ds' := acc ++ [e6]) (ra.append (RepL.cons r7 RepL.nil))) q6
    · refine .inl ⟨fstop (by omega), ?_⟩
      rw [List.drop_eq_nil_of_le (by omega)] at q3
      simp only [compL, Qf, finQ] at q3
      have s5 : Sim G S3 H3 ((((.ref Dz, .lst acc, 1) :: fr) ++ slots (keepA own 0 Γ1) σ) ++ slots (wipeG Γ3 own) (wipe σ own)) := by
        have : Sim G S3 H3 (hold ++ ((((.ref Dz, .lst acc, 1) :: fr) ++ slots (keepA own 0 Γ1) σ) ++ slots (wipeG Γ3 own) (wipe σ own))) := by
          refine s3.perm ?_
          show (((.ref Dz, .lst acc, 1) : Ent) :: ((hold ++ F) ++ slots (wipeG Γ3 own) (wipe σ own))).Perm (hold ++ (((.ref Dz, .lst acc, 1) : Ent) :: (F ++ slots (wipeG Γ3 own) (wipe σ own))))
          rw [List.append_assoc]
          exact List.perm_middle.symm
        exact Sim.left (E := hold) this
      obtain ⟨c6, s6⟩ := blk_out own c1 c3 s5
      have e6 : backG Γ1 (wipeG Γ3 own) own = backG Γ1 Γ3 own := backA_wipe own Γ1 Γ3 0
      rw [e6] at c6 s6
      exact post (.ref Dz) S3 H3 _ (.lst acc) 1 c6 s6 q3
/-! ### the block's scope -/
def relS (scope sc : Scope) : Scope := { scope with names := scope.names.map fun (n, k) => if (k == .free && sc.kind == .function && sc.names.lookup n == some .cell) then (n, .cell) else (n, k) }
theorem relS_eq (scope : Scope) (env : Env) : relabel scope env = relS scope env.scope := rfl
theorem rel_lookup {sc : Scope} {k : NameKind} (hk : k ≠ .free) : ∀ {names : List (Str × NameKind)} {x : Str}, names.lookup x = some k →
    (names.map fun (n, k) => if (k == .free && sc.kind == .function && sc.names.lookup n == some .cell) = true then (n, NameKind.cell) else (n, k)).lookup x = some k
  | [], x, h => by simp at h
  | (n, k') :: r, x, h => by
    have ih := @rel_lookup sc k hk r x
    simp only [List.lookup_cons] at h
    rw [List.map_cons]
    dsimp only
    by_cases c : (k' == NameKind.free && sc.kind == .function && sc.names.lookup n == some .cell) = true
    · rw [if_pos c]
      simp only [List.lookup_cons]
      cases hx : x == n with
      | true =>
        rw [hx] at h
        cases h
        obtain ⟨c, _⟩ := and2 c
        obtain ⟨c, _⟩ := and2 c
        exact absurd (beq_iff_eq.mp c) hk
      | false => rw [hx] at h; exact ih h
    · rw [if_neg c]
      simp only [List.lookup_cons]
      cases hx : x == n with
      | true => rw [hx] at h; exact h
      | false => rw [hx] at h; exact ih h
def ownP (N : List Str) (own : List Nat) : List (Str × Nat) := own.map fun i => (N.getD i ⟨#[]⟩, i)
def blkB (N : List Str) (sc scope : Scope) (own : List Nat) : Bool :=
  decide (scope.kind = .function) && (scope.names.all fun y => decide (scope.names.lookup y.1 = some y.2)) && ((ownP N own).all fun p => decide (N[p.2]? = some p.1)) &&
  (scope.names.all fun y => !decide (y.2 = .free) || decide (sc.names.lookup y.1 = some .cell) || decide (sc.names.lookup y.1 = some .free)) &&
  (scope.names.all fun y => !(decide (y.2 = .local) || decide (y.2 = .cell)) || decide (y.1 ∈ (ownP N own).map (·.1)) || decide (y.1 ∉ N))
theorem blkB_ok {N : List Str} {sc scope : Scope} {own : List Nat} (h : blkB N sc scope own = true) : BlkOk N sc scope (ownP N own) := by
  obtain ⟨h, h5⟩ := and2 h
  obtain ⟨h, h4⟩ := and2 h
  obtain ⟨h, h3⟩ := and2 h
  obtain ⟨h1, h2⟩ := and2 h
  refine ⟨of_decide_eq_true h1, fun y hy => of_decide_eq_true (List.all_eq_true.mp h2 y hy), fun p hp => of_decide_eq_true (List.all_eq_true.mp h3 p hp), fun y hy e => ?_, fun y hy e => ?_⟩
  · have := List.all_eq_true.mp h4 y hy
    rw [Bool.or_eq_true, Bool.or_eq_true] at this
    rcases this with (z | z) | z
    · rw [decide_eq_true e] at z; cases z
    · exact .inl (of_decide_eq_true z)
    · exact .inr (of_decide_eq_true z)
  · have := List.all_eq_true.mp h5 y hy
    rw [Bool.or_eq_true, Bool.or_eq_true] at this
    rcases this with (z | z) | z
    · rcases e with e | e <;> (rw [decide_eq_true e] at z; simp at z)
    · exact .inl (of_decide_eq_true z)
    · exact .inr (of_decide_eq_true z)
theorem ownP_snd (N : List Str) (own : List Nat) : (ownP N own).map (·.2) = own := by
  unfold ownP
  rw [List.map_map]
  exact List.map_id' own
/-- stores within a block -/
def stBlk (N : List Str) (scope : Scope) (i : Nat) (x : Str) : Bool := decide (N[i]? = some x) && (decide (scope.names.lookup x = some .local) || decide (scope.names.lookup x = some .cell))
theorem stBlk_ok (C : Ctx P X G W) (s : Shared) (H : Hp) (scope : Scope) (cl : List (Str × Addr)) (D : Addr) (fp : List Addr) : StOk (X.blk s H scope (compEnvC scope cl D X.env) fp) (stBlk P.N scope) := by
  intro i x h
  obtain ⟨h1, h2⟩ := and2 h
  rw [Bool.or_eq_true] at h2
  refine ⟨by show X.N[i]? = some x; rw [C.N]; exact of_decide_eq_true h1, ?_⟩
  rcases h2 with h2 | h2
  · have e := of_decide_eq_true h2
    have e2 : (relabel scope X.env).names.lookup x = some .local := rel_lookup (sc := X.env.scope) (by decide) e
    exact ⟨.inl e2, .inr e2⟩
  · have e := of_decide_eq_true h2
    have e2 : (relabel scope X.env).names.lookup x = some .cell := rel_lookup (sc := X.env.scope) (by decide) e
    refine ⟨.inr e2, .inl ?_⟩
    show (scope.names.lookup x == some .cell) = true
    rw [e]; rfl
end
end DL
namespace DL
open PySem PySem.Spec PyProof.Rows L2
/-! ### what is called -/
mutual
def callsE : IE → List FunIR
  | .op _ es => callsL es
  | .int1 e => callsE e
  | .str1 e => callsE e
  | .lst es => callsL es
  | .and es => callsL es
  | .or es => callsL es
  | .not e => callsE e
  | .ite c a b => callsE c ++ (callsE a ++ callsE b)
  | .chain _ _ a b c => callsE a ++ (callsE b ++ callsE c)
  | .call f es => f :: callsL es
  | .comp _ _ _ es ifs elt => callsL es ++ (callsL ifs ++ callsE elt)
  | .var _ _ => []
  | .bor _ => []
  | .loan _ => []
  | .cst _ => []
  | .glob _ _ => []
def callsL : List IE → List FunIR
  | [] => []
  | e :: es => callsE e ++ callsL es
end
/-! ### the matcher -/
def isInt1 : IE → Bool
  | .int1 _ => true
  | _ => false
def isStr1 : IE → Bool
  | .str1 _ => true
  | _ => false
def chk3 : List IE → Bool
  | [_, j, _] => isInt1 j
  | _ => false
def chk2 : List IE → Bool
  | [j, _] => isStr1 j
  | _ => false
def opChk (o : Op) (es : List IE) : Bool := match o with
  | .sl true true => chk3 es
  | .join => chk2 es
  | .split => chk2 es
  | _ => true
/-- a written comprehension: element, target, what is walked, tests, its scope -/
def lcX : Expr → Option (Expr × Expr × Expr × List Expr × Scope)
  | .ListComp elt [⟨tg, iter, ifs, 0⟩] scope _ => some (elt, tg, iter, ifs, scope)
  | _ => none
mutual
def mE (P : Par) (sc : Scope) : IE → Expr → Bool
  | .var i _, e => match e with
    | .Name x _ => nmB P sc i x
    | _ => false
  | .cst c, e => match e with
    | .Constant k _ _ => cstB c k
    | _ => false
  | .glob x c, e => match e with
    | .Name y _ => decide (x = y) && glB sc y && decide (P.gls.lookup y = some c)
    | _ => false
  | .op o es, e => if o = .dict then
      match e with
      | .Dict ks vs _ => match dictX ks vs with
        | some xs => decide (ks.length ≤ 15) && mL P sc es xs
        | none => false
      | _ => false
    else match shp sc o e with
      | some xs => opChk o es && mL P sc es xs
      | none => false
  | .int1 a, e => mE P sc a e && plainE e
  | .str1 a, e => mE P sc a e && plainE e
  | .lst es, e => match e with
    | .List xs _ => mL P sc es xs
    | _ => false
  | .and es, e => match e with
    | .BoolOp .And xs _ => !es.isEmpty && mV P sc es xs
    | _ => false
  | .or es, e => match e with
    | .BoolOp .Or xs _ => !es.isEmpty && mV P sc es xs
    | _ => false
  | .not a, e => match e with
    | .UnaryOp .Not x _ => mE P sc a x
    | _ => false
  | .ite c a b, e => match e with
    | .IfExp x y z _ => mE P sc c x && mE P sc a y && mE P sc b z
    | _ => false
  | .chain o o' a b c, e => match e with
    | .Compare x [p, p'] [y, z] _ => decide (chO o = some p) && decide (chO o' = some p') && mE P sc a x && mE P sc b y && mE P sc c z
    | _ => false
  | .call f es, e => match e with
    | .Call (.Name x _) xs [] _ => decide (x = f.name) && glB sc x && !xs.isEmpty && mL P sc es xs
    | _ => false
  | .comp own tg it es ifs elt, e => match lcX e with
    | some (x, t, iter, ys, scope) => blkB P.N sc scope own && (tgIx tg).all (fun i => decide (i ∈ own)) && tgB (stBlk P.N scope) tg t && !isSet iter && decide (ys.length ≤ 1) &&
      (match itX it sc iter with
      | some xs => mL P sc es xs
      | none => false) && mV P (relS scope sc) ifs ys && mE P (relS scope sc) elt x
    | none => false
  | .bor _, _ => false
  | .loan _, _ => false
/-- operands -/
def mL (P : Par) (sc : Scope) : List IE → List Expr → Bool
  | [], xs => xs.isEmpty
  | e :: es, xs => match xs with
    | [] => false
    | x :: xs => !isStar x && (match e with
      | .bor i => match x with
        | .Name y _ => nmB P sc i y
        | _ => false
      | .loan i => match x with
        | .Name y _ => nmB P sc i y
        | _ => false
      | e => mE P sc e x) && mL P sc es xs
/-- values -/
def mV (P : Par) (sc : Scope) : List IE → List Expr → Bool
  | [], xs => xs.isEmpty
  | e :: es, xs => match xs with
    | [] => false
    | x :: xs => mE P sc e x && mV P sc es xs
end
section
variable {P : Par} {X : Cx} {G : Gx} {W : WX}
theorem isB {o : Op} (h : (cmpO o).isSome = true ∨ o = .isN ∨ o = .notN) {ds : List D} {z : D × Nat} (e : opD o ds = some z) : ∃ b, z.1 = .bl b := by
  cases o <;> simp only [cmpO, Option.isSome] at h <;> first | (rcases h with h | h | h <;> cases h; done) | skip
  all_goals (simp only [opD] at e)
  · unfold opEq at e; split at e
    · split at e
      · cases q : eqD _ _ with
        | none => rw [q] at e; cases e
        | some r => rw [q] at e; cases e; exact ⟨_, rfl⟩
      · cases e
    · cases e
  · unfold opNe at e; split at e
    · split at e
      · cases q : eqD _ _ with
        | none => rw [q] at e; cases e
        | some r => rw [q] at e; cases e; exact ⟨_, rfl⟩
      · cases e
    · cases e
  · unfold opLt at e; split at e <;> cases e; exact ⟨_, rfl⟩
  · unfold opLe at e; split at e <;> cases e; exact ⟨_, rfl⟩
  · unfold opGt at e; split at e <;> cases e; exact ⟨_, rfl⟩
  · unfold opGe at e; split at e <;> cases e; exact ⟨_, rfl⟩
  · unfold opInn at e; split at e
    · split at e
      · cases q : anyD _ _ with
        | none => rw [q] at e; cases e
        | some r => rw [q] at e; cases e; exact ⟨_, rfl⟩
      · cases e
    · split at e
      · cases q : anyD _ _ with
        | none => rw [q] at e; cases e
        | some r => rw [q] at e; cases e; exact ⟨_, rfl⟩
      · cases e
    · cases e; exact ⟨_, rfl⟩
    · cases q : keyOf _ with
      | none => rw [q] at e; cases e
      | some r => rw [q] at e; cases e; exact ⟨_, rfl⟩
    · cases e
  · unfold opNotin at e; split at e
    · split at e
      · cases q : anyD _ _ with
        | none => rw [q] at e; cases e
        | some r => rw [q] at e; cases e; exact ⟨_, rfl⟩
      · cases e
    · split at e
      · cases q : anyD _ _ with
        | none => rw [q] at e; cases e
        | some r => rw [q] at e; cases e; exact ⟨_, rfl⟩
      · cases e
    · cases e; exact ⟨_, rfl⟩
    · cases q : keyOf _ with
      | none => rw [q] at e; cases e
      | some r => rw [q] at e; cases e; exact ⟨_, rfl⟩
    · cases e
  · unfold opIsN at e; split at e <;> cases e; exact ⟨_, rfl⟩
  · unfold opNotN at e; split at e <;> cases e; exact ⟨_, rfl⟩
theorem hev_cmp {o : Op} {es : List IE} (h : (cmpO o).isSome = true ∨ o = .isN ∨ o = .notN) : ∀ Γ Q Xd, ev (.op o es) true Γ Q Xd → ev (.op o es) false Γ (fun z Γ' => (∃ b, z.1 = .bl b) ∧ finQ true Q z Γ') Xd := by
  intro Γ Q Xd hh
  simp only [ev] at hh ⊢
  have : (fun (rs : List OR) (Γ' : Gm) => match der o.st Γ' rs with
      | some ds => match opD o ds with
        | some r => finQ false (fun z Γ' => (∃ b, z.1 = .bl b) ∧ finQ true Q z Γ') r Γ'
        | none => False
      | none => False) = fun (rs : List OR) (Γ' : Gm) => match der o.st Γ' rs with
      | some ds => match opD o ds with
        | some r => finQ true Q r Γ'
        | none => False
      | none => False := by
    funext rs Γ'
    cases e1 : der o.st Γ' rs with
    | none => rfl
    | some ds =>
      dsimp only
      cases e2 : opD o ds with
      | none => rfl
      | some z => exact propext ⟨fun h => h.2, fun q => ⟨isB h e2, q⟩⟩
  exact Eq.mp (congrArg (fun K => evL es Γ K Xd) this.symm) hh
theorem chk_sl {o : Op} {es : List IE} (h : opChk o es = true) : (o = .sl true true → ∃ i j l, es = [i, .int1 j, l]) ∧ (o = .join ∨ o = .split → ∃ i j, es = [.str1 i, j]) := by
  refine ⟨fun e => ?_, fun e => ?_⟩
  · subst e
    have h : chk3 es = true := h
    match es, h with
    | [i, j, l], h =>
      have h : isInt1 j = true := h
      cases j <;> first | (cases h; done) | exact ⟨_, _, _, rfl⟩
  · have h : chk2 es = true := by rcases e with rfl | rfl <;> exact h
    match es, h with
    | [i, j], h =>
      have h : isStr1 i = true := h
      cases i <;> first | (cases h; done) | exact ⟨_, _, rfl⟩
theorem op_pe (C : Ctx P X G W) {o : Op} {e : Expr} {xs : List Expr} {is : List IE} (ho : o ≠ .dict) (hc : opChk o is = true) (h : shp X.env.scope o e = some xs) (ha : AllPE X G W is xs) : PE X e (tE G W (ev (.op o is) false)) := by
  obtain ⟨h1, h2⟩ := chk_sl hc
  refine PE.imp (shp_ok C h1 h2 h ha) fun σ H Q hh => run_op (rd_ok o) ?_ is hh
  cases o <;> first | rfl | exact absurd rfl ho
theorem op_pt (C : Ctx P X G W) {o : Op} {e : Expr} {xs : List Expr} {is : List IE} (ho : o ≠ .dict) (hc : opChk o is = true) (h : shp X.env.scope o e = some xs) (ha : AllPE X G W is xs) : PT X e (tT G W (ev (.op o is) true)) := by
  have hE := op_pe C ho hc h ha
  have hg : opD o = opD' o := by cases o <;> first | rfl | exact absurd rfl ho
  by_cases hp : plainE e = true
  · exact tru_pt C.K hE hp fun _ _ _ h => h
  · cases e with
    | UnaryOp op x p => cases op <;> first | (exact absurd rfl hp) | (simp [shp] at h)
    | BoolOp => simp [shp] at h
    | IfExp => simp [shp] at h
    | Compare a ops bs pos =>
      match ops, bs, h with
      | [op], [b], h =>
        simp only [shp] at h
        unfold shCmp at h
        split at h
        · rename_i hb
          cases h
          obtain ⟨hb, hm⟩ := and2 hb
          have hb := of_decide_eq_true hb
          obtain ⟨r, e1, hr⟩ := cmp_ok C hb
          obtain ⟨i, j, rfl, h1, h2, _, _⟩ := ha.two
          refine cmp_pt hr h1 h2 (notF hm) (fun σ H Q hh => ?_) (hev_cmp (.inl (by rw [hb]; rfl)))
          have := run_op (rd_ok o) hg _ hh
          rw [e1] at this
          exact this
        · split at h
          · split at h
            · rename_i hc
              cases h
              obtain ⟨rfl, rfl⟩ := hc
              obtain ⟨i, rfl, h1, _⟩ := ha.one
              refine cmp_pt op_isN h1 pe_non (nomark _) (fun σ H Q hh => ?_) (hev_cmp (.inr (.inl rfl)))
              have := run_op (rd_ok .isN) hg _ hh
              exact tO_mono (show tO G W i σ H fun x H1 => Q (.bl (decide (x = .non))) H1 from this) fun v H1 q => ⟨rfl, q⟩
            · split at h
              · rename_i hc
                cases h
                obtain ⟨rfl, rfl⟩ := hc
                obtain ⟨i, rfl, h1, _⟩ := ha.one
                refine cmp_pt op_notN h1 pe_non (nomark _) (fun σ H Q hh => ?_) (hev_cmp (.inr (.inr rfl)))
                have := run_op (rd_ok .notN) hg _ hh
                exact tO_mono (show tO G W i σ H fun x H1 => Q (.bl (!decide (x = .non))) H1 from this) fun v H1 q => ⟨rfl, q⟩
              · cases h
          · cases h
      | [], _, h => simp [shp] at h
      | _ :: _ :: _, _, h => simp [shp] at h
      | [_], [], h => simp [shp] at h
      | [_], _ :: _ :: _, h => simp [shp] at h
    | _ => exact absurd rfl hp
end
end DL
namespace DL
open PySem PySem.Spec PyProof.Rows L2
theorem lcX_ok {e : Expr} {x t iter : Expr} {ys : List Expr} {scope : Scope} (h : lcX e = some (x, t, iter, ys, scope)) : ∃ pos, e = .ListComp x [⟨t, iter, ys, 0⟩] scope pos := by
  unfold lcX at h
  split at h
  · cases h; exact ⟨_, rfl⟩
  · cases h
theorem folded_no {e : Expr} {env : Env} (h : isSet e = false) : ∀ x, foldedSetIterable e env x = pure x := by
  intro x
  cases e <;> first | rfl | (simp [isSet] at h)
theorem tO_var {G : Gx} {W : WX} {X : Cx} {x : Expr} {i : Nat} (h : PE X x (tVar i)) : PE X x (tO G W (.bor i)) ∧ PE X x (tO G W (.loan i)) := ⟨h, h⟩
theorem chk1_run {G : Gx} {W : WX} {X : Cx} {a : IE} {x : Expr} (h : PE X x (tE G W (ev a false))) : PE X x (tE G W (ev (.int1 a) false)) ∧ PE X x (tE G W (ev (.str1 a) false)) := by
  constructor
  · refine PE.imp h fun σ H Q h => ?_
    obtain ⟨fr, Γ, S, Qd, Xd, c, s, h, post, hx⟩ := h
    simp only [ev] at h
    refine ⟨fr, Γ, S, _, Xd, c, s, h, fun v S' H' Γ' d k c' s' q => ?_, hx⟩
    dsimp only at q
    cases d <;> first | exact q.elim | skip
    have r := s'.rep
    simp only [Rep] at r
    exact post v S' H' Γ' _ 0 c' (s'.tail.add0 (by simp only [Rep]; exact r) (.inl rfl)) q
  · refine PE.imp h fun σ H Q h => ?_
    obtain ⟨fr, Γ, S, Qd, Xd, c, s, h, post, hx⟩ := h
    simp only [ev] at h
    refine ⟨fr, Γ, S, _, Xd, c, s, h, fun v S' H' Γ' d k c' s' q => ?_, hx⟩
    dsimp only at q
    cases d <;> first | exact q.elim | skip
    have r := s'.rep
    simp only [Rep] at r
    exact post v S' H' Γ' _ 0 c' (s'.tail.add0 (by simp only [Rep]; exact r) (.inl rfl)) q
theorem ne_of_not_empty {α : Type} {l : List α} (h : (!l.isEmpty) = true) : l ≠ [] := by cases l <;> simp_all
section
variable {P : Par}
mutual
theorem mE_ok : ∀ (ir : IE) {X : Cx} {G : Gx} {W : WX} (C : Ctx P X G W) (e : Expr), mE P X.env.scope ir e = true → (∀ f ∈ callsE ir, CallOk X G f) → PE X e (tE G W (ev ir false)) ∧ PT X e (tT G W (ev ir true))
  | .var i mv, X, G, W, C, e, h, hf => by
    unfold mE at h
    split at h
    · rename_i x pos
      have p := nm_ok (pos := pos) C h
      have hE := PE.imp p fun σ H Q hh => var_ok (G := G) (W := W) i mv σ H Q hh
      refine ⟨hE, tru_pt C.K hE rfl fun Γ Q Xd q => ?_⟩
      simp only [ev] at q ⊢
      cases e1 : Γ.getD i none with
      | none => rw [e1] at q; exact q
      | some dk => rw [e1] at q; cases mv <;> exact q
    · cases h
  | .cst c, X, G, W, C, e, h, hf => by
    unfold mE at h
    split at h
    · rename_i k j pos
      have hE : PE X (.Constant k j pos) (tE G W (ev (.cst c) false)) := PE.imp (pe_cst h) fun σ H Q hh => cst_ok c _ (fun S => rep_cst S c (cstB_no h)) σ H Q hh
      exact ⟨hE, tru_pt C.K hE rfl fun _ _ _ q => q⟩
    · cases h
  | .glob x c, X, G, W, C, e, h, hf => by
    unfold mE at h
    split at h
    · rename_i y pos
      obtain ⟨h, h3⟩ := and2 h
      obtain ⟨h1, h2⟩ := and2 h
      obtain ⟨g1, g2, _⟩ := glB_ok h2
      obtain ⟨v, u, m1, m2, m3⟩ := C.gls _ _ (of_decide_eq_true h3)
      have hE : PE X (.Name y pos) (tE G W (ev (.glob x c) false)) := PE.imp (pe_glob g1 m1 m2 g2) fun σ H Q hh => cst_ok c v m3 σ H Q hh
      exact ⟨hE, tru_pt C.K hE rfl fun _ _ _ q => q⟩
    · cases h
  | .op o es, X, G, W, C, e, h, hf => by
    unfold mE at h
    split at h
    · rename_i ho
      subst ho
      split at h
      · rename_i ks vs pos
        split at h
        · rename_i xs hx
          obtain ⟨h1, h2⟩ := and2 h
          have ha := mL_ok es C _ h2 hf
          have hE := dict_ok (pos := pos) hx ha (of_decide_eq_true h1)
          exact ⟨hE, tru_pt C.K hE rfl fun _ _ _ q => q⟩
        · cases h
      · cases h
    · rename_i ho
      split at h
      · rename_i xs hx
        obtain ⟨h1, h2⟩ := and2 h
        have ha := mL_ok es C _ h2 hf
        exact ⟨op_pe C ho h1 hx ha, op_pt C ho h1 hx ha⟩
      · cases h
  | .int1 a, X, G, W, C, e, h, hf => by
    unfold mE at h
    obtain ⟨h1, h2⟩ := and2 h
    have hE := (chk1_run (mE_ok a C e h1 hf).1).1
    refine ⟨hE, tru_pt C.K hE h2 fun _ _ _ q => q⟩
  | .str1 a, X, G, W, C, e, h, hf => by
    unfold mE at h
    obtain ⟨h1, h2⟩ := and2 h
    have hE := (chk1_run (mE_ok a C e h1 hf).1).2
    refine ⟨hE, tru_pt C.K hE h2 fun _ _ _ q => q⟩
  | .lst es, X, G, W, C, e, h, hf => by
    unfold mE at h
    split at h
    · rename_i xs pos
      have ha := mL_ok es C _ h hf
      have hE := PE.imp (pe_lst (pos := pos) ha.pa) fun σ H Q hh => lst_ok (G := G) (W := W) es σ H Q hh
      exact ⟨hE, tru_pt C.K hE rfl fun _ _ _ q => q⟩
    · cases h
  | .and es, X, G, W, C, e, h, hf => by
    unfold mE at h
    split at h
    · obtain ⟨h1, h2⟩ := and2 h
      have hv := mV_ok es C _ h2 hf
      obtain ⟨r1, r2⟩ := and_ok C.K es _ (ne_of_not_empty h1) hv
      exact ⟨r1, r2.pt⟩
    · cases h
  | .or es, X, G, W, C, e, h, hf => by
    unfold mE at h
    split at h
    · obtain ⟨h1, h2⟩ := and2 h
      have hv := mV_ok es C _ h2 hf
      obtain ⟨r1, r2⟩ := or_ok C.K es _ (ne_of_not_empty h1) hv
      exact ⟨r1, r2.pt⟩
    · cases h
  | .not a, X, G, W, C, e, h, hf => by
    unfold mE at h
    split at h
    · obtain ⟨r1, r2⟩ := mE_ok a C _ h hf
      exact ⟨not_pe C.K r1, not_pt r2⟩
    · cases h
  | .ite c a b, X, G, W, C, e, h, hf => by
    unfold mE at h
    split at h
    · obtain ⟨h, h3⟩ := and2 h
      obtain ⟨h1, h2⟩ := and2 h
      refine ite_ok (mE_ok c C _ h1 fun f q => hf f (List.mem_append_left _ q)).2 (mE_ok a C _ h2 fun f q => hf f (List.mem_append_right _ (List.mem_append_left _ q))) (mE_ok b C _ h3 fun f q => hf f (List.mem_append_right _ (List.mem_append_right _ q)))
    · cases h
  | .chain o o' a b c, X, G, W, C, e, h, hf => by
    unfold mE at h
    split at h
    · obtain ⟨h, h5⟩ := and2 h
      obtain ⟨h, h4⟩ := and2 h
      obtain ⟨h, h3⟩ := and2 h
      obtain ⟨h1, h2⟩ := and2 h
      exact chain_ok (of_decide_eq_true h1) (of_decide_eq_true h2) (mE_ok a C _ h3 fun f q => hf f (List.mem_append_left _ q)).1 (mE_ok b C _ h4 fun f q => hf f (List.mem_append_right _ (List.mem_append_left _ q))).1 (mE_ok c C _ h5 fun f q => hf f (List.mem_append_right _ (List.mem_append_right _ q))).1
    · cases h
  | .call f es, X, G, W, C, e, h, hf => by
    unfold mE at h
    split at h
    · rename_i x p xs pos
      obtain ⟨h, h4⟩ := and2 h
      obtain ⟨h, h3⟩ := and2 h
      obtain ⟨h1, h2⟩ := and2 h
      have ha := mL_ok es C _ h4 fun g q => hf g (List.mem_cons_of_mem _ q)
      have hE := pe_callG (pos := pos) (p := p) C (hf f (List.mem_cons_self)) (of_decide_eq_true h1) h2 ha (ne_of_not_empty h3)
      exact ⟨hE, tru_pt C.K hE rfl fun _ _ _ q => q⟩
    · cases h
  | .comp own tg it es ifs elt, X, G, W, C, e, h, hf => by
    unfold mE at h
    split at h
    · rename_i x t iter ys scope hx
      obtain ⟨pos, rfl⟩ := lcX_ok hx
      obtain ⟨h, h8⟩ := and2 h
      obtain ⟨h, h7⟩ := and2 h
      obtain ⟨h, h6⟩ := and2 h
      obtain ⟨h, h5⟩ := and2 h
      obtain ⟨h, h4⟩ := and2 h
      obtain ⟨h, h3⟩ := and2 h
      obtain ⟨h1, h2⟩ := and2 h
      have f1 : ∀ f ∈ callsL es, CallOk X G f := fun f q => hf f (List.mem_append_left _ q)
      have f2 : ∀ f ∈ callsL ifs, CallOk X G f := fun f q => hf f (List.mem_append_right _ (List.mem_append_left _ q))
      have f3 : ∀ f ∈ callsE elt, CallOk X G f := fun f q => hf f (List.mem_append_right _ (List.mem_append_right _ q))
      cases e1 : itX it X.env.scope iter with
      | none => rw [e1] at h6; cases h6
      | some xs =>
        rw [e1] at h6
        have ha := mL_ok es C _ h6 f1
        have hI := pi_ok C (tg := t) e1 ha
        have hB : BlkOk X.N X.env.scope scope (ownP P.N own) := by rw [C.N]; exact blkB_ok h1
        have hE : PE X (.ListComp x [⟨t, iter, ys, 0⟩] scope pos) (tE G W (ev (.comp own tg it es ifs elt) false)) := by
          refine PE.imp (pe_lc (g := gTg G.K tg) (tt := tI G ifs) (te := tE G WF (ev elt false)) C.calm C.nd hI hB ?_ ?_ ?_ (folded_no (notF h4))) fun σ H Q hh => ?_
          · intro s H D cl fp
            rw [C.K]
            exact tg_ok (X := X.blk s H scope (compEnvC scope cl D X.env) fp) C.calm C.nd (stBlk_ok C s H scope cl D fp) tg t h3
          · intro s H D cl fp
            have C' := C.blk s H scope cl D fp
            have hv := mV_ok ifs C' ys (by exact h7) (fun f q => (f2 f q).blk s H scope cl D fp)
            refine pts_ok ?_
            match ifs, ys, hv, h5 with
            | [], [], _, _ => exact True.intro
            | [i], [y], hv, _ => exact hv.1.2
            | [], _ :: _, hv, _ => exact hv.elim
            | _ :: _, [], hv, _ => exact hv.elim
            | _, _ :: _ :: _, _, h5 => simp at h5
            | _ :: _ :: _, [_], hv, _ => exact hv.2.elim
          · intro s H D cl fp
            have C' := C.blk s H scope cl D fp
            exact (mE_ok elt C' x (by exact h8) (fun f q => (f3 f q).blk s H scope cl D fp)).1
          · rw [ownP_snd]
            exact comp_rd (fun i hi => by simpa using List.all_eq_true.mp h2 i hi) σ H Q hh
        exact ⟨hE, tru_pt C.K hE rfl fun _ _ _ q => q⟩
    · cases h
  | .bor _, X, G, W, C, e, h, hf => by unfold mE at h; cases h
  | .loan _, X, G, W, C, e, h, hf => by unfold mE at h; cases h
theorem mL_ok : ∀ (es : List IE) {X : Cx} {G : Gx} {W : WX} (C : Ctx P X G W) (xs : List Expr), mL P X.env.scope es xs = true → (∀ f ∈ callsL es, CallOk X G f) → AllPE X G W es xs
  | [], X, G, W, C, xs, h, hf => by
    unfold mL at h
    cases xs with
    | nil => exact True.intro
    | cons _ _ => cases h
  | e :: es, X, G, W, C, xs, h, hf => by
    cases xs with
    | nil => unfold mL at h; cases h
    | cons x xs =>
      unfold mL at h
      obtain ⟨h, h3⟩ := and2 h
      obtain ⟨h1, h2⟩ := and2 h
      have hr := mL_ok es C xs h3 fun f q => hf f (List.mem_append_right _ q)
      refine ⟨?_, notF h1, hr⟩
      split at h2
      · split at h2
        · exact (tO_var (nm_ok C h2)).1
        · cases h2
      · split at h2
        · exact (tO_var (nm_ok C h2)).2
        · cases h2
      · rename_i n1 n2
        have := (mE_ok e C x h2 fun f q => hf f (List.mem_append_left _ q)).1
        cases e <;> first | exact this | (exact absurd rfl (n1 _)) | (exact absurd rfl (n2 _))
theorem mV_ok : ∀ (es : List IE) {X : Cx} {G : Gx} {W : WX} (C : Ctx P X G W) (xs : List Expr), mV P X.env.scope es xs = true → (∀ f ∈ callsL es, CallOk X G f) → AllV X G W es xs
  | [], X, G, W, C, xs, h, hf => by
    unfold mV at h
    cases xs with
    | nil => exact True.intro
    | cons _ _ => cases h
  | e :: es, X, G, W, C, xs, h, hf => by
    cases xs with
    | nil => unfold mV at h; cases h
    | cons x xs =>
      unfold mV at h
      obtain ⟨h1, h2⟩ := and2 h
      exact ⟨mE_ok e C x h1 fun f q => hf f (List.mem_append_left _ q), mV_ok es C xs h2 fun f q => hf f (List.mem_append_right _ q)⟩
end
end
end DL
namespace DL
open PySem PySem.Spec PyProof.Rows L2
/-! ### a slot out and in -/
theorem slot_out {G : Gx} {S H : Hp} {fr : List Ent} {Γ : Gm} {σ : St} {i : Nat} {d : D} {k : Nat} (c : Cov Γ σ) (s : Sim G S H (fr ++ slots Γ σ)) (h : Γ.getD i none = some (d, k)) : ∃ v, σ[i]? = some (some v) ∧ Sim G S H ((v, d, k) :: (fr ++ slots (Γ.set i none) σ)) := by
  obtain ⟨v, hv, p⟩ := slots_get c (getD_some h)
  exact ⟨v, hv, (s.perm (List.Perm.append_left fr p)).perm List.perm_middle⟩
theorem slot_in {G : Gx} {S H : Hp} {fr : List Ent} {Γ : Gm} {σ : St} {i : Nat} {v : V} {d : D} {k : Nat} (c : Cov Γ σ) (hv : σ[i]? = some (some v)) (s : Sim G S H ((v, d, k) :: (fr ++ slots (Γ.set i none) σ))) : Cov (Γ.set i (some (d, k))) σ ∧ Sim G S H (fr ++ slots (Γ.set i (some (d, k))) σ) :=
  ⟨Cov.put i _ hv c, (s.perm List.perm_middle.symm).perm (List.Perm.append_left fr (slots_put d k c hv).symm)⟩
/-- slots that may change -/
def Kp (nk : List Nat) (σ σ' : St) : Prop := σ'.length = σ.length ∧ ∀ i, i ∉ nk → σ'[i]? = σ[i]?
theorem Kp.refl (nk : List Nat) (σ : St) : Kp nk σ σ := ⟨rfl, fun _ _ => rfl⟩
theorem Kp.trans {nk : List Nat} {a b c : St} (h : Kp nk a b) (h2 : Kp nk b c) : Kp nk a c := ⟨h2.1.trans h.1, fun i hi => (h2.2 i hi).trans (h.2 i hi)⟩
theorem Kp.set {nk : List Nat} {σ : St} {i : Nat} (v : Option V) (h : i ∈ nk) : Kp nk σ (σ.set i v) := ⟨by simp, fun j hj => by
  rw [List.getElem?_set]
  by_cases z : i = j
  · subst z; exact absurd h hj
  · rw [if_neg z]⟩
theorem Kp.same {nk own : List Nat} {σ σ' : St} (h : Same own σ σ') (hl : σ'.length = σ.length) (ho : ∀ i ∈ own, i ∈ nk) : Kp nk σ σ' := ⟨hl, fun i hi => by
  have hn : i ∉ own := fun z => hi (ho i z)
  have e : (wipe σ' own)[i]? = (wipe σ own)[i]? := by rw [show wipe σ' own = wipe σ own from h]
  rw [wipe_get, wipe_get] at e
  have hc : own.contains i = false := by simpa using hn
  simp only [hc, Bool.false_eq_true, if_false, Option.map_id'] at e
  exact e⟩
structure Post (G : Gx) (W : WX) (nk : List Nat) (fr : List Ent) (σ : St) (K : DE) (D : Ends) : Prop where
  nx : ∀ σ' S' H' Γ', Cov Γ' σ' → Sim G S' H' (fr ++ slots Γ' σ') → Kp nk σ σ' → K.nx Γ' → D.nx σ' H'
  rt : ∀ v σ' S' H' Γ' d k, Cov Γ' σ' → Sim G S' H' ((v, d, k) :: (fr ++ slots Γ' σ')) → Kp nk σ σ' → K.rt (d, k) Γ' → D.rt v H'
  bk : ∀ σ' S' H' Γ', Cov Γ' σ' → Sim G S' H' (fr ++ slots Γ' σ') → Kp nk σ σ' → K.bk Γ' → D.bk σ' H'
  ct : ∀ σ' S' H' Γ', Cov Γ' σ' → Sim G S' H' (fr ++ slots Γ' σ') → Kp nk σ σ' → K.ct Γ' → D.ct σ' H'
  ex : ∀ x cls dx σ' S' H' Γ', Cov Γ' σ' → Sim G S' H' (fr ++ slots Γ' σ') → Kp nk σ σ' → ExcR G S' H' x cls dx → K.ex x Γ' → W cls dx σ' H'
def tS (G : Gx) (W : WX) (nk : List Nat) (f : Gm → DE → Prop) : TS := fun D σ H => ∃ (fr : List Ent) (Γ : Gm) (S : Hp) (K : DE), Cov Γ σ ∧ Sim G S H (fr ++ slots Γ σ) ∧ f Γ K ∧ Post G W nk fr σ K D
section
variable {P : Par} {X : Cx} {G : Gx} {W : WX} {nk : List Nat}
theorem Post.at {fr : List Ent} {σ σ' : St} {K : DE} {D : Ends} (p : Post G W nk fr σ K D) (k : Kp nk σ σ') : Post G W nk fr σ' K D :=
  ⟨fun a b c d e f g h => p.nx a b c d e f (k.trans g) h, fun a b c d e f g h i j l => p.rt a b c d e f g h i (k.trans j) l, fun a b c d e f g h => p.bk a b c d e f (k.trans g) h, fun a b c d e f g h => p.ct a b c d e f (k.trans g) h,
    fun a b c d e f g h i j l m => p.ex a b c d e f g h i (k.trans j) l m⟩
theorem Post.xw {fr : List Ent} {σ : St} {K : DE} {D : Ends} (p : Post G W nk fr σ K D) : XW G W fr σ K.ex := fun x cls dx S' H' Γ' c s r q => p.ex x cls dx σ S' H' Γ' c s (.refl nk σ) r q
/-- one behind another -/
theorem Post.seq {fr : List Ent} {σ : St} {K : DE} {D : Ends} {f : Gm → DE → Prop} (p : Post G W nk fr σ K D) : Post G W nk fr σ { K with nx := fun Γ' => f Γ' K } { D with nx := tS G W nk f D } :=
  ⟨fun σ' S' H' Γ' c s k q => ⟨fr, Γ', S', K, c, s, q, p.at k⟩, p.rt, p.bk, p.ct, p.ex⟩
structure CtxS (P : Par) (X : Cx) (G : Gx) (W : WX) : Prop where
  c : Ctx P X G W
  pass : PassesOwn (model X.prog X.w) X.A X.env X.xe
  fn : ∀ x, X.fn x = true
  kind : X.env.scope.kind = .function
theorem st_ok (C : CtxS P X G W) {i : Nat} {x : Str} (h : stB P X.env.scope i x = true) : X.N[i]? = some x ∧ Loc X.env.scope x ∧ (X.fn x = true ∨ X.env.scope.names.lookup x = some .local) := by
  obtain ⟨h1, h2⟩ := and2 h
  refine ⟨by rw [C.c.N]; exact of_decide_eq_true h1, ?_, .inl (C.fn x)⟩
  unfold locB at h2
  split at h2
  · rename_i e; exact .inl e
  · rename_i e; exact .inr e
  · cases h2
/-! ### name = e -/
def lcB : Expr → Bool
  | .ListComp .. => true
  | .SetComp .. => true
  | .DictComp .. => true
  | _ => false
theorem swaps_no {e : Expr} {t : Option Expr} {l : Nat} {env : Env} (h : lcB e = false) : swapsWith e t l env = pure false := by
  cases e <;> first | (simp [lcB] at h; done) | (cases t <;> rfl)
theorem asg_rd {i : Nat} {e : IE} (hi : i ∈ nk) (D : Ends) (σ : St) (H : Hp) (h : tS G W nk (xs (.asg i e)) D σ H) : tAsg (tE G W (ev e false)) (gName i) D σ H := by
  obtain ⟨fr, Γ, S, K, c, s, h, p⟩ := h
  simp only [xs] at h
  refine ⟨fr, Γ, S, _, K.ex, c, s, h, fun v S' H' Γ' d k c' s' q => ?_, p.xw⟩
  obtain ⟨c2, s2⟩ := sim_set i c' s'
  exact p.nx _ S' H' _ c2 s2 (.set _ hi) q
/-- where a comprehension is stored at once -/
def swC (sc : Scope) (x : Str) (p : Pos) (e : Expr) : Bool := match e with
  | .ListComp _ _ s q => decide (sc.names.lookup x = some .local) && (p.line == q.line) && !(s.names.any fun (n, k) => n == x && (k == .local || k == .cell))
  | _ => false
theorem swC_ok (hk : X.env.scope.kind = .function) {x : Str} {p : Pos} {l : Nat} {e : Expr} : swapsWith e (some (.Name x p)) l X.env = pure (swC X.env.scope x p e) ∨ (∃ a b c d, e = .SetComp a b c d) ∨ ∃ a b c d f, e = .DictComp a b c d f := by
  cases e with
  | ListComp elt gs s q =>
    refine .inl ?_
    unfold swapsWith swC
    have e1 : X.env.blockKind = .function := by unfold Env.blockKind; rw [hk]; rfl
    show (pure _ : Sem Bool) = pure _
    congr 1
    rw [e1]
    have e2 : (X.env.kindOf x == some NameKind.local) = decide (X.env.scope.names.lookup x = some .local) := by
      show (X.env.scope.names.lookup x == some NameKind.local) = _
      cases h : X.env.scope.names.lookup x with
      | none => rfl
      | some k => cases k <;> rfl
    rw [e2]
    rfl
  | SetComp a b c d => exact .inr (.inl ⟨_, _, _, _, rfl⟩)
  | DictComp a b c d f => exact .inr (.inr ⟨_, _, _, _, _, rfl⟩)
  | _ => exact .inl rfl
def isComp : IE → Bool
  | .comp .. => true
  | _ => false
def sdB : Expr → Bool
  | .SetComp .. => true
  | .DictComp .. => true
  | _ => false
theorem ps_asgN (C : CtxS P X G W) {i : Nat} {ir : IE} {x : Str} {p pos : Pos} {e : Expr} (hst : stB P X.env.scope i x = true) (hi : i ∈ nk) (hsd : sdB e = false) (hcp : swC X.env.scope x p e = true → isComp ir = true) (h : mE P X.env.scope ir e = true) (hf : ∀ f ∈ callsE ir, CallOk X G f) :
    PS X (.Assign [.Name x p] e pos) (tS G W nk (xs (.asg i ir))) := by
  obtain ⟨h1, h2, h3⟩ := st_ok C hst
  have hE := (mE_ok ir C.c e h hf).1
  have plain : swapsWith e (some (.Name x p)) pos.line X.env = pure false → PS X (.Assign [.Name x p] e pos) (tS G W nk (xs (.asg i ir))) := fun hs =>
    PS.imp (ps_set C.c.nd h1 h2 hE hs h3) fun D σ H hh => asg_rd hi D σ H hh
  rcases swC_ok C.kind (x := x) (p := p) (l := pos.line) (e := e) with hw | ⟨a, b, c, d, rfl⟩ | ⟨a, b, c, d, f, rfl⟩
  · by_cases hb : swC X.env.scope x p e = true
    · rw [hb] at hw
      -- a comprehension
      cases e <;> first | (simp [swC] at hb; done) | skip
      rename_i elt gs scope q
      cases ir with
      | comp own tg it es ifs el =>
        unfold mE at h
        split at h
        · rename_i x' t iter ys scope' hx
          obtain ⟨pos', he⟩ := lcX_ok hx
          cases he
          have C := C.c
          obtain ⟨h, h8⟩ := and2 h
          obtain ⟨h, h7⟩ := and2 h
          obtain ⟨h, h6⟩ := and2 h
          obtain ⟨h, h5⟩ := and2 h
          obtain ⟨h, h4⟩ := and2 h
          obtain ⟨h, g3⟩ := and2 h
          obtain ⟨g1, g2⟩ := and2 h
          have f1 : ∀ f ∈ callsL es, CallOk X G f := fun f q => hf f (List.mem_append_left _ q)
          have f2 : ∀ f ∈ callsL ifs, CallOk X G f := fun f q => hf f (List.mem_append_right _ (List.mem_append_left _ q))
          have f3 : ∀ f ∈ callsE el, CallOk X G f := fun f q => hf f (List.mem_append_right _ (List.mem_append_right _ q))
          cases e1 : itX it X.env.scope iter with
          | none => rw [e1] at h6; cases h6
          | some zs =>
            rw [e1] at h6
            have ha := mL_ok es C _ h6 f1
            have hI := pi_ok C (tg := t) e1 ha
            have hB : BlkOk X.N X.env.scope scope (ownP P.N own) := by rw [C.N]; exact blkB_ok g1
            have hyl : X.env.scope.names.lookup x = some .local := by
              unfold swC at hb
              obtain ⟨hb, _⟩ := and2 hb
              obtain ⟨hb, _⟩ := and2 hb
              exact of_decide_eq_true hb
            refine PS.imp (ps_setLc (g := gTg G.K tg) (tt := tI G ifs) (te := tE G WF (ev el false)) C.calm C.nd h1 hyl hw hI hB ?_ ?_ ?_ (folded_no (notF h4))) fun D σ H hh => ?_
            · intro s H D cl fp
              rw [C.K]
              exact tg_ok (X := X.blk s H scope (compEnvC scope cl D X.env) fp) C.calm C.nd (stBlk_ok C s H scope cl D fp) tg t g3
            · intro s H D cl fp
              have C' := C.blk s H scope cl D fp
              have hv := mV_ok ifs C' ys (by exact h7) (fun f q => (f2 f q).blk s H scope cl D fp)
              refine pts_ok ?_
              match ifs, ys, hv, h5 with
              | [], [], _, _ => exact True.intro
              | [i], [y], hv, _ => exact hv.1.2
              | [], _ :: _, hv, _ => exact hv.elim
              | _ :: _, [], hv, _ => exact hv.elim
              | _, _ :: _ :: _, _, h5 => simp at h5
              | _ :: _ :: _, [_], hv, _ => exact hv.2.elim
            · intro s H D cl fp
              have C' := C.blk s H scope cl D fp
              exact (mE_ok el C' _ (by exact h8) (fun f q => (f3 f q).blk s H scope cl D fp)).1
            · rw [ownP_snd]
              exact comp_rd (fun i hi => by simpa using List.all_eq_true.mp g2 i hi) σ H _ (asg_rd hi D σ H hh)
        · cases h
      | _ => exact absurd (hcp hb) (by simp [isComp])
    · rw [Bool.not_eq_true] at hb
      rw [hb] at hw
      exact plain hw
  · simp [sdB] at hsd
  · simp [sdB] at hsd
end
end DL
namespace DL
open PySem PySem.Spec PyProof.Rows L2
/-! ### a, b = x, y -/
def bkS (sc : Scope) : ScopeKind := if sc.kind.isAnnotationScope then .function else sc.kind
def nmIds (sc : Scope) (ts : List Expr) : List Str := ts.filterMap fun
  | .Name id pos => if (sc.names.lookup id == some .local && pos.line == (ts.head?.map (·.pos.line)).getD 0) = true then some id else none
  | _ => none
/-- what swappedStores tells; none: it stops -/
def swN (sc : Scope) (ts vs : List Expr) : Option (Option (List Str)) :=
  if (!(ts.length == 2 || ts.length == 3) || vs.length != ts.length || bkS sc != .function) = true then some none
  else if (vs.any fun | .Starred .. => true | _ => false) = true then some none
  else if ((nmIds sc ts).length != ts.length || (nmIds sc ts).eraseDups.length != (nmIds sc ts).length) = true then some none
  else if vs.all (foldedForSure 8) = true then some none
  else if vs.all (constantsAlone 8) = true then none
  else some (some (nmIds sc ts))
theorem sw_ok {ts vs : List Expr} {env : Env} {k k2 : Nat} {p p2 : Pos} {r : Option (List Str)} (h : swN env.scope ts vs = some r) : swappedStores [.Tuple ts k p] (.Tuple vs k2 p2) env = pure r := by
  unfold swN at h
  unfold swappedStores
  dsimp only
  show (if (!(ts.length == 2 || ts.length == 3) || vs.length != ts.length || bkS env.scope != .function) = true then (pure none : Sem (Option (List Str))) else if (vs.any fun | .Starred .. => true | _ => false) = true then pure none
    else if ((nmIds env.scope ts).length != ts.length || (nmIds env.scope ts).eraseDups.length != (nmIds env.scope ts).length) = true then pure none else if vs.all (foldedForSure 8) = true then pure none else if vs.all (constantsAlone 8) = true then _ else pure (some (nmIds env.scope ts))) = pure r
  split at h
  · rename_i h1
    cases h
    rw [if_pos h1]
  · rename_i h1
    rw [if_neg h1]
    split at h
    · rename_i h2
      cases h
      rw [if_pos h2]
    · rename_i h2
      rw [if_neg h2]
      split at h
      · rename_i h3
        cases h
        rw [if_pos h3]
      · rename_i h3
        rw [if_neg h3]
        split at h
        · rename_i h4
          cases h
          rw [if_pos h4]
        · rename_i h4
          rw [if_neg h4]
          split at h
          · cases h
          · rename_i h5
            cases h
            rw [if_neg h5]

theorem swaps_sole {e t : Expr} {l : Nat} {env : Env} (h : lcB e = false) : swapsWithSole [t] e l env = pure false := swaps_no h
def setAll : St → List Nat → List V → St
  | σ, t :: ts, v :: vs => setAll (σ.set t (some v)) ts vs
  | σ, _, _ => σ
theorem setAll_ok {G : Gx} {nk : List Nat} {σ0 : St} : ∀ {rs : List OR} {vs : List V} {T : List Ent}, OpdR σ0 rs vs T → ∀ {ts : List Nat} {Γ Γ2 : Gm} {σ : St} {S H : Hp} {fr : List Ent}, (∀ i ∈ ts, i ∈ nk) → asgAll ts rs Γ = some Γ2 → Cov Γ σ → Sim G S H (T ++ (fr ++ slots Γ σ)) →
    vs.length = ts.length ∧ Cov Γ2 (setAll σ ts vs) ∧ Sim G S H (fr ++ slots Γ2 (setAll σ ts vs)) ∧ Kp nk σ (setAll σ ts vs) := by
  intro rs vs T o
  induction o with
  | nil =>
    intro ts Γ Γ2 σ S H fr hk e c s
    cases ts with
    | nil => simp only [asgAll] at e; cases e; exact ⟨rfl, c, s, .refl nk σ⟩
    | cons _ _ => simp only [asgAll] at e; cases e
  | @v d k rs v vs T o ih =>
    intro ts Γ Γ2 σ S H fr hk e c s
    cases ts with
    | nil => simp only [asgAll] at e; cases e
    | cons t ts =>
      simp only [asgAll] at e
      have s1 : Sim G S H ((v, d, k) :: ((T ++ fr) ++ slots Γ σ)) := by rw [List.append_assoc]; exact s
      obtain ⟨c2, s2⟩ := sim_set t c s1
      rw [List.append_assoc] at s2
      obtain ⟨l, c3, s3, k3⟩ := ih (fun i hi => hk i (List.mem_cons_of_mem _ hi)) e c2 s2
      exact ⟨by simp [l], c3, s3, (Kp.set _ (hk t List.mem_cons_self)).trans k3⟩
  | b hv o ih =>
    intro ts Γ Γ2 σ S H fr hk e c s
    cases ts <;> (simp only [asgAll] at e; cases e)
  | l hv o ih =>
    intro ts Γ Γ2 σ S H fr hk e c s
    cases ts <;> (simp only [asgAll] at e; cases e)
def tMany (ts : List Nat) (ta : TA) : TS := fun D σ H => ta σ H fun vs H1 => vs.length = ts.length ∧ vs.length ≤ sizeLine ∧ D.nx (setAll σ ts vs) H1 ∧ ∀ p, H1 p = none → D.nx (setAll σ ts vs) (upd H1 p (.tup vs))
theorem gTgs_names {K : PySem.W.Frag} {Q : St → Hp → Prop} {H : Hp} : ∀ {ts : List Nat} {vs : List V} {σ : St}, vs.length = ts.length → Q (setAll σ ts vs) H → gTgs K (ts.map Tg.name) vs σ H Q
  | [], [], σ, _, q => ⟨rfl, q⟩
  | t :: ts, v :: vs, σ, l, q => ⟨v, vs, rfl, gTgs_names (ts := ts) (by simpa using l) q⟩
  | [], _ :: _, _, l, _ => by simp at l
  | _ :: _, [], _, l, _ => by simp at l
section
variable {P : Par} {X : Cx} {G : Gx} {W : WX} {nk : List Nat}
theorem asgs_rd {ts : List Nat} {es : List IE} (hk : ∀ i ∈ ts, i ∈ nk) (hz : ts.length ≤ 1000) (D : Ends) (σ : St) (H : Hp) (h : tS G W nk (xs (.asgs ts es)) D σ H) : tMany ts (tL G W es) D σ H := by
  obtain ⟨fr, Γ, S, K, c, s, h, p⟩ := h
  simp only [xs] at h
  refine run_L es σ H _ fr Γ S _ K.ex c s h (fun vs S' H' Γ' rs T c' s' o q => ?_) p.xw
  cases e : asgAll ts rs Γ' with
  | none => rw [e] at q; exact q.elim
  | some Γ2 =>
    rw [e] at q
    obtain ⟨l, c2, s2, k2⟩ := setAll_ok o hk e c' s'
    refine ⟨l, by rw [l, line_lim]; unfold lim; omega, p.nx _ S' H' _ c2 s2 k2 q, fun a ha => ?_⟩
    exact p.nx _ S' _ _ c2 (s2.grow (Grow.own s2.sub ha)) k2 q
/-- the names of a written tuple -/
def nmsX : List Expr → List Str
  | [] => []
  | .Name x _ :: r => x :: nmsX r
  | _ :: r => nmsX r
theorem lc_tup {es : List Expr} {k : Nat} {p : Pos} : lcB (.Tuple es k p) = false := rfl
theorem ps_many0 (C : CtxS P X G W) {ts : List Nat} {es : List IE} {ns vs : List Expr} {k k2 : Nat} {p p2 pos : Pos} (ht : tgsB (stB P X.env.scope) (ts.map Tg.name) ns = true) (ha : AllPE X G W es vs) (hk : ∀ i ∈ ts, i ∈ nk) (hz : ts.length ≤ 1000)
    (hs : swN X.env.scope ns vs = some none) : PS X (.Assign [.Tuple ns k p] (.Tuple vs k2 p2) pos) (tS G W nk (xs (.asgs ts es))) := by
  have hst : StOk X (stB P X.env.scope) := fun i x h => st_ok C h
  have pg := tg_ok (X := X) (st := stB P X.env.scope) C.c.calm C.c.nd hst (.tup (ts.map Tg.name)) (.Tuple ns k p) (by simp only [tgB]; exact ht)
  refine PS.imp (ps_asg (pe_tup (x1 := k2) (pos := p2) ha.pa) pg (swaps_sole rfl) (sw_ok hs)) fun D σ H h => ?_
  have h2 := asgs_rd hk hz D σ H h
  have mono : ∀ (is : List IE) (σ : St) (H : Hp) (Q Q' : List V → Hp → Prop), (∀ vs H, Q vs H → Q' vs H) → tL G W is σ H Q → tL G W is σ H Q' := by
    intro is
    induction is with
    | nil => intro σ H Q Q' m h; exact m _ _ h
    | cons i is ih => intro σ H Q Q' m h; exact tO_mono h fun v H1 h => ih σ H1 _ _ (fun vs H2 q => m (v :: vs) H2 q) h
  refine mono es σ H _ _ (fun vs H1 q => ?_) h2
  obtain ⟨l, hl, q1, q2⟩ := q
  refine ⟨hl, fun a ha => ?_⟩
  exact ⟨a, vs, rfl, .inl (.inl upd_same), by simpa using l, gTgs_names l (q2 a ha)⟩
theorem tL_mono : ∀ (is : List IE) {σ : St} {H : Hp} {Q Q' : List V → Hp → Prop}, tL G W is σ H Q → (∀ vs H, Q vs H → Q' vs H) → tL G W is σ H Q'
  | [], σ, H, Q, Q', h, m => m _ _ h
  | i :: is, σ, H, Q, Q', h, m => tO_mono h fun v H1 h => tL_mono is h (fun vs H2 q => m (v :: vs) H2 q)
theorem ps_many2 (C : CtxS P X G W) {i j : Nat} {es : List IE} {x y : Str} {a b : Expr} {k k2 : Nat} {px py p p2 pos : Pos} (h1 : stB P X.env.scope i x = true) (h2 : stB P X.env.scope j y = true) (hij : i ≠ j) (ha : AllPE X G W es [a, b]) (hk : ∀ l ∈ [i, j], l ∈ nk)
    (lx : X.env.scope.names.lookup x = some .local) (ly : X.env.scope.names.lookup y = some .local) (hs : swN X.env.scope [.Name x px, .Name y py] [a, b] = some (some [x, y])) : PS X (.Assign [.Tuple [.Name x px, .Name y py] k p] (.Tuple [a, b] k2 p2) pos) (tS G W nk (xs (.asgs [i, j] es))) := by
  refine PS.imp (ps_par (kt := k) (k2 := k2) (pt := p) (pt2 := p2) C.c.calm C.c.nd (st_ok C h1).1 (st_ok C h2).1 hij lx ly ha.pa (sw_ok hs) (swaps_sole rfl)) fun D σ H h => ?_
  refine tL_mono es (asgs_rd hk (by simp) D σ H h) fun vs H1 q => ?_
  obtain ⟨l, _, q, _⟩ := q
  match vs, l, q with
  | [v, w], _, q => exact ⟨v, w, rfl, q⟩
theorem ps_many3 (C : CtxS P X G W) {i j l : Nat} {es : List IE} {x y z : Str} {a b c : Expr} {k k2 : Nat} {px py pz p p2 pos : Pos} (h1 : stB P X.env.scope i x = true) (h2 : stB P X.env.scope j y = true) (h3 : stB P X.env.scope l z = true) (hij : i ≠ j) (hil : i ≠ l) (hjl : j ≠ l) (ha : AllPE X G W es [a, b, c]) (hk : ∀ m ∈ [i, j, l], m ∈ nk)
    (lx : X.env.scope.names.lookup x = some .local) (ly : X.env.scope.names.lookup y = some .local) (lz : X.env.scope.names.lookup z = some .local) (hs : swN X.env.scope [.Name x px, .Name y py, .Name z pz] [a, b, c] = some (some [x, y, z])) : PS X (.Assign [.Tuple [.Name x px, .Name y py, .Name z pz] k p] (.Tuple [a, b, c] k2 p2) pos) (tS G W nk (xs (.asgs [i, j, l] es))) := by
  refine PS.imp (ps_par3 (kt := k) (k2 := k2) (pt := p) (pt2 := p2) C.c.calm C.c.nd (st_ok C h1).1 (st_ok C h2).1 (st_ok C h3).1 hij hil hjl lx ly lz ha.pa (sw_ok hs) (swaps_sole rfl)) fun D σ H h => ?_
  refine tL_mono es (asgs_rd hk (by simp) D σ H h) fun vs H1 q => ?_
  obtain ⟨l, _, q, _⟩ := q
  match vs, l, q with
  | [u, v, w], _, q => exact ⟨u, v, w, rfl, q⟩
theorem setD_inv {x : DK} {n : D} {r y : DK} (h : setD x n r = some y) : ∃ ds k i m, x = (.lst ds, k + 1) ∧ n = .int i ∧ ixN ds.length i = some m ∧ y = (.lst (ds.set m r.1), 1) := by
  obtain ⟨d, k⟩ := x
  obtain ⟨e, j⟩ := r
  cases d <;> first | (simp [setD] at h; done) | skip
  cases k <;> first | (simp [setD] at h; done) | skip
  cases n <;> first | (simp [setD] at h; done) | skip
  rename_i ds k i
  simp only [setD] at h
  cases e3 : ixN ds.length i with
  | none => rw [e3] at h; cases h
  | some m => rw [e3] at h; cases h; exact ⟨ds, k, i, m, rfl, rfl, e3, rfl⟩
theorem repL_set {S : Hp} {d : D} {v : V} (rd : Rep G S d v) : ∀ {ds : List D} {vs : List V} (m : Nat), RepL G S ds vs → RepL G S (ds.set m d) (vs.set m v)
  | [], vs, m, rv => by simp only [RepL] at rv; subst rv; simpa using RepL.nil
  | d0 :: ds, vs, m, rv => by
    simp only [RepL] at rv
    obtain ⟨v0, t, rfl, r0, rt⟩ := rv
    cases m with
    | zero => simp only [List.set_cons_zero]; exact RepL.cons rd rt
    | succ m => simp only [List.set_cons_succ]; exact RepL.cons r0 (repL_set rd m rt)
theorem lst_there {Γ : Gm} {σ : St} {i : Nat} (c : Cov Γ σ) (h : isLst (Γ.getD i none) = true) : ∃ w, σ[i]? = some (some w) := by
  cases e : Γ.getD i none with
  | none => rw [e] at h; cases h
  | some dk => obtain ⟨d, k⟩ := dk; exact c.at e
theorem ps_asgT (C : CtxS P X G W) {tg : Tg} {ir : IE} {t e : Expr} {pos : Pos} (ht : tgB (stB P X.env.scope) tg t = true) (htt : (match t with | .Tuple .. => true | _ => false) = true) (hk : ∀ i ∈ tgIx tg, i ∈ nk) (hE : PE X e (tE G W (ev ir false))) (hne : (match e with | .Tuple .. => false | _ => true) = true) (hlc : lcB e = false) :
    PS X (.Assign [t] e pos) (tS G W nk (xs (.asgT tg ir))) := by
  have hst : StOk X (stB P X.env.scope) := fun i x h => st_ok C h
  have pg := tg_ok (X := X) (st := stB P X.env.scope) C.c.calm C.c.nd hst tg t ht
  cases t <;> first | (cases htt; done) | skip
  rename_i ns k p
  refine PS.imp (ps_asg hE pg (swaps_sole hlc) ?_) fun D σ H h => ?_
  · cases e <;> first | rfl | (cases hne; done)
  · obtain ⟨fr, Γ, S, K, c, s, h, pt⟩ := h
    simp only [xs] at h
    refine ⟨fr, Γ, S, _, K.ex, c, s, h, fun v S' H' Γ' d k c' s' q => ?_, pt.xw⟩
    cases e1 : setTg tg (d, 0) Γ' with
    | none => rw [e1] at q; exact q.elim
    | some Γ2 =>
      rw [e1] at q
      obtain ⟨S1, h1, s1, r1⟩ := s'.zero
      rw [← C.c.K]
      exact set_ok (tgIx tg) tg d v Γ' Γ2 σ S1 H' fr _ (fun i hi => hi) c' s1.tail r1 e1 fun σ' c2 s2 sm l => pt.nx σ' S1 H' Γ2 c2 s2 (Kp.same sm l hk) q
/-! ### stores in lists -/
theorem subassign {o i : Expr} {pos : Pos} {env : Env} (h : isSl i = false) : ∀ v, assign (.Subscript o i pos) env v = (do
      let ov ← holding [v] (eval o env)
      let iv ← holding [v, ov] (eval i env)
      standAt pos
      holding [v, ov, iv] (setItem ov iv v)
      release [v, ov, iv] []) := by
  intro v
  cases i <;> first | rfl | (simp [isSl] at h)
theorem ps_setI (C : CtxS P X G W) {i : Nat} {ix ir : IE} {x : Str} {px ps pos : Pos} {ie e : Expr} (hn : nmB P X.env.scope i x = true) (hI : PE X ie (tE G W (ev ix false))) (hE : PE X e (tE G W (ev ir false))) (hs : isSl ie = false) (hlc : lcB e = false) :
    PS X (.Assign [.Subscript (.Name x px) ie ps] e pos) (tS G W nk (xs (.setI i ix ir))) := by
  refine PS.imp (ps_asg hE (pg_sub (nm_ok (pos := px) C.c hn) hI set_list (subassign hs)) (swaps_sole hlc) (by rfl)) fun D σ H h => ?_
  obtain ⟨fr, Γ, S, K, c, s, h, p⟩ := h
  simp only [xs] at h
  refine ⟨fr, Γ, S, _, K.ex, c, s, h, fun v S1 H1 Γ1 d1 k1 c1 s1 q1 => ?_, p.xw⟩
  obtain ⟨q0, q1⟩ := q1
  have key : ∀ w, σ[i]? = some (some w) → tE G W (ev ix false) σ H1 fun iv H2 => rSetL w iv v H2 fun H3 => D.nx σ H3 := by
    intro w hw
    refine ⟨(v, d1, k1) :: fr, Γ1, S1, _, K.ex, c1, s1, q1, fun iv S2 H2 Γ2 d2 k2 c2 s2 q2 => ?_, (p.xw).tail _⟩
    cases e1 : Γ2.getD i none with
    | none => rw [e1] at q2; exact q2.elim
    | some dk =>
      obtain ⟨d, k⟩ := dk
      rw [e1] at q2
      dsimp only at q2
      cases e2 : setD (d, k) d2 (d1, k1) with
      | none => rw [e2] at q2; exact q2.elim
      | some y =>
        rw [e2] at q2
        obtain ⟨ds, k', n, m, ea, rfl, e3, rfl⟩ := setD_inv e2
        cases ea
        have ri := s2.rep
        simp only [Rep] at ri
        subst ri
        obtain ⟨w', hw', s3⟩ := slot_out (fr := (v, d1, k1) :: fr) c2 s2.tail e1
        rw [hw] at hw'
        cases hw'
        have s4 : Sim G S2 H2 ((v, d1, k1) :: (w, .lst ds, k' + 1) :: (fr ++ slots (Γ2.set i none) σ)) := s3.perm (List.Perm.swap _ _ _)
        obtain ⟨S5, h5, s5, r5⟩ := s4.zero
        obtain ⟨S6, h6, s6⟩ := Sim.lower (j := 1) s5.tail (by omega)
        obtain ⟨a, vs, rfl, hv, rv⟩ := Sim.lst1 s6
        refine ⟨a, vs, n, m, rfl, rfl, hv, by rw [rv.len]; exact e3, ?_⟩
        have s7 := Sim.setL s6 (repL_set (r5.mono h6 _ _) m rv)
        obtain ⟨c8, s8⟩ := slot_in c2 hw s7
        exact p.nx σ S6 _ _ c8 s8 (.refl nk σ) q2
  obtain ⟨w, hw⟩ := lst_there c1 q0
  exact ⟨w, hw, key w hw⟩
end
end DL
namespace DL
open PySem PySem.Spec PyProof.Rows L2
def rGetL : V → V → Hp → VK → Prop := fun x y H Q => ∃ a xs i v, x = .ref a ∧ y = .int i ∧ H a = some (.lst xs) ∧ atI xs i = some v ∧ Q v H
section
variable {P : Par} {X : Cx} {G : Gx} {W : WX} {nk : List Nat}
theorem get_list : PGet X rGetL := by
  intro pins s σ H o i ov iv Q I ro ri h
  obtain ⟨a, xs, i, z, rfl, rfl, hq, he, q⟩ := h
  cases ro
  obtain ⟨t, rfl⟩ := ri
  obtain ⟨its, r, l⟩ := isList_of I hq
  obtain ⟨j, h1, h2, h3, h4, h5⟩ := atI_get he
  obtain ⟨w, ew, rw'⟩ := r.get h2
  have hl := r.length
  have hn := line63
  obtain ⟨hz, _⟩ := I.lstM hq
  have fin : EP X pins σ Q w s := ⟨z, H, I, rw', q⟩
  by_cases h0 : 0 ≤ i
  · have hj : i.toNat = j := by
      rw [seqIndex_of h0 h5] at h1
      exact Option.some.inj h1
    exact wpAny_getItem_list l h0 (by omega) (by rw [hj]; simpa using ew) fin
  · have hj : (i + (its.toArray.size : Int)).toNat = j := by
      rw [seqIndex_neg (by omega) h4] at h1
      rw [List.size_toArray, ← hl]
      exact Option.some.inj h1
    exact wpAny_getItem_list_neg l (by omega) (by rw [List.size_toArray] <;> omega) (by omega) (by rw [hj]; simpa using ew) fin
def augO : Op → Option Operator
  | .add => some .Add
  | .sub => some .Sub
  | _ => none
def augF : Op → Int → Int → Int
  | .add, a, b => a + b
  | _, a, b => a - b
theorem aug_ok {o : Op} {op : Operator} (h : augO o = some op) : PIp X op (ipI (augF o)) ∧ ∀ a b, opD o [.int a, .int b] = some (.int (augF o a b), 0) := by
  cases o <;> simp only [augO] at h <;> first | (cases h; done) | (cases h)
  · exact ⟨ip_add, fun _ _ => rfl⟩
  · exact ⟨ip_sub, fun _ _ => rfl⟩
theorem atI_rep {S : Hp} {ds : List D} {vs : List V} {i : Int} {d : D} (r : RepL G S ds vs) (h : atI ds i = some d) : ∃ v, atI vs i = some v ∧ Rep G S d v := by
  unfold atI at h ⊢
  rw [r.len]
  cases e : ixN ds.length i with
  | none => rw [e] at h; cases h
  | some j =>
    rw [e] at h
    exact r.at h
theorem augStore_ok {i : Expr} (h : isSl i = false) : ∀ ov iv new, augStore i ov iv new = (do holding [new, ov, iv] (setItem ov iv new); release [new, ov, iv] []; pure .next) := by
  intro ov iv new
  cases i <;> first | rfl | (simp [isSl] at h)
theorem ps_augI (C : CtxS P X G W) {i : Nat} {ix ir : IE} {o : Op} {op : Operator} {x : Str} {px ps pos : Pos} {ie e : Expr} (hn : nmB P X.env.scope i x = true) (hop : augO o = some op) (hI : PE X ie (tE G W (ev ix false))) (hE : PE X e (tE G W (ev ir false))) (hs : isSl ie = false) :
    PS X (.AugAssign (.Subscript (.Name x px) ie ps) op e pos) (tS G W nk (xs (.augI i ix o ir))) := by
  obtain ⟨pip, hopD⟩ := aug_ok (X := X) hop
  refine PS.imp (ps_augS (nm_ok (pos := px) C.c hn) hI get_list hE pip set_list (augStore_ok hs)) fun D σ H h => ?_
  obtain ⟨fr, Γ, S, K, c, s, h, p⟩ := h
  simp only [xs] at h
  obtain ⟨h0, h⟩ := h
  obtain ⟨w, hw⟩ := lst_there c h0
  refine ⟨w, hw, fr, Γ, S, _, K.ex, c, s, h, fun iv S1 H1 Γ1 d1 k1 c1 s1 q1 => ?_, p.xw⟩
  cases e1 : Γ1.getD i none with
  | none => rw [e1] at q1; exact q1.elim
  | some dk =>
    obtain ⟨da0, ka⟩ := dk
    rw [e1] at q1
    cases da0 <;> first | exact q1.elim | skip
    rename_i xs
    rcases ka with _ | _ | ka
    · exact q1.elim
    rotate_left
    · exact q1.elim
    cases d1 with
    | int j =>
      have q1 : (match atI xs j with
        | some (.int a) => ev ir false Γ1 (fun r Γ2 => match r.1, Γ2.getD i none with
          | .int b, some (.lst ys, 1) => match opD o [.int a, .int b] with
            | some (z, _) => match setD (.lst ys, 1) (.int j) (z, 0) with
              | some y => K.nx (Γ2.set i (some y))
              | none => False
            | none => False
          | _, _ => False) K.ex
        | _ => False) := q1
      cases e3 : atI xs j with
      | none => rw [e3] at q1; exact q1.elim
      | some da =>
        rw [e3] at q1
        cases da <;> first | exact q1.elim | skip
        rename_i a
        dsimp only at q1
        have ri := s1.rep
        simp only [Rep] at ri
        subst ri
        obtain ⟨w', hw', s2⟩ := slot_out (fr := (.int j, .int j, k1) :: fr) c1 s1 e1
        rw [hw] at hw'
        cases hw'
        obtain ⟨ad, vs, rfl, hv, rv⟩ := Sim.lst1 s2
        obtain ⟨v0, hv0, r0⟩ := atI_rep rv e3
        simp only [Rep] at r0
        subst r0
        refine ⟨ad, vs, j, .int a, rfl, rfl, hv, hv0, ?_⟩
        refine ⟨(.int j, .int j, k1) :: fr, Γ1, S1, _, K.ex, c1, s1, q1, fun bv S3 H3 Γ3 d3 k3 c3 s3 q3 => ?_, (p.xw).tail _⟩
        cases d3 with
        | int b =>
          cases e5 : Γ3.getD i none with
          | none => rw [e5] at q3; exact q3.elim
          | some dk =>
            obtain ⟨da1, kb⟩ := dk
            rw [e5] at q3
            cases da1 <;> first | exact q3.elim | skip
            rename_i ys
            rcases kb with _ | _ | kb
            · exact q3.elim
            rotate_left
            · exact q3.elim
            have q3 : (match opD o [.int a, .int b] with
              | some (z, _) => match setD (.lst ys, 1) (.int j) (z, 0) with
                | some y => K.nx (Γ3.set i (some y))
                | none => False
              | none => False) := q3
            have rb := s3.rep
            simp only [Rep] at rb
            subst rb
            refine ⟨a, b, rfl, rfl, ?_⟩
            rw [hopD] at q3
            dsimp only at q3
            cases e6 : setD (.lst ys, 1) (.int j) (.int (augF o a b), 0) with
            | none => rw [e6] at q3; exact q3.elim
            | some y =>
              rw [e6] at q3
              obtain ⟨ds, k', n, m, ea, en, e7, rfl⟩ := setD_inv e6
              cases ea
              cases en
              obtain ⟨w2, hw2, s4⟩ := slot_out (fr := fr) c3 s3.tail.tail e5
              rw [hw] at hw2
              cases hw2
              obtain ⟨ad2, vs2, e8, hv2, rv2⟩ := Sim.lst1 s4
              cases e8
              refine ⟨ad, vs2, j, m, rfl, rfl, hv2, by rw [rv2.len]; exact e7, ?_⟩
              have s7 := Sim.setL s4 (repL_set (d := .int (augF o a b)) (v := .int (augF o a b)) (by simp only [Rep]) m rv2)
              obtain ⟨c8, s8⟩ := slot_in c3 hw s7
              exact p.nx σ S3 _ _ c8 s8 (.refl nk σ) q3
        | _ => exact q3.elim
    | _ => exact q1.elim
/-! ### methods that change a list -/
def mutN : Mt → Option Str
  | .append => some "append"
  | .insert => some "insert"
  | _ => none
def rMut : Mt → V → List V → Hp → VK → Prop
  | .append => rAppend
  | .insert => fun x vs H Q => ∃ (l : Addr) (xs : List V) (i : Int) (y : V), x = .ref l ∧ vs = [.int i, y] ∧ H l = some (.lst xs) ∧ xs.length < sizeLine ∧ 0 ≤ i ∧ i < 2 ^ 63 ∧ Q .non (upd H l (.lst (xs.take i.toNat ++ [y] ++ xs.drop i.toNat)))
  | _ => fun _ _ _ _ => False
theorem pe_mut (C : Ctx P X G W) {m : Mt} {n : Str} {o : Expr} {to : TE} {is : List IE} {e : Expr} {es : List Expr} {apos pos : Pos} (hm : mutN m = some n) (ho : PE X o to) (ha : AllPE X G W is (e :: es)) (hb : callB o = false) (hl : (apos.endLine == pos.line) = true) (h30 : es.length < 28) :
    PE X (.Call (.Attribute o n apos) (e :: es) [] pos) (tBM X.K "list" (rMut m) to (tL G W is)) := by
  have hns := ha.ns
  have hst := star_no (es := es) (env := X.env) (hns e List.mem_cons_self)
  have hpl : (backTo pos (starEach es X.env)).any (·.1) = false := back_any fun e he => hns e (List.mem_cons_of_mem _ he)
  have hfew : ((backTo pos (starEach (e :: es) X.env)).all (fun x => !x.1) && (backToKw pos (keywordEach [] X.env)).all (fun x => x.1.isSome)
      && decide ((e :: es).length + ([] : List Keyword).length + (if ([] : List Keyword).isEmpty then 0 else 1) < 30)) = true := by
    have h1 : (backTo pos (starEach (e :: es) X.env)).all (fun x => !x.1) = true := by
      have := back_any (env := X.env) (pos := pos) hns
      rw [List.any_eq_false] at this
      rw [List.all_eq_true]
      intro q hq
      have := this q hq
      simpa using this
    rw [h1]
    have h2 : (e :: es).length + ([] : List Keyword).length + (if ([] : List Keyword).isEmpty = true then 0 else 1) < 30 := by
      show es.length + 1 + 0 + 0 < 30
      omega
    rw [decide_eq_true h2]
    rfl
  cases m <;> simp only [mutN] at hm <;> first | (cases hm; done) | (cases hm)
  · exact pe_bm F.plainAttrs_list F.slot_list_append F.type_list_append mt_append ho ha.pa (abase hb) hfew hl hst hpl
  · exact pe_bm F.plainAttrs_list F.slot_list_insert F.type_list_insert mt_insert ho ha.pa (abase hb) hfew hl hst hpl
theorem valsK_run {σ : St} : ∀ {rs : List OR} {vs : List V} {T : List Ent} {as : List DK} {S H : Hp} {E : List Ent}, OpdR σ rs vs T → valsK rs = some as → Sim G S H (T ++ E) → ∃ S', Sub S S' ∧ Sim G S' H E ∧ RepL G S' (as.map (·.1)) vs := by
  intro rs vs T as S H E o
  induction o generalizing as S with
  | nil => intro e s; simp only [valsK] at e; cases e; exact ⟨S, .refl S, s, RepL.nil⟩
  | @v d k rs v vs T o ih =>
    intro e s
    simp only [valsK] at e
    cases e1 : valsK rs with
    | none => rw [e1] at e; cases e
    | some ds' =>
      rw [e1] at e
      cases e
      obtain ⟨S1, h1, s1, r1⟩ := Sim.zero s
      obtain ⟨S2, h2, s2, r2⟩ := ih e1 s1.tail
      exact ⟨S2, h1.trans h2, s2, RepL.cons (r1.mono h2 _ _) r2⟩
  | b hv o ih => intro e s; simp only [valsK] at e; cases e
  | l hv o ih => intro e s; simp only [valsK] at e; cases e
theorem mutD_app {x y : DK} {as : List DK} (h : mutD .append x as = some y) : ∃ ds k d j, x = (.lst ds, k + 1) ∧ as = [(d, j)] ∧ ds.length < lim ∧ y = (.lst (ds ++ [d]), 1) := by
  obtain ⟨d, k⟩ := x
  cases d <;> first | (simp [mutD] at h; done) | skip
  cases k <;> first | (simp [mutD] at h; done) | skip
  rename_i ds k
  match as, h with
  | [(d, j)], h =>
    simp only [mutD] at h
    split at h
    · cases h; rename_i hz; exact ⟨ds, k, d, j, rfl, rfl, hz, rfl⟩
    · cases h
  | [], h => simp [mutD] at h
  | _ :: _ :: _, h => simp [mutD] at h
theorem mutD_ins {x y : DK} {as : List DK} (h : mutD .insert x as = some y) : ∃ ds k i j0 d j, x = (.lst ds, k + 1) ∧ as = [(.int i, j0), (d, j)] ∧ (ds.length < lim ∧ 0 ≤ i ∧ i < 9223372036854775808) ∧ y = (.lst (ds.take i.toNat ++ [d] ++ ds.drop i.toNat), 1) := by
  obtain ⟨d, k⟩ := x
  cases d <;> first | (simp [mutD] at h; done) | skip
  cases k <;> first | (simp [mutD] at h; done) | skip
  rename_i ds k
  match as, h with
  | [(e, j0), (d, j)], h =>
    cases e <;> first | (simp [mutD] at h; done) | skip
    simp only [mutD] at h
    split at h
    · cases h; rename_i hz; exact ⟨ds, k, _, j0, d, j, rfl, rfl, hz, rfl⟩
    · cases h
  | [], h => simp [mutD] at h
  | [_], h => simp [mutD] at h
  | _ :: _ :: _ :: _, h => simp [mutD] at h
theorem ps_mut (C : CtxS P X G W) {i : Nat} {m : Mt} {n x : Str} {is : List IE} {e : Expr} {es : List Expr} {px apos pos pos2 : Pos} (hm : mutN m = some n) (hn : nmB P X.env.scope i x = true) (ha : AllPE X G W is (e :: es)) (hl : (apos.endLine == pos.line) = true) (h30 : es.length < 28) :
    PS X (.Expr (.Call (.Attribute (.Name x px) n apos) (e :: es) [] pos) pos2) (tS G W nk (xs (.mut i m is))) := by
  refine PS.imp (ps_expr (pe_mut C.c hm (nm_ok (pos := px) C.c hn) ha rfl hl h30) (swaps_no rfl)) fun D σ H h => ?_
  obtain ⟨fr, Γ, S, K, c, s, h, p⟩ := h
  simp only [xs] at h
  obtain ⟨h0, h⟩ := h
  obtain ⟨w, hw⟩ := lst_there c h0
  refine ⟨w, hw, ?_, ?_⟩
  · cases e0 : Γ.getD i none with
    | none => rw [e0] at h0; cases h0
    | some dk =>
      obtain ⟨d, k⟩ := dk
      rw [e0] at h0
      cases d <;> first | (cases h0; done) | skip
      obtain ⟨w', hw', s2⟩ := slot_out c s e0
      rw [hw] at hw'
      cases hw'
      have r := s2.rep
      simp only [Rep] at r
      obtain ⟨a, vs, rfl, q, _⟩ := r
      exact .inl ⟨rfl, vs, .of q⟩
  · refine run_L is σ H _ fr Γ S _ K.ex c s h (fun vs S' H' Γ' rs T c' s' o q => ?_) p.xw
    cases e1 : Γ'.getD i none with
    | none => rw [e1] at q; exact q.elim
    | some dk =>
      obtain ⟨d, k⟩ := dk
      rw [e1] at q
      cases e2 : valsK rs with
      | none => rw [e2] at q; exact q.elim
      | some as =>
        rw [e2] at q
        dsimp only at q
        cases e3 : mutD m (d, k) as with
        | none => rw [e3] at q; exact q.elim
        | some y =>
          rw [e3] at q
          obtain ⟨S2, h2, s2, r2⟩ := valsK_run o e2 s'
          obtain ⟨w', hw', s3⟩ := slot_out c' s2 e1
          rw [hw] at hw'
          cases hw'
          have done : ∀ {ds : List DL.D} {k' : Nat} {ds' : List DL.D}, (d, k) = (.lst ds, k' + 1) → y = (.lst ds', 1) → ∃ a ws, w = .ref a ∧ H' a = some (.lst ws) ∧ ∃ S4, Sub S2 S4 ∧ RepL G S4 ds ws ∧ ∀ ws', RepL G S4 ds' ws' → D.nx σ (upd H' a (.lst ws')) := by
            intro ds k' ds' ea ey
            cases ea
            obtain ⟨S4, h4, s4⟩ := Sim.lower (j := 1) s3 (by omega)
            obtain ⟨a, ws, e5, hv, rv⟩ := Sim.lst1 s4
            subst e5
            refine ⟨a, ws, rfl, hv, S4, h4, rv, fun ws' r' => ?_⟩
            obtain ⟨c8, s8⟩ := slot_in c' hw (Sim.setL s4 r')
            rw [ey] at q
            exact p.nx σ S4 _ _ c8 s8 (.refl nk σ) q
          cases m <;> first | (simp [mutN] at hm; done) | skip
          · obtain ⟨ds, k', d', j', ea, rfl, hz, rfl⟩ := mutD_app e3
            obtain ⟨a, ws, rfl, hv, S4, h4, rv, fin⟩ := done ea rfl
            simp only [List.map_cons, List.map_nil, RepL] at r2
            obtain ⟨v1, t1, rfl, ra, rfl⟩ := r2
            exact ⟨a, ws, v1, rfl, rfl, hv, by rw [rv.len, line_lim]; exact hz, fin _ (rv.append (RepL.cons (ra.mono h4 _ _) RepL.nil))⟩
          · obtain ⟨ds, k', n', j0, d', j', ea, rfl, hz, rfl⟩ := mutD_ins e3
            obtain ⟨a, ws, rfl, hv, S4, h4, rv, fin⟩ := done ea rfl
            simp only [List.map_cons, List.map_nil, RepL] at r2
            obtain ⟨v1, t1, rfl, ra, v2, t2, rfl, rb, rfl⟩ := r2
            simp only [Rep] at ra
            subst ra
            refine ⟨a, ws, n', v2, rfl, rfl, hv, by rw [rv.len, line_lim]; exact hz.1, hz.2.1, hz.2.2, fin _ ?_⟩
            exact ((rv.take _).append (RepL.cons (rb.mono h4 _ _) RepL.nil)).append (rv.drop _)
end
end DL
namespace DL
open PySem PySem.Spec PyProof.Rows L2
mutual
def callsS : IS → List FunIR
  | .asg _ e => callsE e
  | .asgs _ es => callsL es
  | .asgT _ e => callsE e
  | .aug _ _ e => callsE e
  | .setI _ ix e => callsE ix ++ callsE e
  | .augI _ ix _ e => callsE ix ++ callsE e
  | .mut _ _ es => callsL es
  | .ex e => callsE e
  | .ite c a b => callsE c ++ (callsSs a ++ callsSs b)
  | .loop _ _ es body => callsL es ++ callsSs body
  | .while c body => callsE c ++ callsSs body
  | .ret e => callsE e
  | .retN => [] | .pass => [] | .brk => [] | .cont => []
def callsSs : List IS → List FunIR
  | [] => []
  | s :: r => callsS s ++ callsSs r
end
def isTupE : Expr → Bool
  | .Tuple .. => true
  | _ => false
/-- both or all three are local names, stored from the right -/
def swB (sc : Scope) (ts : List Nat) (ns vs : List Expr) (names : List Str) : Bool := match ts, ns, vs with
  | [i, j], [.Name x _, .Name y _], [_, _] => decide (names = [x, y]) && decide (sc.names.lookup x = some .local) && decide (sc.names.lookup y = some .local) && decide (i ≠ j)
  | [i, j, l], [.Name x _, .Name y _, .Name z _], [_, _, _] => decide (names = [x, y, z]) && decide (sc.names.lookup x = some .local) && decide (sc.names.lookup y = some .local) && decide (sc.names.lookup z = some .local) && decide (i ≠ j) && decide (i ≠ l) && decide (j ≠ l)
  | _, _, _ => false
def asgsB (P : Par) (sc : Scope) (ts : List Nat) (ns vs : List Expr) : Bool := tgsB (stB P sc) (ts.map Tg.name) ns && decide (ts.length ≤ 1000) &&
  (match swN sc ns vs with
  | some none => true
  | some (some names) => swB sc ts ns vs names
  | none => false)
mutual
def mS (P : Par) (sc : Scope) : IS → Stmt → Bool
  | .asg i ir, st => match st with
    | .Assign [.Name x p] e _ => stB P sc i x && !sdB e && (!swC sc x p e || isComp ir) && mE P sc ir e
    | _ => false
  | .asgs ts es, st => match st with
    | .Assign [.Tuple ns _ _] (.Tuple vs _ _) _ => asgsB P sc ts ns vs && mL P sc es vs
    | _ => false
  | .asgT tg ir, st => match st with
    | .Assign [t] e _ => tgB (stB P sc) tg t && isTupE t && !isTupE e && !lcB e && mE P sc ir e
    | _ => false
  | .aug _ _ _, _ => false
  | .setI i ix ir, st => match st with
    | .Assign [.Subscript (.Name x _) ie _] e _ => nmB P sc i x && !isSl ie && !lcB e && mE P sc ix ie && mE P sc ir e
    | _ => false
  | .augI i ix o ir, st => match st with
    | .AugAssign (.Subscript (.Name x _) ie _) op e _ => nmB P sc i x && decide (augO o = some op) && !isSl ie && mE P sc ix ie && mE P sc ir e
    | _ => false
  | .mut i m es, st => match st with
    | .Expr (.Call (.Attribute (.Name x _) n ap) xs [] pos) _ => decide (mutN m = some n) && nmB P sc i x && !xs.isEmpty && decide (xs.length < 28) && (ap.endLine == pos.line) && mL P sc es xs
    | _ => false
  | .ex e, st => match st with
    | .Expr v _ => mE P sc e v && !lcB v
    | _ => false
  | .ite c a b, st => match st with
    | .If x y z _ => mE P sc c x && mSs P sc a y && mSs P sc b z
    | _ => false
  | .loop tg it es body, st => match st with
    | .For t iter bd [] _ => tgB (stB P sc) tg t && !isSet iter && (match itX it sc iter with
      | some xs => mL P sc es xs
      | none => false) && mSs P sc body bd
    | _ => false
  | .while _ _, _ => false
  | .ret e, st => match st with
    | .Return (some v) _ => mE P sc e v
    | _ => false
  | .retN, st => match st with
    | .Return none _ => true
    | _ => false
  | .pass, st => match st with
    | .Pass _ => true
    | _ => false
  | .brk, st => match st with
    | .Break _ => true
    | _ => false
  | .cont, st => match st with
    | .Continue _ => true
    | _ => false
def mSs (P : Par) (sc : Scope) : List IS → List Stmt → Bool
  | [], sts => sts.isEmpty
  | s :: r, sts => match sts with
    | [] => false
    | st :: sts => mS P sc s st && mSs P sc r sts
end
section
variable {P : Par} {X : Cx} {G : Gx} {W : WX} {nk : List Nat}
theorem asgs_ok (C : CtxS P X G W) {ts : List Nat} {es : List IE} {ns vs : List Expr} {k k2 : Nat} {p p2 pos : Pos} (h : asgsB P X.env.scope ts ns vs = true) (ha : AllPE X G W es vs) (hk : ∀ i ∈ ts, i ∈ nk) : PS X (.Assign [.Tuple ns k p] (.Tuple vs k2 p2) pos) (tS G W nk (xs (.asgs ts es))) := by
  obtain ⟨h, h3⟩ := and2 h
  obtain ⟨h1, h2⟩ := and2 h
  cases e : swN X.env.scope ns vs with
  | none => rw [e] at h3; cases h3
  | some r =>
    cases r with
    | none => exact ps_many0 C h1 ha hk (of_decide_eq_true h2) e
    | some names =>
      rw [e] at h3
      have h3 : swB X.env.scope ts ns vs names = true := h3
      unfold swB at h3
      split at h3
      · obtain ⟨h3, c4⟩ := and2 h3
        obtain ⟨h3, c3⟩ := and2 h3
        obtain ⟨c1, c2⟩ := and2 h3
        have c1 := of_decide_eq_true c1
        subst c1
        simp only [List.map_cons, List.map_nil, tgsB, tgB] at h1
        obtain ⟨t1, t2⟩ := and2 h1
        obtain ⟨t2, _⟩ := and2 t2
        exact ps_many2 C t1 t2 (of_decide_eq_true c4) ha hk (of_decide_eq_true c2) (of_decide_eq_true c3) e
      · obtain ⟨h3, c7⟩ := and2 h3
        obtain ⟨h3, c6⟩ := and2 h3
        obtain ⟨h3, c5⟩ := and2 h3
        obtain ⟨h3, c4⟩ := and2 h3
        obtain ⟨h3, c3⟩ := and2 h3
        obtain ⟨c1, c2⟩ := and2 h3
        have c1 := of_decide_eq_true c1
        subst c1
        simp only [List.map_cons, List.map_nil, tgsB, tgB] at h1
        obtain ⟨t1, t2⟩ := and2 h1
        obtain ⟨t2, t3⟩ := and2 t2
        obtain ⟨t3, _⟩ := and2 t3
        exact ps_many3 C t1 t2 t3 (of_decide_eq_true c5) (of_decide_eq_true c6) (of_decide_eq_true c7) ha hk (of_decide_eq_true c2) (of_decide_eq_true c3) (of_decide_eq_true c4) e
      · cases h3
/-- what a loop holds is put by -/
theorem post_for {fr hold : List Ent} {σ σ2 : St} {K : DE} {D : Ends} {N : St → Hp → Prop} {nx : Gm → Prop} (p : Post G W nk fr σ K D) (k : Kp nk σ σ2) (h : ∀ σ' S' H' Γ', Cov Γ' σ' → Sim G S' H' ((hold ++ fr) ++ slots Γ' σ') → Kp nk σ σ' → nx Γ' → N σ' H') :
    Post G W nk (hold ++ fr) σ2 { K with nx := nx, ct := nx, bk := K.nx } { D with nx := N, ct := N, bk := D.nx } := by
  have left : ∀ {S' H' : Hp} {B : List Ent}, Sim G S' H' ((hold ++ fr) ++ B) → Sim G S' H' (fr ++ B) := fun s => Sim.left (E := hold) (by rw [List.append_assoc] at s; exact s)
  refine ⟨fun σ' S' H' Γ' c s k2 q => h σ' S' H' Γ' c s (k.trans k2) q, fun v σ' S' H' Γ' d kk c s k2 q => ?_, fun σ' S' H' Γ' c s k2 q => p.nx σ' S' H' Γ' c (left s) (k.trans k2) q, fun σ' S' H' Γ' c s k2 q => h σ' S' H' Γ' c s (k.trans k2) q,
    fun x cls dx σ' S' H' Γ' c s k2 r q => p.ex x cls dx σ' S' H' Γ' c (left s) (k.trans k2) r q⟩
  refine p.rt v σ' S' H' Γ' d kk c ?_ (k.trans k2) q
  have s2 : Sim G S' H' (hold ++ ((v, d, kk) :: (fr ++ slots Γ' σ'))) := by
    refine s.perm ?_
    rw [List.append_assoc]
    exact List.perm_middle.symm
  exact Sim.left (E := hold) s2
theorem loop_rd {tg : Tg} {it : ItK} {es : List IE} {body : List IS} (ho : ∀ i ∈ tgIx tg, i ∈ nk) (D : Ends) (σ : St) (H : Hp) (h : tS G W nk (xs (.loop tg it es body)) D σ H) :
    tFor (fun σ H R => tL G W es σ H fun vs H1 => rIt it G vs H1 R) (gTg G.K tg) (tS G W nk (xss body)) D σ H := by
  obtain ⟨fr, Γ, S, K, c, s, h, p⟩ := h
  simp only [xs] at h
  refine run_L es σ H _ fr Γ S _ K.ex c s h (fun vs S1 H1 Γ1 rs T c1 s1 o q => ?_) p.xw
  cases e : itD it rs with
  | none => rw [e] at q; exact q.elim
  | some ds =>
  rw [e] at q
  obtain ⟨hold, S2, h2, s2, feed⟩ := it_feed o s1 e
  refine feed _ fun J fd => ?_
  let stp : DL.D → Gm → DE → Prop := fun d Γ2 K2 => match setTg tg (d, 0) Γ2 with
    | some Γ3 => xss body Γ3 K2
    | none => False
  let Wn : Nat → Nat → St → Hp → Prop := fun i m σ' H => ∃ (S : Hp) (Γ : Gm), m + i = ds.length ∧ Cov Γ σ' ∧ Sim G S H ((hold ++ fr) ++ slots Γ σ') ∧ Kp nk σ σ' ∧ forL stp (ds.drop i) Γ K
  refine ⟨Wn, ⟨ds.length, S2, Γ1, by simp, c1, by rw [List.append_assoc]; exact s2, .refl nk σ, q⟩, ?_⟩
  rintro i m σ3 H3 ⟨S3, Γ3, hm, c3, s3, k3, q3⟩
  have sh : Sim G S3 H3 (hold ++ (fr ++ slots Γ3 σ3)) := by rw [List.append_assoc] at s3; exact s3
  obtain ⟨fgo, fstop⟩ := fd S3 H3 _ sh i
  by_cases hi : i < ds.length
  · refine .inr ?_
    have ed : ds[i]? = some ds[i] := List.getElem?_eq_getElem hi
    obtain ⟨go, yl⟩ := fgo _ ed
    refine ⟨go, Wn (i + 1) (m - 1), fun σ' H' w => ⟨m - 1, by omega, w⟩, fun x H4 y => ?_⟩
    obtain ⟨rfl, rx⟩ := yl x H4 y
    rw [List.drop_eq_getElem_cons hi] at q3
    simp only [forL, stp] at q3
    cases e3 : setTg tg (ds[i], 0) Γ3 with
    | none => rw [e3] at q3; exact q3.elim
    | some Γ4 =>
      rw [e3] at q3
      refine set_ok (tgIx tg) tg ds[i] x Γ3 Γ4 σ3 S3 H4 (hold ++ fr) _ (fun i hi => hi) c3 s3 rx e3 fun σ4 c4 s4 sm l4 => ?_
      have k4 : Kp nk σ σ4 := k3.trans (Kp.same sm l4 ho)
      exact ⟨hold ++ fr, Γ4, S3, _, c4, s4, q3, post_for p k4 fun σ' S' H' Γ' c' s' k' q' => ⟨S', Γ', by omega, c', s', k', q'⟩⟩
  · refine .inl ⟨fstop (by omega), ?_⟩
    rw [List.drop_eq_nil_of_le (by omega)] at q3
    exact p.nx σ3 S3 H3 Γ3 c3 (Sim.left (E := hold) sh) k3 q3
theorem ret_rd {e : IE} (D : Ends) (σ : St) (H : Hp) (h : tS G W nk (xs (.ret e)) D σ H) : tRet (tE G W (ev e false)) D σ H := by
  obtain ⟨fr, Γ, S, K, c, s, h, p⟩ := h
  simp only [xs] at h
  exact ⟨fr, Γ, S, _, K.ex, c, s, h, fun v S' H' Γ' d k c' s' q => p.rt v σ S' H' Γ' d k c' s' (.refl nk σ) q, p.xw⟩
mutual
theorem mS_ok : ∀ (s : IS) (C : CtxS P X G W) (st : Stmt), mS P X.env.scope s st = true → (∀ f ∈ callsS s, CallOk X G f) → (∀ i ∈ asgn s, i ∈ nk) → PS X st (tS G W nk (xs s))
  | .asg i ir, C, st, h, hf, hk => by
    unfold mS at h
    split at h
    · obtain ⟨h, h4⟩ := and2 h
      obtain ⟨h, h3⟩ := and2 h
      obtain ⟨h1, h2⟩ := and2 h
      refine ps_asgN C h1 (hk i (by simp [asgn])) (notF h2) (fun hc => ?_) h4 hf
      rw [hc] at h3
      simpa using h3
    · cases h
  | .asgs ts es, C, st, h, hf, hk => by
    unfold mS at h
    split at h
    · obtain ⟨h1, h2⟩ := and2 h
      exact asgs_ok C h1 (mL_ok es C.c _ h2 hf) (by simpa [asgn] using hk)
    · cases h
  | .asgT tg ir, C, st, h, hf, hk => by
    unfold mS at h
    split at h
    · rename_i t e pos
      obtain ⟨h, h5⟩ := and2 h
      obtain ⟨h, h4⟩ := and2 h
      obtain ⟨h, h3⟩ := and2 h
      obtain ⟨h1, h2⟩ := and2 h
      refine ps_asgT C h1 ?_ (by simpa [asgn] using hk) (mE_ok ir C.c _ h5 hf).1 ?_ (notF h4)
      · cases t <;> first | rfl | (simp [isTupE] at h2)
      · cases e <;> first | rfl | (simp [isTupE] at h3)
    · cases h
  | .aug _ _ _, C, st, h, hf, hk => by unfold mS at h; cases h
  | .setI i ix ir, C, st, h, hf, hk => by
    unfold mS at h
    split at h
    · obtain ⟨h, h5⟩ := and2 h
      obtain ⟨h, h4⟩ := and2 h
      obtain ⟨h, h3⟩ := and2 h
      obtain ⟨h1, h2⟩ := and2 h
      exact ps_setI C h1 (mE_ok ix C.c _ h4 fun f q => hf f (List.mem_append_left _ q)).1 (mE_ok ir C.c _ h5 fun f q => hf f (List.mem_append_right _ q)).1 (notF h2) (notF h3)
    · cases h
  | .augI i ix o ir, C, st, h, hf, hk => by
    unfold mS at h
    split at h
    · obtain ⟨h, h5⟩ := and2 h
      obtain ⟨h, h4⟩ := and2 h
      obtain ⟨h, h3⟩ := and2 h
      obtain ⟨h1, h2⟩ := and2 h
      exact ps_augI C h1 (of_decide_eq_true h2) (mE_ok ix C.c _ h4 fun f q => hf f (List.mem_append_left _ q)).1 (mE_ok ir C.c _ h5 fun f q => hf f (List.mem_append_right _ q)).1 (notF h3)
    · cases h
  | .mut i m es, C, st, h, hf, hk => by
    unfold mS at h
    split at h
    · rename_i x px n ap xs pos p2
      obtain ⟨h, h6⟩ := and2 h
      obtain ⟨h, h5⟩ := and2 h
      obtain ⟨h, h4⟩ := and2 h
      obtain ⟨h, h3⟩ := and2 h
      obtain ⟨h1, h2⟩ := and2 h
      have ha := mL_ok es C.c _ h6 hf
      cases xs with
      | nil => simp at h3
      | cons a as =>
        have h4 := of_decide_eq_true h4
        exact ps_mut C (of_decide_eq_true h1) h2 ha h5 (by simp only [List.length_cons] at h4; omega)
    · cases h
  | .ex e, C, st, h, hf, hk => by
    unfold mS at h
    split at h
    · obtain ⟨h1, h2⟩ := and2 h
      refine PS.imp (ps_expr (mE_ok e C.c _ h1 hf).1 (swaps_no (notF h2))) fun D σ H hh => ?_
      obtain ⟨fr, Γ, S, K, c, s, hh, p⟩ := hh
      simp only [xs] at hh
      exact ⟨fr, Γ, S, _, K.ex, c, s, hh, fun v S' H' Γ' d k c' s' q => p.nx σ S' H' Γ' c' s'.tail (.refl nk σ) q, p.xw⟩
    · cases h
  | .ite c a b, C, st, h, hf, hk => by
    unfold mS at h
    split at h
    · obtain ⟨h, h3⟩ := and2 h
      obtain ⟨h1, h2⟩ := and2 h
      have hk1 : ∀ i ∈ asgns a, i ∈ nk := fun i q => hk i (by simp only [asgn]; exact List.mem_append_left _ q)
      have hk2 : ∀ i ∈ asgns b, i ∈ nk := fun i q => hk i (by simp only [asgn]; exact List.mem_append_right _ q)
      refine PS.imp (ps_if (mE_ok c C.c _ h1 fun f q => hf f (List.mem_append_left _ q)).2 (mSs_ok a C _ h2 (fun f q => hf f (List.mem_append_right _ (List.mem_append_left _ q))) hk1) (mSs_ok b C _ h3 (fun f q => hf f (List.mem_append_right _ (List.mem_append_right _ q))) hk2)) fun D σ H hh => ?_
      obtain ⟨fr, Γ, S, K, cv, s, hh, p⟩ := hh
      simp only [xs] at hh
      refine ⟨fr, Γ, S, _, K.ex, cv, s, hh, fun k S' H' Γ' c' s' q => ?_, p.xw⟩
      have q : (if k = true then xss a Γ' K else xss b Γ' K) := q
      cases k with
      | true => simp only [if_true] at q ⊢; exact ⟨fr, Γ', S', K, c', s', q, p⟩
      | false => simp only [Bool.false_eq_true, if_false] at q ⊢; exact ⟨fr, Γ', S', K, c', s', q, p⟩
    · cases h
  | .loop tg it es body, C, st, h, hf, hk => by
    unfold mS at h
    split at h
    · rename_i t iter bd pos
      obtain ⟨h, h4⟩ := and2 h
      obtain ⟨h, h3⟩ := and2 h
      obtain ⟨h1, h2⟩ := and2 h
      have hk1 : ∀ i ∈ tgIx tg, i ∈ nk := fun i q => hk i (by simp only [asgn]; exact List.mem_append_left _ q)
      have hk2 : ∀ i ∈ asgns body, i ∈ nk := fun i q => hk i (by simp only [asgn]; exact List.mem_append_right _ q)
      cases e1 : itX it X.env.scope iter with
      | none => rw [e1] at h3; cases h3
      | some zs =>
        rw [e1] at h3
        have ha := mL_ok es C.c _ h3 fun f q => hf f (List.mem_append_left _ q)
        have hst : StOk X (stB P X.env.scope) := fun i x h => st_ok C h
        have pg := tg_ok (X := X) (st := stB P X.env.scope) C.c.calm C.c.nd hst tg t h1
        have hb := mSs_ok body C bd h4 (fun f q => hf f (List.mem_append_right _ q)) hk2
        refine PS.imp (ps_for C.pass C.c.calm (pi_ok C.c (tg := t) e1 ha) pg hb (folded_no (notF h2))) fun D σ H hh => ?_
        rw [← C.c.K]
        exact loop_rd hk1 D σ H hh
    · cases h
  | .while _ _, C, st, h, hf, hk => by unfold mS at h; cases h
  | .ret e, C, st, h, hf, hk => by
    unfold mS at h
    split at h
    · exact PS.imp (ps_ret (mE_ok e C.c _ h hf).1) fun D σ H hh => ret_rd D σ H hh
    · cases h
  | .retN, C, st, h, hf, hk => by
    unfold mS at h
    split at h
    · refine PS.imp ps_retN fun D σ H hh => ?_
      obtain ⟨fr, Γ, S, K, cv, s, hh, p⟩ := hh
      simp only [xs] at hh
      exact p.rt .non σ S H Γ .non 0 cv (s.add0 (by simp only [Rep]) (.inl rfl)) (.refl nk σ) hh
    · cases h
  | .pass, C, st, h, hf, hk => by
    unfold mS at h
    split at h
    · refine PS.imp ps_pass fun D σ H hh => ?_
      obtain ⟨fr, Γ, S, K, cv, s, hh, p⟩ := hh
      simp only [xs] at hh
      exact p.nx σ S H Γ cv s (.refl nk σ) hh
    · cases h
  | .brk, C, st, h, hf, hk => by
    unfold mS at h
    split at h
    · refine PS.imp ps_break fun D σ H hh => ?_
      obtain ⟨fr, Γ, S, K, cv, s, hh, p⟩ := hh
      simp only [xs] at hh
      exact p.bk σ S H Γ cv s (.refl nk σ) hh
    · cases h
  | .cont, C, st, h, hf, hk => by
    unfold mS at h
    split at h
    · refine PS.imp ps_continue fun D σ H hh => ?_
      obtain ⟨fr, Γ, S, K, cv, s, hh, p⟩ := hh
      simp only [xs] at hh
      exact p.ct σ S H Γ cv s (.refl nk σ) hh
    · cases h
theorem mSs_ok : ∀ (ss : List IS) (C : CtxS P X G W) (sts : List Stmt), mSs P X.env.scope ss sts = true → (∀ f ∈ callsSs ss, CallOk X G f) → (∀ i ∈ asgns ss, i ∈ nk) → PSs X sts (tS G W nk (xss ss))
  | [], C, sts, h, hf, hk => by
    unfold mSs at h
    cases sts with
    | nil =>
      refine PSs.imp pss_nil fun D σ H hh => ?_
      obtain ⟨fr, Γ, S, K, cv, s, hh, p⟩ := hh
      simp only [xss] at hh
      exact p.nx σ S H Γ cv s (.refl nk σ) hh
    | cons _ _ => cases h
  | s :: r, C, sts, h, hf, hk => by
    cases sts with
    | nil => unfold mSs at h; cases h
    | cons st sts =>
      unfold mSs at h
      obtain ⟨h1, h2⟩ := and2 h
      refine PSs.imp (pss_cons (mS_ok s C st h1 (fun f q => hf f (List.mem_append_left _ q)) fun i q => hk i (by simp only [asgns]; exact List.mem_append_left _ q))
        (mSs_ok r C sts h2 (fun f q => hf f (List.mem_append_right _ q)) fun i q => hk i (by simp only [asgns]; exact List.mem_append_right _ q))) fun D σ H hh => ?_
      obtain ⟨fr, Γ, S, K, cv, sm, hh, p⟩ := hh
      simp only [xss] at hh
      exact ⟨fr, Γ, S, _, cv, sm, hh, p.seq⟩
end
end
end DL
namespace DL
open PySem PySem.Spec PyProof.Rows L2
/-! ### the parameters' slots at the end -/
theorem fin_ok : ∀ (vs : List V) (p : Nat → Bool) (Γ : Gm) (σ : St), Cov Γ σ → vs.length ≤ σ.length → (∀ i v, vs[i]? = some v → p i = false → σ[i]? = some (some v)) →
    ∃ l, (slots Γ σ).Perm (l ++ slots ((List.range vs.length).map fun i => if p i = true then none else Γ.getD i none) (vs.map some))
  | [], p, Γ, σ, c, hl, h => ⟨slots Γ σ, by simp [slots]⟩
  | v :: vs, p, [], σ, c, hl, h => by
    have := c.len
    simp at this
    have : σ = [] := List.length_eq_zero_iff.mp this.symm
    subst this
    simp at hl
  | v :: vs, p, x :: Γ, [], c, hl, h => c.elim
  | v :: vs, p, x :: Γ, y :: σ, c, hl, h => by
    obtain ⟨l, ih⟩ := fin_ok vs (fun i => p (i + 1)) Γ σ c.2 (by simpa using hl) fun i w e q => by simpa using h (i + 1) w (by simpa using e) q
    have e1 : ((List.range (v :: vs).length).map fun i => if p i = true then none else (x :: Γ).getD i none) = (if p 0 = true then none else x) :: ((List.range vs.length).map fun i => if p (i + 1) = true then none else Γ.getD i none) := by
      rw [List.length_cons, List.range_succ_eq_map, List.map_cons, List.map_map]
      rfl
    rw [e1, List.map_cons]
    cases hp : p 0 with
    | true =>
      simp only [if_true, slots]
      cases x with
      | none => exact ⟨l, by cases y <;> simpa [slots] using ih⟩
      | some dk =>
        obtain ⟨d, k⟩ := dk
        cases y with
        | none => exact ⟨l, by simpa [slots] using ih⟩
        | some w => exact ⟨(w, d, k) :: l, by simpa [slots] using ih⟩
    | false =>
      have hy := h 0 v rfl hp
      simp at hy
      subst hy
      simp only [Bool.false_eq_true, if_false]
      cases x with
      | none => exact ⟨l, by simpa [slots] using ih⟩
      | some dk =>
        obtain ⟨d, k⟩ := dk
        refine ⟨l, ?_⟩
        simp only [slots]
        exact (List.Perm.cons _ ih).trans List.perm_middle.symm
theorem start_cov : ∀ (as : List DK) (vs : List V) (n : Nat), as.length = vs.length → Cov (as.map some ++ List.replicate n none) (vs.map some ++ List.replicate n none) ∧ slots (as.map some ++ List.replicate n none) (vs.map some ++ List.replicate n none) = slots (as.map some) (vs.map some)
  | [], [], n, _ => by
    induction n with
    | zero => exact ⟨trivial, rfl⟩
    | succ n ih =>
      obtain ⟨h1, h2⟩ := ih
      simp only [List.map_nil, List.nil_append] at h1 h2 ⊢
      rw [List.replicate_succ, List.replicate_succ]
      exact ⟨⟨fun z => by simp at z, h1⟩, by simpa [slots] using h2⟩
  | a :: as, v :: vs, n, h => by
    obtain ⟨h1, h2⟩ := start_cov as vs n (by simpa using h)
    obtain ⟨d, k⟩ := a
    refine ⟨⟨fun _ => rfl, h1⟩, ?_⟩
    simp only [List.map_cons, List.cons_append, slots, h2]
  | [], _ :: _, _, h => by simp at h
  | _ :: _, [], _, h => by simp at h
/-! ### a def of the text -/
section
variable {P : Program} {w : World} {K : PySem.W.Frag} {mg : Str → Option Value} {base : Heap}
theorem FnG.mono {CX : CXT} {j k : Nat} {f : Addr} {fd : FuncData} {ps : List Str} {sp : Sp} (F : FnG P w K mg base CX j f fd ps sp) (h : j ≤ k) : FnG P w K mg base CX k f fd ps sp :=
  ⟨F.len, fun A outer s H args us vs Q E hr => F.run A outer s H args us vs Q E (hr.mono h)⟩
theorem fnG_of {CX : CXT} {k : Nat} {f : Addr} {name qual : Str} {params : Arguments} {body : List Stmt} {scope : Scope} {dV kV doc pm cdv ct oc : Value} {an od : Option Addr}
    {osl : Array (Option Value)} {N ps : List Str} {sp : Sp} (lk : K.lookup f = some ⟨oc, od, .func (PySem.W.fnOf name qual params body scope dV kV doc pm an cdv ct), osl⟩) (hcd : PySem.W.codeIn K cdv qual = true) (S : FnScope N ps scope)
    (len : ∀ vs H Q E, sp vs H Q E → vs.length = ps.length)
    (hbody : ∀ (A : Around) (outer : List Env) (s : Shared) (H : Hp) (vs : List V) (Q : VK) (E : XK), Room k (A.deeper (envOfC qual scope s.heap.objs.size f cdv)) → A.guards = some [] → sp vs H Q E →
      ∃ t, PSs (cxOf CX P w K mg base N qual scope f cdv A outer s H E) body t ∧ t { nx := fun _ H' => Q .non H', rt := Q } (start N vs) H) :
    FnG P w K mg base CX (k + 1) f (PySem.W.fnOf name qual params body scope dV kV doc pm an cdv ct) ps sp := by
  refine ⟨len, fun A outer s H args us vs Q E hr hgd e0 hb r hsp => ?_⟩
  have hl := len _ _ _ _ hsp
  have KX : K.In s.heap := e0.mod.kin.keeps fun b o e => (e0.bs b o e).1
  have lim : s.heap.NoLimit := e0.mod.nolimit.keeps fun b o e => (e0.bs b o e).1
  have hkind : ∀ y ∈ ps.zip us, scope.names.lookup y.1 = some .local ∨ (scope.names.lookup y.1 = some .cell ∧ ((cellsFrom (s.heap.objs.size + 1) scope.names []).lookup y.1).isSome = true) := fun ⟨n, v⟩ hy => by
    rcases S.par n (List.of_mem_zip hy).1 with q | q
    · exact .inl q
    · exact .inr ⟨q, PySem.W.cellsFrom_some _ _ _ (.inl q)⟩
  refine codeAny_call_function hr.depth (KX _ _ lk) rfl S.co S.gen rfl (PySem.W.codeRec_of KX hcd) (hb _ _ _ _ ?_)
  refine wpAny_newFunctionEnv_cells S.kind hkind fun env he s1 x => ?_
  subst he
  refine ⟨lim.keeps x.toInCall.keep, codeAny_func ?_⟩
  obtain ⟨t, ht, hq⟩ := hbody A outer s H vs Q E (hr.deeper _) hgd hsp
  have I : Inv (cxOf CX P w K mg base N qual scope f cdv A outer s H E) [] (start N vs) H s1 := inv_start S hr.hd e0 hl r x
  refine wpAny_mono (ht.run [] s1 (start N vs) H _ I hq) (fun fl s' hs => ?_) fun e s' hs => hs
  have fin : ∀ {σ' : St} {H' : Hp} {v : V} {u : Value}, Inv (cxOf CX P w K mg base N qual scope f cdv A outer s H E) [] σ' H' s' → RelV v u → Q v H' → CE outer P w H s Q u s' :=
    fun {σ' H' v u} J rv q => ⟨v, H', J.os, J.bare, J.base, J.hok, rv, q⟩
  cases fl with
  | ret u =>
    obtain ⟨v, σ', H', J, rv, q⟩ := hs
    exact fin J rv q
  | next =>
    obtain ⟨σ', H', J, q⟩ := hs
    exact fin (v := V.non) (u := Value.none) J rfl q
  | brk =>
    obtain ⟨_, _, _, q⟩ := hs
    exact False.elim q
  | cont =>
    obtain ⟨_, _, _, q⟩ := hs
    exact False.elim q
/-- what a law's defs lean on -/
structure Base (G : Gx) (K : PySem.W.Frag) (mg : Str → Option Value) (base : Heap) (gls : List (Str × Cst)) : Prop where
  K : G.K = K
  sys : ∃ o, base.get? sysModules = some o
  blt : ∀ x ∈ bltNames, mg x = none
  gls : ∀ x c, gls.lookup x = some c → ∃ v u, mg x = some u ∧ RelV v u ∧ ∀ S, Rep G S c.d v
/-- a def stands by its name and keeps its promise -/
def At (P : Program) (w : World) (K : PySem.W.Frag) (mg : Str → Option Value) (base : Heap) (G : Gx) (k : Nat) (f : FunIR) : Prop :=
  ∃ a fd, FnG P w K mg base (L2.CX P w) k a fd f.ps (spOf G f) ∧ mg f.name = some (.ref a) ∧ PySem.W.keepIn K (.ref a) = true ∧ Binds K fd f.ps []
theorem At.mono {G : Gx} {j k : Nat} {f : FunIR} (h : At P w K mg base G j f) (l : j ≤ k) : At P w K mg base G k f :=
  let ⟨a, fd, F, r⟩ := h
  ⟨a, fd, F.mono l, r⟩
theorem fnG_ok {G : Gx} {gls : List (Str × Cst)} (B : Base G K mg base gls) {f : FunIR} {x qual : Str} {params : Arguments} {body : List Stmt} {scope : Scope} {kws : List (Str × V)} {k : Nat} {a : Addr} {fd : FuncData} (F : FunD K x qual params body scope [] kws a fd)
    (S : FnScope f.N f.ps scope) (hm : mSs ⟨f.N, gls⟩ scope f.body body = true) (hf : ∀ g ∈ callsSs f.body, At P w K mg base G k g) : FnG P w K mg base (L2.CX P w) (k + 1) a fd f.ps (spOf G f) := by
  obtain ⟨oc, od, dV, kV, doc, pm, an, cdv, ct, osl, rfl, lk, hcd, _, _⟩ := F.ex
  refine fnG_of lk hcd S (fun vs H Q E h => h.choose_spec.choose_spec.choose_spec.choose_spec.choose_spec.1) fun A outer s H vs Q E hr hgd hsp => ?_
  let X : Cx := cxOf (L2.CX P w) P w K mg base f.N qual scope a cdv A outer s H E
  have hx : X.xe = fun e s' => wpAny (model X.prog X.w) X.A (leaving X.env e) (fun _ s'' => L2.CX X.prog X.w X.outer X.H_0 X.s_0 E e s'') (fun e' s'' => L2.CX P w outer H s E e' s'') s' := rfl
  have C : CtxS ⟨f.N, gls⟩ X G (fun cls d _ H => E cls d H) :=
    ⟨⟨rfl, B.K, rfl, S.nd, by have := hr.un; show (A.deeper (envOfC qual scope s.heap.objs.size a cdv)).units + 200 < cLine; omega, hgd, B.sys, B.blt, B.gls, takes_of rfl rfl rfl hx⟩, passes_of hx, fun _ => rfl, S.kind⟩
  have hcalls : ∀ g ∈ callsSs f.body, CallOk X G g := fun g hg =>
    let ⟨a', fd', F', m', kp, b'⟩ := hf g hg
    ⟨k, a', fd', F', hr, m', kp, b'⟩
  have hps := mSs_ok (nk := asgns f.body) f.body C body hm hcalls fun i hi => hi
  refine ⟨_, hps, ?_⟩
  obtain ⟨fr, S0, as, Qd, Xd, l1, l2, sm, hsem, pq, px⟩ := hsp
  obtain ⟨name, ps, N, bd⟩ := f
  simp only [semF] at hsem
  obtain ⟨l3, hsem⟩ := hsem
  have l1' : vs.length = ps.length := l1
  obtain ⟨cov, sl⟩ := start_cov as vs (N.length - vs.length) l2
  have est : start N vs = vs.map some ++ List.replicate (N.length - vs.length) none := rfl
  have hsem2 : xss bd (as.map some ++ List.replicate (N.length - vs.length) none) { nx := fun Γ => Qd (.non, 0) (fins bd ps.length Γ), rt := fun r Γ => Qd r (fins bd ps.length Γ), bk := fun _ => False, ct := fun _ => False, ex := fun x Γ => Xd x (fins bd ps.length Γ) } := by
    rw [l1']; exact hsem
  -- the parameters' slots
  have fin : ∀ {σ' : St} {Γ' : Gm} {T : List Ent} {S' H' : Hp}, Cov Γ' σ' → Kp (asgns bd) (start N vs) σ' → Sim G S' H' (T ++ (fr ++ slots Γ' σ')) → Sim G S' H' (T ++ (slots (fins bd ps.length Γ') (vs.map some) ++ fr)) := by
    intro σ' Γ' T S' H' c kp s'
    have hlen : vs.length ≤ σ'.length := by rw [kp.1, est]; simp
    obtain ⟨l, p⟩ := fin_ok vs (fun i => (asgns bd).contains i) Γ' σ' c hlen fun i v e q => by
      have hn : i ∉ asgns bd := by simpa using q
      rw [kp.2 i hn, est]
      have hi : i < vs.length := (List.getElem?_eq_some_iff.mp e).1
      rw [List.getElem?_append_left (by simpa using hi), List.getElem?_map, e]
      rfl
    have e1 : fins bd ps.length Γ' = (List.range vs.length).map fun i => if (asgns bd).contains i = true then none else Γ'.getD i none := by
      unfold fins; rw [l1']
    rw [e1]
    have s2 := s'.perm (List.Perm.append_left T (List.Perm.append_left fr p))
    generalize slots ((List.range vs.length).map fun i => if (asgns bd).contains i = true then none else Γ'.getD i none) (vs.map some) = Z at s2 ⊢
    have s3 : Sim G S' H' (l ++ (T ++ (Z ++ fr))) := by
      refine s2.perm ?_
      have a1 : (T ++ (fr ++ (l ++ Z))).Perm (T ++ (l ++ (Z ++ fr))) := by
        refine List.Perm.append_left T ?_
        rw [← List.append_assoc l]
        exact List.perm_append_comm
      have a2 : (T ++ (l ++ (Z ++ fr))).Perm (l ++ (T ++ (Z ++ fr))) := by
        generalize Z ++ fr = Y
        rw [← List.append_assoc, ← List.append_assoc]
        exact List.Perm.append_right _ List.perm_append_comm
      exact a1.trans a2
    exact Sim.left (E := l) s3
  refine ⟨fr, _, S0, _, cov, ?_, hsem2, ?_⟩
  · show Sim G S0 H (fr ++ slots (as.map some ++ List.replicate (N.length - vs.length) none) (vs.map some ++ List.replicate (N.length - vs.length) none))
    rw [sl]
    exact sm.perm List.perm_append_comm
  · refine ⟨fun σ' S' H' Γ' c s' k' q => ?_, fun v σ' S' H' Γ' d kk c s' k' q => ?_, fun _ _ _ _ _ _ _ q => q, fun _ _ _ _ _ _ _ q => q, fun x cls dx σ' S' H' Γ' c s' k' r q => ?_⟩
    · have s2 := fin (T := []) c k' s'
      exact pq .non S' H' .non 0 (fins bd ps.length Γ') (by simp [fins, l1']) (Sim.add0 s2 (by simp only [Rep]) (.inl rfl)) q
    · exact pq v S' H' d kk (fins bd ps.length Γ') (by simp [fins, l1']) (fin (T := [(v, d, kk)]) c k' s') q
    · exact px x cls dx S' H' (fins bd ps.length Γ') (by simp [fins, l1']) (fin (T := []) c k' s') r q
end
end DL
namespace DL
open PySem PySem.Spec PyProof.Rows L2
/-! ### the law's end -/
def isDictO : Option Obj → Bool
  | some ⟨_, _, .dict _ _, _⟩ => true
  | _ => false
theorem isDictO_ok {o : Option Obj} (h : isDictO o = true) : ∃ u es n, o = some u ∧ u.data = .dict es n := by
  unfold isDictO at h
  split at h
  · exact ⟨_, _, _, rfl, rfl⟩
  · cases h
theorem law_callG {P : Program} {w : World} {K : PySem.W.Frag} {mg mb : Str → Option Value} {CX : CXT} {k : Nat} {fa a : Addr} {fd : FuncData} {x : Str} {sp : Sp} {s₁ : Shared} {vs : List Value} {ns : List Int}
    (KX : K.In s₁.heap) (hns : s₁.heap.Ns mainGlobals mg) (hb : s₁.heap.Ns builtinsNs mb) (hbb : ∀ x : Str, x ≠ "__name__" → mb x = bootBuiltins x) (hlim : s₁.heap.NoLimit) (hg : s₁.gens = #[])
    (hsy : isDictO (s₁.heap.get? sysModules) = true)
    (ha : s₁.heap.get? a = some { cls := .type "list", data := .seq vs.toArray }) (hi : IntsAre vs ns) (hl : ns.length ≤ sizeLine) (hr : Room k callerA)
    (F : ∀ base : Heap, K.In base → base.Ns mainGlobals mg → (∃ o, base.get? sysModules = some o) → FnG P w K mg base CX k fa fd [x] sp) (hbind : ∀ (s : Shared) (u : Value), BindsTo s fd ⟨[u], []⟩ [(x, u)])
    (hsp : ∀ H : Hp, Only H → SqL K H a (ns.map V.int) → sp [.ref a] H (fun v _ => v = .bl true) fun _ _ _ => False)
    (hCX : ∀ H e s', CX [] H s₁ (fun _ _ _ => False) e s' → False) :
    codeAny (model P w) callerA (.call (.ref fa) ⟨[.ref a], []⟩) (fun r s' => r = .ok (.ret (.bool true)) ∧ OldK s₁.heap s'.heap ∧ s'.os = s₁.os ∧ AllBare s'.gens) s₁ := by
  have rv := vals_ints hi
  have lenV := hi.length
  have core : ∀ H : Hp, Only H → SqL K H a (ns.map V.int) → HOk P w H s₁.heap → (∀ b, H b ≠ none → b = a) → (H a ≠ none → K.lookup a = none) →
      codeAny (model P w) callerA (.call (.ref fa) ⟨[.ref a], []⟩) (fun r s' => r = .ok (.ret (.bool true)) ∧ OldK s₁.heap s'.heap ∧ s'.os = s₁.os ∧ AllBare s'.gens) s₁ := by
    intro H hO hS hok hA hK
    have base_of : ∀ {b : Addr} {o : Obj}, s₁.heap.get? b = some o → H b = none → (hidT s₁.heap H).get? b = some o := fun e n => hidT_get e n
    have noA : ∀ {b : Addr} {o : Obj} {es : Array DictEntry} {ep : Nat}, s₁.heap.get? b = some o → o.data = .dict es ep → H b = none := fun {b o es ep} e d => by
      cases q : H b with
      | none => rfl
      | some u =>
        have e' : b = a := hA b (by rw [q]; simp)
        subst e'
        rw [ha] at e; cases e
        have d' : Data.seq vs.toArray _ = Data.dict es ep := d
        cases d'
    have nsK : ∀ {b : Addr} {m : Str → Option Value}, s₁.heap.Ns b m → (hidT s₁.heap H).Ns b m := fun {b m} ⟨o, es, ep, e, d, r⟩ => ⟨o, es, ep, base_of e (noA e d), d, r⟩
    have hKb : K.In (hidT s₁.heap H) := fun b o e => base_of (KX b o e) (by
      cases q : H b with
      | none => rfl
      | some u =>
        have e' : b = a := hA b (by rw [q]; simp)
        subst e'
        rw [hK (by rw [q]; simp)] at e; cases e)
    have hM : Mod K mg (hidT s₁.heap H) := ⟨hKb, nsK hns, ⟨mb, nsK hb, hbb⟩, let ⟨mc, h1, h2⟩ := hlim; ⟨mc, nsK h1, h2⟩⟩
    have e0 : Env0 P w K mg (hidT s₁.heap H) callerA [] s₁ H := ⟨rfl, hM, fun b o e => of_hidT e, Nat.le_of_eq (hidT_size _ _), trivial, fun b hb => absurd (show b ∈ ([] : List Addr) from hb) (by simp), hok, .of_eq hg⟩
    have hs0 : ∃ o, (hidT s₁.heap H).get? sysModules = some o := by
      obtain ⟨u, es, n, e, d⟩ := isDictO_ok hsy
      exact ⟨u, base_of e (noA e d)⟩
    refine codeAny_mono ((F _ hKb (nsK hns) hs0).run callerA [] s₁ H ⟨[.ref a], []⟩ [.ref a] [.ref a] _ _ hr rfl e0 (hbind s₁ (.ref a)) (.cons rfl .nil) (hsp H hO hS)) fun r s' h => ?_
    cases r with
    | error e => exact (hCX H e s' h).elim
    | ok fl =>
      cases fl with
      | next => exact False.elim h
      | brk => exact False.elim h
      | cont => exact False.elim h
      | ret u =>
        obtain ⟨v, H', os, bare, un, hok', r', q⟩ := h
        have q' : v = .bl true := q
        subst q'
        obtain rfl : u = Value.bool true := r'
        refine ⟨rfl, OldK.of_keep fun b o e => ?_, os, bare⟩
        cases q : H b with
        | none => exact un.keep b o e q (by intro z; exact absurd (show b ∈ ([] : List Addr) from z) (by simp)) (by simp)
        | some u =>
          rcases hO b with z | ⟨ob, xs, z⟩
          · rw [q] at z; cases z
          · have z2 := un.frzs b ob _ z
            obtain ⟨e1, _⟩ := hok b _ z
            obtain ⟨e2, _⟩ := hok' b _ z2
            rw [e] at e1; cases e1
            exact e2
  cases hk : K.lookup a with
  | some o =>
    have e := KX a o hk
    rw [ha] at e
    cases e
    refine core (fun _ => none) (fun _ => .inl rfl) (.inr ⟨_, vs.toArray, _, hk, rfl, rfl, rfl, by rw [List.size_toArray, lenV]; exact hl, by simpa using rv⟩) (fun b u z => by have z' : (none : Option HO) = some u := z; cases z') (fun b z => absurd rfl z) fun z => absurd rfl z
  | none =>
    refine core (fun b => if b = a then some (.frz { cls := .type "list", data := .seq vs.toArray } (.lst (ns.map V.int))) else none) (fun b => ?_) (.inl (.inr ⟨{ cls := .type "list", data := .seq vs.toArray }, if_pos rfl⟩)) (fun b u z => ?_) (fun b z => ?_) fun _ => hk
    · by_cases hb : b = a
      · exact .inr ⟨_, _, if_pos hb⟩
      · exact .inl (if_neg hb)
    · by_cases hb : b = a
      · have z' := (if_pos hb).symm.trans z
        cases z'
        subst hb
        exact ⟨ha, by rw [List.length_map]; exact hl, vs, _, rv, ha⟩
      · have z' := (if_neg hb).symm.trans z
        cases z'
    · by_cases hb : b = a
      · exact hb
      · exact absurd (if_neg hb) z
/-- a tuple of texts that the module's name x stands for -/
def tupIn (K : PySem.W.Frag) (p : Str × List Str) : Bool := match PySem.W.nsIn K mainGlobals p.1 with
  | some (some (.ref a)) => (match K.lookup a with
    | some ⟨.type T, _, .seq its _, _⟩ => decide (T = "tuple") && (decide (its.size ≤ sizeLine) && He.relAll (p.2.map V.str) its.toList)
    | _ => false)
  | _ => false
theorem repL_strs2 {G : Gx} {S : Hp} : ∀ zs : List Str, RepL G S (zs.map D.str) (zs.map V.str)
  | [] => RepL.nil
  | z :: zs => RepL.cons (by simp only [Rep]) (repL_strs2 zs)
theorem tupIn_ok {K : PySem.W.Frag} {h : Heap} {mg : Str → Option Value} (X : K.In h) (N : h.Ns mainGlobals mg) {x : Str} {zs : List Str} (c : tupIn K (x, zs) = true) {G : Gx} (hG : G.K = K) :
    ∃ v u, mg x = some u ∧ RelV v u ∧ ∀ S, Rep G S (Cst.tup zs).d v := by
  unfold tupIn at c
  split at c
  · rename_i a e
    split at c
    · rename_i T dd its n sl e2
      obtain ⟨c1, c⟩ := He.ba c
      obtain ⟨c2, c3⟩ := He.ba c
      have c1 := of_decide_eq_true c1
      subst c1
      refine ⟨.ref a, .ref a, PySem.W.mg_of X N e, rfl, fun S => ?_⟩
      simp only [Cst.d, Rep]
      exact ⟨a, zs.map V.str, rfl, by rw [hG]; exact .inr ⟨_, its, n, e2, rfl, rfl, of_decide_eq_true c2, He.relAll_ok c3⟩, repL_strs2 zs⟩
    · cases c
  · cases c
/-- the head's facts, those of global tuples, and that the modules' dict stands -/
def hookS (n : Nat) (fa : List He.Fa) (fn : List He.DefD) (tp : List (Str × List Str)) : PySem.W.Hook where
  α := He.AlD × (Bool × Bool)
  obs := fun s => (He.obsDG n fa fn s.heap.get?, (isDictO (s.heap.get? sysModules), tp.all (tupIn (He.frG s.heap.get? (He.asD s.heap.get? n)))))
  val := fun _ => (He.valD fn, (true, true))
  says := fun _ h => (∃ K : PySem.W.Frag, K.In h ∧ He.SaysD fa fn K ∧ tp.all (tupIn K) = true) ∧ isDictO (h.get? sysModules) = true
  of := fun _ _ e => ⟨⟨_, He.frG_in, congrArg Prod.fst e, congrArg (fun z => z.2.2) e⟩, congrArg (fun z => z.2.1) e⟩
  keeps := fun _ _ _ ⟨⟨K, hK, c⟩, d⟩ k => ⟨⟨K, PySem.W.Frag.In.keeps hK k, c⟩, by
    obtain ⟨u, es, n, e, dd⟩ := isDictO_ok d
    rw [k _ _ e]
    rw [e] at d
    exact d⟩
theorem sp_law {G : Gx} {f : FunIR} {ns : List Int} {H : Hp} {a : Addr} (hps : f.ps.length = 1) (hO : Only H) (hS : SqL G.K H a (ns.map V.int)) (h : semF f [(.scr ns, 0)] (fun r _ => r.1 = .bl true) (fun _ _ => False)) :
    spOf G f [.ref a] H (fun v _ => v = .bl true) fun _ _ _ => False := by
  refine ⟨[], H, [(.scr ns, 0)], _, _, by rw [hps]; rfl, rfl, ?_, h, fun v S' H' d k fs _ s q => ?_, fun _ _ _ _ _ _ _ _ _ q => q⟩
  · refine ⟨Sub.refl H, [], ?_, by simp, fun a ha => by simp at ha⟩
    exact ⟨[], [], rfl, ⟨rfl, by simp only [Rep]; exact ⟨a, rfl, hS⟩⟩, rfl⟩
  · have q : d = .bl true := q
    have r := s.rep
    rw [q] at r
    simpa only [Rep] using r
theorem walk_G {l : PySem.W.OpenLaw} {n k : Nat} {q : Program} {loose : List Str} {XP : (Str → Option Value) → Heap → Prop} {YP : World → Heap → Prop} {d : DefRec} {CX : World → CXT} {x : Str}
    (hn : l.most = some n) (hn2 : n ≤ sizeLine) (hdf : d.params.defaults = []) (hr : Room k callerA)
    (F : ∀ (w : World) (mg : Str → Option Value) (fa : Addr) (h : Heap), YP w h → h.Ns mainGlobals mg → mg d.name = some (.ref fa) →
      ∃ (K : PySem.W.Frag) (fd : FuncData) (sp : Sp), K.In h ∧ isDictO (h.get? sysModules) = true ∧ (∀ (s : Shared) (u : Value), BindsTo s fd ⟨[u], []⟩ [(x, u)]) ∧
        (∀ (H : Hp) (a : Addr) (ns : List Int), ns.length ≤ n → Only H → SqL K H a (ns.map V.int) → sp [.ref a] H (fun v _ => v = .bl true) fun _ _ _ => False) ∧
        ∀ base : Heap, K.In base → base.Ns mainGlobals mg → (∃ o, base.get? sysModules = some o) → FnG l.prog w K mg base (CX w) k fa fd [x] sp)
    (hCX : ∀ (w : World) (H : Hp) (s : Shared) (e : Value) (s' : Shared), CX w [] H s (fun _ _ _ => False) e s' → False) :
    PySem.W.WalkO q loose XP YP l.row.toRowW d [] (fun f vs => PySem.call f vs) := by
  refine Att.attach_call hn hdf fun w s₀ s₁ mg mb fa o pm cd doc a vs ns G Y ho hd hcd hmg hobj hints hlen hg => ?_
  obtain ⟨K, fd, sp, KX, hsy, hb, hsp, hF⟩ := F w mg fa _ Y G.T.g hmg
  exact law_callG KX G.T.g G.T.b G.T.builtins G.T.nolimit hg hsy hobj hints (Nat.le_trans hlen hn2) hr hF hb (fun H hO hS => hsp H a ns hlen hO hS) fun H e s' => hCX w H s₁ e s'
end DL
namespace DL
open PySem PySem.Spec PyProof.Rows L2
/-! ### running on data: one row an operation -/
section
variable {a b n i : Int} {x y : Str} {xs ys ds : List D} {d : D} {p q : Bool} {k : Nat}
@[simp] theorem o_addI : opD .add [.int a, .int b] = some (.int (a + b), 0) := rfl
@[simp] theorem o_addS : opD .add [.str x, .str y] = if x.length + y.length ≤ lim then some (.str (x ++ y), 0) else none := rfl
@[simp] theorem o_addL : opD .add [.lst xs, .lst ys] = if xs.length + ys.length ≤ lim then some (.lst (xs ++ ys), 1) else none := rfl
@[simp] theorem o_addT : opD .add [.tup xs, .tup ys] = if xs.length + ys.length ≤ lim then some (.tup (xs ++ ys), 0) else none := rfl
@[simp] theorem o_sub : opD .sub [.int a, .int b] = some (.int (a - b), 0) := rfl
@[simp] theorem o_mulI : opD .mul [.int a, .int b] = if (-18446744073709551616 < a ∧ a < 18446744073709551616) ∨ (-18446744073709551616 < b ∧ b < 18446744073709551616) then some (.int (a * b), 0) else none := rfl
@[simp] theorem o_mulL : opD .mul [.lst xs, .int n] = if xs.length * n.toNat ≤ lim ∧ -9223372036854775808 ≤ n ∧ n < 9223372036854775808 then some (.lst (List.replicate n.toNat xs).flatten, 1) else none := rfl
@[simp] theorem o_mulS : opD .mul [.str x, .int n] = if x.length * n.toNat ≤ lim ∧ 0 ≤ n ∧ n ≤ 1000000 then some (.str ⟨((List.replicate n.toNat x.cps.toList).flatten).toArray⟩, 0) else none := rfl
@[simp] theorem o_mod : opD .mod [.int a, .int b] = if 0 < b then some (.int (a % b), 0) else none := rfl
@[simp] theorem o_fdiv : opD .fdiv [.int a, .int b] = if 0 < b ∧ b < 1073741824 then some (.int (a / b), 0) else none := rfl
@[simp] theorem o_pow : opD .pow [.int a, .int b] = if 0 ≤ b ∧ b ≤ 1000000 ∧ a.natAbs < 18446744073709551616 then some (.int (a ^ b.toNat), 0) else none := rfl
@[simp] theorem o_neg : opD .neg [.int a] = some (.int (-a), 0) := rfl
@[simp] theorem o_eqI : opD .eq [.int a, .int b] = some (.bl (a == b), 0) := by simp [opD, opEq, hgt, eqD]
@[simp] theorem o_neI : opD .ne [.int a, .int b] = some (.bl (!(a == b)), 0) := by simp [opD, opNe, hgt, eqD]
@[simp] theorem o_eqS : opD .eq [.str x, .str y] = some (.bl (x == y), 0) := by simp [opD, opEq, hgt, eqD]
@[simp] theorem o_neS : opD .ne [.str x, .str y] = some (.bl (!(x == y)), 0) := by simp [opD, opNe, hgt, eqD]
theorem o_eq {e : D} (h : hgt d ≤ 64) : opD .eq [d, e] = (eqD d e).map fun r => (.bl r, 0) := by simp [opD, opEq, h]
theorem o_ne {e : D} (h : hgt d ≤ 64) : opD .ne [d, e] = (eqD d e).map fun r => (.bl (!r), 0) := by simp [opD, opNe, h]
@[simp] theorem o_lt : opD .lt [.int a, .int b] = some (.bl (decide (a < b)), 0) := rfl
@[simp] theorem o_le : opD .le [.int a, .int b] = some (.bl (decide (a ≤ b)), 0) := rfl
@[simp] theorem o_gt : opD .gt [.int a, .int b] = some (.bl (decide (b < a)), 0) := rfl
@[simp] theorem o_ge : opD .ge [.int a, .int b] = some (.bl (decide (b ≤ a)), 0) := rfl
@[simp] theorem o_isN : opD .isN [d] = some (.bl (isNonD d), 0) := rfl
@[simp] theorem o_notN : opD .notN [d] = some (.bl (!isNonD d), 0) := rfl
@[simp] theorem o_lenL : opD .len [.lst xs] = some (.int xs.length, 0) := rfl
@[simp] theorem o_lenT : opD .len [.tup xs] = some (.int xs.length, 0) := rfl
@[simp] theorem o_lenS : opD .len [.str x] = if x.length ≤ lim then some (.int x.length, 0) else none := rfl
@[simp] theorem o_abs : opD .abs [.int a] = some (.int (if a < 0 then -a else a), 0) := rfl
@[simp] theorem o_intI : opD .int [.int a] = some (.int a, 0) := rfl
@[simp] theorem o_intB : opD .int [.bl p] = some (.int (if p then 1 else 0), 0) := rfl
@[simp] theorem o_listL : opD .list [.lst xs] = some (.lst xs, 1) := rfl
@[simp] theorem o_listT : opD .list [.tup xs] = some (.lst xs, 1) := rfl
@[simp] theorem o_tupleL : opD .tuple [.lst xs] = some (.tup xs, 0) := rfl
@[simp] theorem o_tupleT : opD .tuple [.tup xs] = some (.tup xs, 0) := rfl
@[simp] theorem o_isin {tys : List String} : opD (.isin tys) [d] = (tyD d).map fun t => (.bl (tys.any (isTy t)), 0) := rfl
@[simp] theorem o_idxL : opD .idx [.lst xs, .int i] = (atI xs i).map fun d => (d, 0) := rfl
@[simp] theorem o_idxT : opD .idx [.tup xs, .int i] = (atI xs i).map fun d => (d, 0) := rfl
@[simp] theorem o_idxS : opD .idx [.str x, .int i] = if x.length ≤ lim then (atI x.cps.toList i).map fun c => (.str ⟨#[c]⟩, 0) else none := rfl
@[simp] theorem o_slT {e : D} : opD (.sl true false) [e, .int i] = sl1D (some i) none e := rfl
@[simp] theorem o_slF {e : D} : opD (.sl false true) [e, .int i] = sl1D none (some i) e := rfl
@[simp] theorem o_slB {e : D} {j : Int} : opD (.sl true true) [e, .int i, .int j] = sl1D (some i) (some j) e := rfl
@[simp] theorem o_slN {e : D} : opD (.sl false false) [e] = sl1D none none e := rfl
@[simp] theorem o_tup : opD .tup ds = if ds.length ≤ lim then some (.tup ds, 0) else none := rfl
@[simp] theorem o_dict0 : opD .dict [] = some (.dK [], 1) := rfl
end
@[simp] theorem q_f {Q : DK → Gm → Prop} : finQ false Q = Q := rfl
theorem q_t {Q : DK → Gm → Prop} {r : DK} {Γ : Gm} : finQ true Q r Γ = match truth r.1 with
    | some b => Q (.bl b, 0) Γ
    | none => False := rfl
@[simp] theorem q_tb {Q : DK → Gm → Prop} {b : Bool} {k : Nat} {Γ : Gm} : finQ true Q (.bl b, k) Γ = Q (.bl b, 0) Γ := rfl
@[simp] theorem asB_b {Q : Bool → Gm → Prop} {b : Bool} {k : Nat} {Γ : Gm} : asB Q (.bl b, k) Γ = Q b Γ := rfl
@[simp] theorem g_0 {x : Option DK} {Γ : Gm} : List.getD (x :: Γ) 0 none = x := rfl
@[simp] theorem g_s {x : Option DK} {Γ : Gm} {n : Nat} : List.getD (x :: Γ) (n + 1) none = List.getD Γ n none := rfl
section
variable {xs : List D} {b : Bool} {i : Int} {x : Str} {kvs : List (Key × D)} {kvt : List (List Key × D)} {fs : List (Str × D)} {ns : List Int}
@[simp] theorem at_lst : atom (.lst xs) = false := rfl
@[simp] theorem at_tup : atom (.tup xs) = true := rfl
@[simp] theorem at_non : atom .non = true := rfl
@[simp] theorem at_bl : atom (.bl b) = true := rfl
@[simp] theorem at_int : atom (.int i) = true := rfl
@[simp] theorem at_str : atom (.str x) = true := rfl
@[simp] theorem at_scr : atom (.scr ns) = true := rfl
@[simp] theorem at_dK : atom (.dK kvs) = false := rfl
@[simp] theorem at_dT : atom (.dT kvt) = false := rfl
@[simp] theorem at_obj : atom (.obj x fs) = false := rfl
@[simp] theorem ty_lst : tyD (.lst xs) = some "list" := rfl
@[simp] theorem ty_tup : tyD (.tup xs) = some "tuple" := rfl
@[simp] theorem ty_non : tyD .non = some "NoneType" := rfl
@[simp] theorem ty_bl : tyD (.bl b) = some "bool" := rfl
@[simp] theorem ty_int : tyD (.int i) = some "int" := rfl
@[simp] theorem ty_str : tyD (.str x) = some "str" := rfl
@[simp] theorem ty_dK : tyD (.dK kvs) = some "dict" := rfl
@[simp] theorem tr_bl : truth (.bl b) = some b := rfl
@[simp] theorem tr_int : truth (.int i) = some (i != 0) := rfl
@[simp] theorem tr_non : truth .non = some false := rfl
@[simp] theorem sl_lst {l h : Option Int} : sl1D l h (.lst xs) = some (.lst (cutG xs l h), 1) := rfl
@[simp] theorem sl_tup {l h : Option Int} : sl1D l h (.tup xs) = some (.tup (cutG xs l h), 0) := rfl
@[simp] theorem sl_scr {l h : Option Int} : sl1D l h (.scr ns) = some (.lst ((cutG ns l h).map .int), 1) := rfl
@[simp] theorem sl_str {l h : Option Int} : sl1D l h (.str x) = if x.length ≤ lim then some (.str (cutS x l h), 0) else none := rfl
@[simp] theorem il_lst {k : Nat} : isLst (some (.lst xs, k)) = true := rfl
@[simp] theorem set_lst {k j : Nat} {d : D} : setD (.lst xs, k + 1) (.int i) (d, j) = (ixN xs.length i).map fun n => (.lst (xs.set n d), 1) := rfl
@[simp] theorem set_lst1 {j : Nat} {d : D} : setD (.lst xs, 1) (.int i) (d, j) = (ixN xs.length i).map fun n => (.lst (xs.set n d), 1) := rfl
@[simp] theorem mut_app {j : Nat} {d : D} : mutD .append (.lst xs, 1) [(d, j)] = if xs.length < lim then some (.lst (xs ++ [d]), 1) else none := rfl
@[simp] theorem mut_ins {j j0 : Nat} {d : D} : mutD .insert (.lst xs, 1) [(.int i, j0), (d, j)] = if xs.length < lim ∧ 0 ≤ i ∧ i < 9223372036854775808 then some (.lst (xs.take i.toNat ++ [d] ++ xs.drop i.toNat), 1) else none := rfl
end
@[simp] theorem st_o : Op.st .tup = true ∧ Op.st .dict = true := ⟨rfl, rfl⟩
end DL
namespace DL
open PySem PySem.Spec PyProof.Rows L2
def f_is_integer : FunIR := .mk "is_integer" ["thing"] ["thing"] [
  .ret (.and [.op (.isin ["int"]) [.var 0 false], .not (.op (.isin ["bool"]) [.var 0 false])])]
def f_is_name : FunIR := .mk "is_name" ["thing"] ["thing", "sign"] [
  .ite (.or [.not (.op (.isin ["str"]) [.var 0 false]), .not (.chain .lt .le (.cst (.int 0)) (.op .len [.var 0 false]) (.glob "LONGEST" (.int 8)))]) [.ret (.cst (.bl false))] [],
  .ret (.op .all [.comp [1] (.name 1) .seq [.var 0 false] [] (.op .inn [.var 1 false, .glob "LETTERS" (.str "abcdefghijklmnopqrstuvwxyz")])])]
def f_is_arrow : FunIR := .mk "is_arrow" ["thing"] ["thing", "one"] [
  .ret (.and [.op (.isin ["tuple"]) [.var 0 false], .op .eq [.op .len [.var 0 false], .cst (.int 3)], .op .all [.comp [1] (.name 1) .seq [.var 0 false] [] (.call f_is_name [.var 1 false])]])]
def f_is_bar : FunIR := .mk "is_bar" ["thing"] ["thing", "one"] [
  .ite (.or [.not (.op (.isin ["tuple"]) [.var 0 false]), .op .ne [.op .len [.var 0 false], .cst (.int 4)]]) [.ret (.cst (.bl false))] [],
  .ret (.and [.op .all [.comp [1] (.name 1) .seq [.var 0 false] [] (.call f_is_name [.var 1 false])], .op .inn [.op .idx [.var 0 false, .cst (.int 0)], .op .tup [.cst (.str "take"), .cst (.str "give")]]])]
def f__law_bag : FunIR := .mk "_law_bag" ["_law_script"] ["_law_script", "_law_cell"] [
  .ret (.lst [.cst (.int 0), .cst (.int 1234567891), .cst (.int 0), .comp [1] (.name 1) .seq [.op (.sl false true) [.var 0 false, .cst (.int 63)]] [] (.op .abs [.var 1 false])])]
def f__law_take : FunIR := .mk "_law_take" ["_law_bag_here", "_law_many"] ["_law_bag_here", "_law_many", "_law_cell", "_law_stirred", "_law_value", "_law_begin", "_law_second"] [
  .ite (.op .eq [.op .idx [.bor 0, .cst (.int 0)], .cst (.int 0)]) [.asg 2 (.op .idx [.op .add [.op (.sl true false) [.op .idx [.bor 0, .cst (.int 3)], .op .idx [.bor 0, .cst (.int 2)]], .lst [.cst (.int 0)]], .cst (.int 0)]), .augI 0 (.cst (.int 2)) .add (.cst (.int 1)), .ite (.op .ge [.var 2 false, .cst (.int 1000000000000000000)]) [.setI 0 (.cst (.int 0)) (.var 2 false)] [], .asg 3 (.op .add [.op .add [.op .mul [.op .idx [.bor 0, .cst (.int 1)], .cst (.int 48271)], .op .mod [.op .int [.var 2 false], .cst (.int 2147483647)]], .op .mul [.cst (.int 7919), .op .idx [.bor 0, .cst (.int 2)]]]), .setI 0 (.cst (.int 1)) (.op .mod [.op .int [.var 3 false], .cst (.int 2147483647)])] [],
  .ite (.op .gt [.op .idx [.bor 0, .cst (.int 0)], .cst (.int 0)]) [.asg 4 (.op .mod [.op .int [.op .idx [.bor 0, .cst (.int 0)]], .var 1 false]), .setI 0 (.cst (.int 0)) (.op .fdiv [.op .idx [.bor 0, .cst (.int 0)], .var 1 false]), .ret (.var 4 false)] [],
  .asg 5 (.op .mod [.op .int [.op .mul [.op .add [.op .idx [.bor 0, .cst (.int 1)], .cst (.int 1)], .cst (.int 39373)]], .cst (.int 1000000007)]),
  .asg 6 (.op .mod [.op .int [.op .mul [.op .mod [.op .int [.op .mul [.var 5 false, .var 5 false]], .cst (.int 998244353)], .cst (.int 30011)]], .cst (.int 998244353)]),
  .ret (.op .mod [.op .int [.op .fdiv [.var 6 false, .cst (.int 7)]], .var 1 false])]
def f__law_alike : FunIR := .mk "_law_alike" ["_law_found", "_law_due"] ["_law_found", "_law_due"] [
  .ret (.and [.op .eq [.var 0 false, .var 1 false], .op .eq [.op .repr [.var 0 false], .op .repr [.var 1 false]]])]
def f__law_some : FunIR := .mk "_law_some" ["_law_bag_here", "_law_things"] ["_law_bag_here", "_law_things"] [
  .ret (.op .idx [.var 1 false, .call f__law_take [.loan 0, .op .len [.var 1 false]]])]
def f__law_mixed : FunIR := .mk "_law_mixed" ["_law_bag_here", "_law_things"] ["_law_bag_here", "_law_things", "_law_found", "_law_thing"] [
  .asg 2 (.lst []),
  .loop (.name 3) .seq [.var 1 false] [.mut 2 .insert [.call f__law_take [.loan 0, .op .add [.op .len [.bor 2], .cst (.int 1)]], .var 3 false]],
  .ret (.var 2 true)]
def f__law_words : FunIR := .mk "_law_words" ["_law_bag_here", "_law_many"] ["_law_bag_here", "_law_many", "_law_menu", "_law_at", "_law_found", "_law_letters", "_law_some_here", "_law_stem", "_law_k", "_law_begin", "_law_letter", "_law_word"] [
  .asg 2 (.op .split [.str1 (.cst (.str "a b take give aa person thing read make zzzzzzzz z drop write bare makes ab q bar actor")), .cst (.str " ")]),
  .asgs [3, 4, 5] [.call f__law_take [.loan 0, .cst (.int 19)], .lst [], .cst (.str "abcdefghijklmnopqrstuvwxyz")],
  .asg 6 (.op (.sl true true) [.op .add [.var 2 false, .var 2 false], .int1 (.var 3 false), .op .add [.op .add [.var 3 false, .var 1 false], .cst (.int 2)]]),
  .ite (.op .eq [.call f__law_take [.loan 0, .cst (.int 4)], .cst (.int 0)]) [.asg 7 (.op .join [.str1 (.cst (.str "")), .comp [8] (.name 8) .range [.call f__law_take [.loan 0, .cst (.int 7)]] [] (.op .idx [.var 5 false, .call f__law_take [.loan 0, .cst (.int 26)]])]), .asg 9 (.call f__law_take [.loan 0, .cst (.int 26)]), .asg 6 (.comp [10] (.name 10) .seq [.op (.sl true true) [.op .add [.var 5 false, .var 5 false], .int1 (.var 9 false), .op .add [.var 9 false, .var 1 false]]] [] (.op .add [.var 7 false, .var 10 false]))] [],
  .loop (.name 11) .seq [.call f__law_mixed [.loan 0, .var 6 false]] [.asg 4 (.op .add [.var 4 false, .op .mul [.lst [.var 11 false], .op .int [.op .notin [.var 11 false, .var 4 false]]]])],
  .ret (.op (.sl false true) [.var 4 false, .var 1 false])]
def f__law_is_name : FunIR := .mk "_law_is_name" ["_law_thing"] ["_law_thing", "_law_sign"] [
  .ite (.or [.not (.op (.isin ["str"]) [.var 0 false]), .not (.chain .lt .lt (.cst (.int 0)) (.op .len [.var 0 false]) (.cst (.int 9)))]) [.ret (.cst (.bl false))] [],
  .ret (.op .eq [.comp [1] (.name 1) .seq [.var 0 false] [.op .notin [.var 1 false, .cst (.str "abcdefghijklmnopqrstuvwxyz")]] (.var 1 false), .lst []])]
def f__law_is_whole : FunIR := .mk "_law_is_whole" ["_law_thing"] ["_law_thing"] [
  .ret (.and [.op (.isin ["int"]) [.var 0 false], .not (.op (.isin ["bool"]) [.var 0 false])])]
def f__law_nested : FunIR := .mk "_law_nested" ["_law_many"] ["_law_many", "_law_found", "_law_k"] [
  .asg 1 (.lst []),
  .loop (.name 2) .range [.var 0 false] [.asg 1 (.lst [.var 1 false])],
  .ret (.var 1 false)]
def f__law_odd : FunIR := .mk "_law_odd" ["_law_bag_here"] ["_law_bag_here", "_law_some_here"] [
  .asg 1 (.lst [.cst (.non), .cst (.bl true), .cst (.bl false), .cst (.int 0), .cst (.int 1), .op .neg [.cst (.int 1)], .op .pow [.cst (.int 10), .cst (.int 39)], .cst (.str ""), .cst (.str "a"), .cst (.str "A"), .cst (.str "ninesigns"), .cst (.str "a b"), .cst (.str "+a"), .cst (.str "*"), .lst [], .op .dict [], .op .tup [], .lst [.cst (.str "a")]]),
  .asg 1 (.op .add [.var 1 false, .lst [.op .tup [.cst (.str "a"), .cst (.str "use"), .cst (.str "z")], .lst [.cst (.str "a"), .cst (.str "use"), .cst (.str "z")], .op .tup [.cst (.str "a"), .cst (.str "use")], .op .tup [.cst (.str "a"), .cst (.str "use"), .cst (.str "z"), .cst (.str "z")], .op .tup [.cst (.str "a"), .cst (.str ""), .cst (.str "z")]]]),
  .asg 1 (.op .add [.var 1 false, .lst [.op .tup [.cst (.str "drop"), .cst (.str "a"), .cst (.str "use"), .cst (.str "z")], .op .tup [.cst (.str "read"), .cst (.str "a"), .cst (.str "b")], .op .tup [.cst (.str "make"), .cst (.str "a"), .cst (.str "n"), .cst (.str "box"), .op .tup []], .op .dict [.cst (.str "a"), .cst (.int 0)], .op .tup [.cst (.str "take")]]]),
  .asg 1 (.op .add [.var 1 false, .lst [.call f__law_nested [.cst (.int 12)], .op .mul [.lst [.cst (.int 0)], .cst (.int 300)], .op .tup [.cst (.str "give"), .cst (.str "a"), .cst (.str "use"), .cst (.str "z")], .cst (.str "take"), .op .tup [.cst (.str "+a"), .cst (.str "*"), .cst (.str "+b")], .op .tup [.cst (.int 0), .cst (.int 1), .cst (.int 2)]]]),
  .asg 1 (.op .add [.var 1 false, .lst [.op .tup [.cst (.str "a"), .lst [.cst (.str "use")], .cst (.str "z")], .op .tup [.cst (.str "a"), .op .dict [], .cst (.str "z")]]]),
  .ret (.call f__law_some [.loan 0, .var 1 false])]
def f__law_signs : FunIR := .mk "_law_signs" ["_law_bag_here", "_law_word"] ["_law_bag_here", "_law_word", "_law_signs_here", "_law_at", "_law_sign", "_law_found"] [
  .asg 2 (.op .add [.cst (.str " !#$&'()*+,-./0123456789:;<=>?@ABCXYZ[]^_`abcxyz{|}~"), .cst (.str "\n")]),
  .asgs [3, 4] [.call f__law_take [.loan 0, .op .add [.op .len [.var 1 false], .cst (.int 1)]], .call f__law_some [.loan 0, .var 2 false]],
  .asg 5 (.lst [.op .add [.op .add [.op (.sl false true) [.var 1 false, .var 3 false], .var 4 false], .op (.sl true false) [.var 1 false, .var 3 false]], .op .add [.op .add [.op (.sl false true) [.var 1 false, .var 3 false], .var 4 false], .op (.sl true false) [.var 1 false, .op .add [.var 3 false, .cst (.int 1)]]]]),
  .ret (.call f__law_some [.loan 0, .op .add [.var 5 false, .lst [.op (.sl false true) [.op .mul [.var 1 false, .cst (.int 9)], .cst (.int 9)], .op (.sl false true) [.op .mul [.var 1 false, .cst (.int 8)], .cst (.int 8)]]]])]
def f__law_is_an_arrow : FunIR := .mk "_law_is_an_arrow" ["_law_thing"] ["_law_thing", "_law_one"] [
  .ret (.and [.op (.isin ["tuple"]) [.var 0 false], .op .eq [.op .len [.var 0 false], .cst (.int 3)], .op .eq [.comp [1] (.name 1) .seq [.var 0 false] [.not (.call f__law_is_name [.var 1 false])] (.var 1 false), .lst []]])]
def f__law_is_a_bar : FunIR := .mk "_law_is_a_bar" ["_law_thing"] ["_law_thing", "_law_one"] [
  .ite (.or [.not (.op (.isin ["tuple"]) [.var 0 false]), .op .ne [.op .len [.var 0 false], .cst (.int 4)], .op .ne [.comp [1] (.name 1) .seq [.var 0 false] [.not (.call f__law_is_name [.var 1 false])] (.var 1 false), .lst []]]) [.ret (.cst (.bl false))] [],
  .ret (.op .inn [.op .idx [.var 0 false, .cst (.int 0)], .op .tup [.cst (.str "take"), .cst (.str "give")]])]
def f__law_bent : FunIR := .mk "_law_bent" ["_law_bag_here", "_law_thing", "_law_names"] ["_law_bag_here", "_law_thing", "_law_names", "_law_at", "_law_way", "_law_part"] [
  .asgs [3, 4] [.call f__law_take [.loan 0, .op .len [.var 1 false]], .call f__law_take [.loan 0, .cst (.int 7)]],
  .ite (.op .eq [.var 4 false, .cst (.int 0)]) [.ret (.op .add [.op (.sl false true) [.var 1 false, .var 3 false], .op (.sl true false) [.var 1 false, .op .add [.var 3 false, .cst (.int 1)]]])] [],
  .ite (.op .eq [.var 4 false, .cst (.int 1)]) [.ret (.op .add [.op .add [.op (.sl false true) [.var 1 false, .var 3 false], .op .tup [.op .idx [.var 1 false, .var 3 false]]], .op (.sl true false) [.var 1 false, .var 3 false]])] [],
  .ite (.op .eq [.var 4 false, .cst (.int 2)]) [.ret (.op .list [.var 1 false])] [],
  .asg 5 (.op .idx [.lst [.call f__law_odd [.loan 0], .call f__law_signs [.loan 0, .op .idx [.var 1 false, .var 3 false]], .call f__law_some [.loan 0, .var 2 false], .op .idx [.var 1 false, .var 3 false]], .op .sub [.var 4 false, .cst (.int 3)]]),
  .ret (.op .add [.op .add [.op (.sl false true) [.var 1 false, .var 3 false], .op .tup [.var 5 false]], .op (.sl true false) [.var 1 false, .op .add [.var 3 false, .cst (.int 1)]]])]
def f_has_make_form : FunIR := .mk "has_make_form" ["thing"] ["thing", "right"] [
  .ite (.or [.not (.call f_is_name [.op .idx [.var 0 false, .cst (.int 1)]]), .not (.call f_is_name [.op .idx [.var 0 false, .cst (.int 2)]]), .op .notin [.op .idx [.var 0 false, .cst (.int 3)], .glob "KINDS" (.tup ["person", "thing"])]]) [.ret (.cst (.bl false))] [],
  .ret (.and [.op (.isin ["tuple"]) [.op .idx [.var 0 false, .cst (.int 4)]], .op .all [.comp [1] (.name 1) .seq [.op .idx [.var 0 false, .cst (.int 4)]] [] (.call f_is_name [.var 1 false])]])]
def f_is_deed : FunIR := .mk "is_deed" ["thing"] ["thing", "one"] [
  .ite (.or [.not (.op (.isin ["tuple"]) [.var 0 false]), .op .lt [.op .len [.var 0 false], .cst (.int 3)]]) [.ret (.cst (.bl false))] [],
  .ite (.op .inn [.op .idx [.var 0 false, .cst (.int 0)], .op .tup [.cst (.str "take"), .cst (.str "give")]]) [.ret (.and [.op .eq [.op .len [.var 0 false], .cst (.int 5)], .op .all [.comp [1] (.name 1) .seq [.op (.sl true false) [.var 0 false, .cst (.int 1)]] [] (.call f_is_name [.var 1 false])]])] [],
  .ite (.op .eq [.op .idx [.var 0 false, .cst (.int 0)], .cst (.str "make")]) [.ret (.and [.op .eq [.op .len [.var 0 false], .cst (.int 5)], .call f_has_make_form [.var 0 false]])] [],
  .ite (.op .eq [.op .idx [.var 0 false, .cst (.int 0)], .cst (.str "drop")]) [.ret (.and [.op .eq [.op .len [.var 0 false], .cst (.int 4)], .op .all [.comp [1] (.name 1) .seq [.op (.sl true false) [.var 0 false, .cst (.int 1)]] [] (.call f_is_name [.var 1 false])]])] [],
  .ret (.and [.op .inn [.op .idx [.var 0 false, .cst (.int 0)], .op .tup [.cst (.str "read"), .cst (.str "write")]], .op .eq [.op .len [.var 0 false], .cst (.int 3)], .op .all [.comp [1] (.name 1) .seq [.op (.sl true false) [.var 0 false, .cst (.int 1)]] [] (.call f_is_name [.var 1 false])]])]
def f__law_rights : FunIR := .mk "_law_rights" ["_law_bag_here"] ["_law_bag_here"] [
  .ret (.lst [.cst (.str "take"), .cst (.str "take"), .cst (.str "take"), .cst (.str "give"), .cst (.str "give"), .cst (.str "give"), .cst (.str "read"), .cst (.str "write"), .cst (.str "use"), .op .idx [.call f__law_words [.loan 0, .cst (.int 1)], .cst (.int 0)]])]
def f__law_is_deed : FunIR := .mk "_law_is_deed" ["_law_thing"] ["_law_thing", "_law_many", "_law_one"] [
  .ite (.or [.not (.op (.isin ["tuple"]) [.var 0 false]), .op .lt [.op .len [.var 0 false], .cst (.int 3)], .not (.op (.isin ["str"]) [.op .idx [.var 0 false, .cst (.int 0)]])]) [.ret (.cst (.bl false))] [],
  .ite (.op .inn [.op .idx [.var 0 false, .cst (.int 0)], .op .tup [.cst (.str "take"), .cst (.str "give"), .cst (.str "drop"), .cst (.str "read"), .cst (.str "write")]]) [.asg 1 (.op .idx [.op .dict [.cst (.str "take"), .cst (.int 5), .cst (.str "give"), .cst (.int 5), .cst (.str "drop"), .cst (.int 4), .cst (.str "read"), .cst (.int 3), .cst (.str "write"), .cst (.int 3)], .op .idx [.var 0 false, .cst (.int 0)]]), .ret (.and [.op .eq [.op .len [.var 0 false], .var 1 false], .op .eq [.comp [2] (.name 2) .seq [.op (.sl true false) [.var 0 false, .cst (.int 1)]] [.not (.call f__law_is_name [.var 2 false])] (.var 2 false), .lst []]])] [],
  .ite (.or [.op .ne [.op .idx [.var 0 false, .cst (.int 0)], .cst (.str "make")], .op .ne [.op .len [.var 0 false], .cst (.int 5)], .op .ne [.comp [2] (.name 2) .seq [.op (.sl true true) [.var 0 false, .int1 (.cst (.int 1)), .cst (.int 3)]] [.not (.call f__law_is_name [.var 2 false])] (.var 2 false), .lst []]]) [.ret (.cst (.bl false))] [],
  .ite (.or [.not (.op (.isin ["str"]) [.op .idx [.var 0 false, .cst (.int 3)]]), .op .notin [.op .idx [.var 0 false, .cst (.int 3)], .op .tup [.cst (.str "person"), .cst (.str "thing")]], .not (.op (.isin ["tuple"]) [.op .idx [.var 0 false, .cst (.int 4)]])]) [.ret (.cst (.bl false))] [],
  .ret (.op .eq [.comp [2] (.name 2) .seq [.op .idx [.var 0 false, .cst (.int 4)]] [.not (.call f__law_is_name [.var 2 false])] (.var 2 false), .lst []])]
def f__law_drawn : FunIR := .mk "_law_drawn" ["_law_bag_here", "_law_names"] ["_law_bag_here", "_law_names", "_law_one", "_law_k", "_law_word", "_law_right", "_law_rights_here"] [
  .asg 2 (.comp [3] (.name 3) .range [.cst (.int 4)] [] (.call f__law_some [.loan 0, .var 1 false])),
  .asgs [4, 5] [.call f__law_some [.loan 0, .lst [.cst (.str "take"), .cst (.str "give"), .cst (.str "make"), .cst (.str "drop"), .cst (.str "read"), .cst (.str "write")]], .call f__law_some [.loan 0, .call f__law_rights [.loan 0]]],
  .ite (.op .inn [.var 4 false, .op .tup [.cst (.str "take"), .cst (.str "give")]]) [.ret (.op .tup [.var 4 false, .op .idx [.var 2 false, .cst (.int 0)], .op .idx [.var 2 false, .cst (.int 1)], .var 5 false, .op .idx [.var 2 false, .cst (.int 2)]])] [],
  .ite (.op .eq [.var 4 false, .cst (.str "make")]) [.asg 6 (.op .tuple [.comp [3] (.name 3) .range [.call f__law_take [.loan 0, .cst (.int 4)]] [] (.call f__law_some [.loan 0, .call f__law_rights [.loan 0]])]), .ret (.op .tup [.var 4 false, .op .idx [.var 2 false, .cst (.int 0)], .op .idx [.var 2 false, .cst (.int 1)], .call f__law_some [.loan 0, .lst [.cst (.str "person"), .cst (.str "thing")]], .var 6 false])] [],
  .ret (.ite (.op .eq [.var 4 false, .cst (.str "drop")]) (.op .tup [.var 4 false, .op .idx [.var 2 false, .cst (.int 0)], .var 5 false, .op .idx [.var 2 false, .cst (.int 1)]]) (.op .tup [.var 4 false, .op .idx [.var 2 false, .cst (.int 0)], .op .idx [.var 2 false, .cst (.int 1)]]))]
def f__law_bent_v2 : FunIR := .mk "_law_bent" ["_law_bag_here", "_law_thing", "_law_names"] ["_law_bag_here", "_law_thing", "_law_names", "_law_at", "_law_way", "_law_part"] [
  .ite (.or [.not (.op (.isin ["tuple"]) [.var 1 false]), .op .eq [.var 1 false, .op .tup []]]) [.ret (.var 1 false)] [],
  .asgs [3, 4] [.call f__law_take [.loan 0, .op .len [.var 1 false]], .call f__law_take [.loan 0, .cst (.int 8)]],
  .ite (.op .eq [.var 4 false, .cst (.int 0)]) [.ret (.op .add [.op (.sl false true) [.var 1 false, .var 3 false], .op (.sl true false) [.var 1 false, .op .add [.var 3 false, .cst (.int 1)]]])] [],
  .ite (.op .eq [.var 4 false, .cst (.int 1)]) [.ret (.op .add [.op .add [.op (.sl false true) [.var 1 false, .var 3 false], .op .tup [.op .idx [.var 1 false, .var 3 false]]], .op (.sl true false) [.var 1 false, .var 3 false]])] [],
  .ite (.op .eq [.var 4 false, .cst (.int 2)]) [.ret (.op .list [.var 1 false])] [],
  .asg 5 (.call f__law_some [.loan 0, .lst [.call f__law_odd [.loan 0], .cst (.str "take"), .cst (.str "make"), .cst (.str "read"), .cst (.str "person"), .cst (.str "box"), .cst (.str "A"), .cst (.str "ninesigns"), .op .tup [], .cst (.str "a1"), .cst (.str "a\n")]]),
  .ite (.and [.op .eq [.var 4 false, .cst (.int 3)], .op (.isin ["tuple"]) [.op .idx [.var 1 false, .var 3 false]]]) [.asg 5 (.call f__law_some [.loan 0, .lst [.op .list [.op .idx [.var 1 false, .var 3 false]], .op .add [.op .idx [.var 1 false, .var 3 false], .op .tup [.cst (.str "A")]], .op .add [.op .idx [.var 1 false, .var 3 false], .op .tup [.cst (.int 5)]], .op .add [.op .idx [.var 1 false, .var 3 false], .op .tup [.cst (.str "a")]], .op .dict [], .cst (.str "use")]])] [],
  .ite (.op .eq [.var 4 false, .cst (.int 4)]) [.asg 5 (.call f__law_some [.loan 0, .var 2 false])] [],
  .ret (.ite (.op .lt [.var 4 false, .cst (.int 6)]) (.op .add [.op .add [.op (.sl false true) [.var 1 false, .var 3 false], .op .tup [.var 5 false]], .op (.sl true false) [.var 1 false, .op .add [.var 3 false, .cst (.int 1)]]]) (.var 1 false))]
def f_law_v2 : FunIR := .mk "law" ["_law_script"] ["_law_script", "_law_bag_here", "_law_turn", "_law_names", "_law_deed", "_law_bent_here", "_law_thing", "_law_due", "_law_shown"] [
  .asg 1 (.call f__law_bag [.var 0 false]),
  .loop (.name 2) .range [.cst (.int 16)] [.asg 3 (.call f__law_words [.loan 1, .cst (.int 4)]), .asg 4 (.call f__law_drawn [.loan 1, .var 3 false]), .asg 5 (.call f__law_bent_v2 [.loan 1, .var 4 false, .var 3 false]), .loop (.name 6) .seq [.op .tup [.var 4 false, .var 5 false, .call f__law_bent_v2 [.loan 1, .var 5 false, .var 3 false], .call f__law_odd [.loan 1]]] [.asgs [7, 8] [.call f__law_is_deed [.var 6 false], .op .repr [.var 6 false]], .ite (.or [.not (.call f__law_alike [.lst [.call f_is_deed [.var 6 false], .call f_is_deed [.var 6 false]], .lst [.var 7 false, .var 7 false]]), .op .ne [.op .repr [.var 6 false], .var 8 false]]) [.ret (.cst (.bl false))] []], .ite (.not (.call f__law_is_deed [.var 4 false])) [.ret (.cst (.bl false))] []],
  .ret (.call f__law_alike [.lst [.call f_is_deed [.op .mul [.lst [.cst (.int 0)], .cst (.int 2900)]], .call f_is_deed [.call f__law_nested [.cst (.int 19)]], .call f_is_deed [.op .tup []]], .lst [.cst (.bl false), .cst (.bl false), .cst (.bl false)]])]
end DL
set_option maxHeartbeats 0
namespace DL
open PySem PySem.Spec PyProof.Rows L2
def top (i : Nat) : Stmt := PySem.Challenge.pw_takeandhand_k20_deeds_known.main.body.getD i (.Pass ⟨0, 0, 0, 0⟩)
def gls : List (Str × Cst) := [("LETTERS", .str "abcdefghijklmnopqrstuvwxyz"), ("LONGEST", .int 8), ("KINDS", .tup ["person", "thing"])]
theorem m_is_name : mSs ⟨f_is_name.N, gls⟩ (defScope (top 3)) f_is_name.body (defBody (top 3)) = true := by kernel_rfl
theorem s_is_name : FnScope f_is_name.N f_is_name.ps (defScope (top 3)) := ⟨rfl, rfl, rfl, by decide +kernel, rfl, by decide +kernel, by decide +kernel⟩
theorem m_has_make_form : mSs ⟨f_has_make_form.N, gls⟩ (defScope (top 6)) f_has_make_form.body (defBody (top 6)) = true := by kernel_rfl
theorem s_has_make_form : FnScope f_has_make_form.N f_has_make_form.ps (defScope (top 6)) := ⟨rfl, rfl, rfl, by decide +kernel, rfl, by decide +kernel, by decide +kernel⟩
theorem m_is_deed : mSs ⟨f_is_deed.N, gls⟩ (defScope (top 7)) f_is_deed.body (defBody (top 7)) = true := by kernel_rfl
theorem s_is_deed : FnScope f_is_deed.N f_is_deed.ps (defScope (top 7)) := ⟨rfl, rfl, rfl, by decide +kernel, rfl, by decide +kernel, by decide +kernel⟩
theorem m__law_bag : mSs ⟨f__law_bag.N, gls⟩ (defScope (top 9)) f__law_bag.body (defBody (top 9)) = true := by kernel_rfl
theorem s__law_bag : FnScope f__law_bag.N f__law_bag.ps (defScope (top 9)) := ⟨rfl, rfl, rfl, by decide +kernel, rfl, by decide +kernel, by decide +kernel⟩
theorem m__law_take : mSs ⟨f__law_take.N, gls⟩ (defScope (top 10)) f__law_take.body (defBody (top 10)) = true := by kernel_rfl
theorem s__law_take : FnScope f__law_take.N f__law_take.ps (defScope (top 10)) := ⟨rfl, rfl, rfl, by decide +kernel, rfl, by decide +kernel, by decide +kernel⟩
theorem m__law_alike : mSs ⟨f__law_alike.N, gls⟩ (defScope (top 11)) f__law_alike.body (defBody (top 11)) = true := by kernel_rfl
theorem s__law_alike : FnScope f__law_alike.N f__law_alike.ps (defScope (top 11)) := ⟨rfl, rfl, rfl, by decide +kernel, rfl, by decide +kernel, by decide +kernel⟩
theorem m__law_some : mSs ⟨f__law_some.N, gls⟩ (defScope (top 12)) f__law_some.body (defBody (top 12)) = true := by kernel_rfl
theorem s__law_some : FnScope f__law_some.N f__law_some.ps (defScope (top 12)) := ⟨rfl, rfl, rfl, by decide +kernel, rfl, by decide +kernel, by decide +kernel⟩
theorem m__law_mixed : mSs ⟨f__law_mixed.N, gls⟩ (defScope (top 13)) f__law_mixed.body (defBody (top 13)) = true := by kernel_rfl
theorem s__law_mixed : FnScope f__law_mixed.N f__law_mixed.ps (defScope (top 13)) := ⟨rfl, rfl, rfl, by decide +kernel, rfl, by decide +kernel, by decide +kernel⟩
theorem m__law_words : mSs ⟨f__law_words.N, gls⟩ (defScope (top 14)) f__law_words.body (defBody (top 14)) = true := by kernel_rfl
theorem s__law_words : FnScope f__law_words.N f__law_words.ps (defScope (top 14)) := ⟨rfl, rfl, rfl, by decide +kernel, rfl, by decide +kernel, by decide +kernel⟩
theorem m__law_rights : mSs ⟨f__law_rights.N, gls⟩ (defScope (top 15)) f__law_rights.body (defBody (top 15)) = true := by kernel_rfl
theorem s__law_rights : FnScope f__law_rights.N f__law_rights.ps (defScope (top 15)) := ⟨rfl, rfl, rfl, by decide +kernel, rfl, by decide +kernel, by decide +kernel⟩
theorem m__law_is_name : mSs ⟨f__law_is_name.N, gls⟩ (defScope (top 16)) f__law_is_name.body (defBody (top 16)) = true := by kernel_rfl
theorem s__law_is_name : FnScope f__law_is_name.N f__law_is_name.ps (defScope (top 16)) := ⟨rfl, rfl, rfl, by decide +kernel, rfl, by decide +kernel, by decide +kernel⟩
theorem m__law_nested : mSs ⟨f__law_nested.N, gls⟩ (defScope (top 17)) f__law_nested.body (defBody (top 17)) = true := by kernel_rfl
theorem s__law_nested : FnScope f__law_nested.N f__law_nested.ps (defScope (top 17)) := ⟨rfl, rfl, rfl, by decide +kernel, rfl, by decide +kernel, by decide +kernel⟩
theorem m__law_odd : mSs ⟨f__law_odd.N, gls⟩ (defScope (top 18)) f__law_odd.body (defBody (top 18)) = true := by kernel_rfl
theorem s__law_odd : FnScope f__law_odd.N f__law_odd.ps (defScope (top 18)) := ⟨rfl, rfl, rfl, by decide +kernel, rfl, by decide +kernel, by decide +kernel⟩
theorem m__law_is_deed : mSs ⟨f__law_is_deed.N, gls⟩ (defScope (top 19)) f__law_is_deed.body (defBody (top 19)) = true := by kernel_rfl
theorem s__law_is_deed : FnScope f__law_is_deed.N f__law_is_deed.ps (defScope (top 19)) := ⟨rfl, rfl, rfl, by decide +kernel, rfl, by decide +kernel, by decide +kernel⟩
theorem m__law_drawn : mSs ⟨f__law_drawn.N, gls⟩ (defScope (top 20)) f__law_drawn.body (defBody (top 20)) = true := by kernel_rfl
theorem s__law_drawn : FnScope f__law_drawn.N f__law_drawn.ps (defScope (top 20)) := ⟨rfl, rfl, rfl, by decide +kernel, rfl, by decide +kernel, by decide +kernel⟩
theorem m__law_bent : mSs ⟨f__law_bent_v2.N, gls⟩ (defScope (top 21)) f__law_bent_v2.body (defBody (top 21)) = true := by kernel_rfl
theorem s__law_bent : FnScope f__law_bent_v2.N f__law_bent_v2.ps (defScope (top 21)) := ⟨rfl, rfl, rfl, by decide +kernel, rfl, by decide +kernel, by decide +kernel⟩
theorem m_law : mSs ⟨f_law_v2.N, gls⟩ (defScope (top 22)) f_law_v2.body (defBody (top 22)) = true := by kernel_rfl
theorem s_law : FnScope f_law_v2.N f_law_v2.ps (defScope (top 22)) := ⟨rfl, rfl, rfl, by decide +kernel, rfl, by decide +kernel, by decide +kernel⟩
end DL
namespace DL
open PySem PySem.Spec PyProof.Rows L2
/-! ### statement by statement -/
section
variable {Γ : Gm} {K : DE} {r : List IS}
theorem x_nil (h : K.nx Γ) : xss [] Γ K := h
theorem x_asg {i : Nat} {e : IE} (h : ev e false Γ (fun z Γ' => xss r (Γ'.set i (some z)) K) K.ex) : xss (.asg i e :: r) Γ K := h
theorem x_asgs {ts : List Nat} {es : List IE} (h : evL es Γ (fun rs Γ' => match asgAll ts rs Γ' with
    | some Γ2 => xss r Γ2 K
    | none => False) K.ex) : xss (.asgs ts es :: r) Γ K := h
theorem x_ite {c : IE} {a b : List IS} (h : ev c true Γ (asB fun s Γ' => if s = true then xss a Γ' { K with nx := fun Γ' => xss r Γ' K } else xss b Γ' { K with nx := fun Γ' => xss r Γ' K }) K.ex) : xss (.ite c a b :: r) Γ K := h
theorem x_loop {tg : Tg} {it : ItK} {es : List IE} {body : List IS} (h : evL es Γ (fun rs Γ1 => match itD it rs with
    | some ds => forL (fun d Γ2 K2 => match setTg tg (d, 0) Γ2 with
        | some Γ3 => xss body Γ3 K2
        | none => False) ds Γ1 { K with nx := fun Γ' => xss r Γ' K }
    | none => False) K.ex) : xss (.loop tg it es body :: r) Γ K := h
theorem x_ret {e : IE} (h : ev e false Γ K.rt K.ex) : xss (.ret e :: r) Γ K := h
theorem x_ex {e : IE} (h : ev e false Γ (fun _ Γ' => xss r Γ' K) K.ex) : xss (.ex e :: r) Γ K := h
theorem x_setI {i : Nat} {ix e : IE} (h : ev e false Γ (fun z Γ1 => isLst (Γ1.getD i none) = true ∧ ev ix false Γ1 (fun n Γ2 => match Γ2.getD i none with
    | some x => match setD x n.1 z with
      | some y => xss r (Γ2.set i (some y)) K
      | none => False
    | none => False) K.ex) K.ex) : xss (.setI i ix e :: r) Γ K := h
theorem x_mut {i : Nat} {m : Mt} {es : List IE} (h : isLst (Γ.getD i none) = true ∧ evL es Γ (fun rs Γ' => match Γ'.getD i none, valsK rs with
    | some x, some as => match mutD m x as with
      | some y => xss r (Γ'.set i (some y)) K
      | none => False
    | _, _ => False) K.ex) : xss (.mut i m es :: r) Γ K := h
end
/-! ### operands -/
section
variable {st : Bool} {Γ : Gm} {d : D} {k i : Nat} {rs : List OR}
@[simp] theorem der_nil : der st Γ [] = some [] := rfl
@[simp] theorem der_v : der st Γ (.v d k :: rs) = (der st Γ rs).map (d :: ·) := by
  simp only [der, der1]
  cases der st Γ rs <;> rfl
@[simp] theorem valsD_nil : valsD [] = some [] := rfl
@[simp] theorem valsD_v : valsD (.v d k :: rs) = (valsD rs).map (d :: ·) := rfl
@[simp] theorem st_add : Op.st .add = false := rfl
end
end DL
namespace DL
open PySem PySem.Spec PyProof.Rows L2
/-! ### the same evaluator as a function -/
inductive Rs (α : Type) where
  | ok (a : α) (Γ : Gm) | exc (x : Exc) (Γ : Gm) | bad
inductive So where
  | nx (Γ : Gm) | rt (r : DK) (Γ : Gm) | bk (Γ : Gm) | ct (Γ : Gm) | exc (x : Exc) (Γ : Gm) | bad
inductive Fr where
  | ok (r : DK) (fs : List (Option DK)) | exc (x : Exc) (fs : List (Option DK)) | bad
namespace Rs
variable {α β : Type}
def bind (r : Rs α) (f : α → Gm → Rs β) : Rs β := match r with
  | ok a Γ => f a Γ | exc x Γ => exc x Γ | bad => bad
def st (r : Rs α) (f : α → Gm → So) : So := match r with
  | ok a Γ => f a Γ | exc x Γ => .exc x Γ | bad => .bad
def sat (r : Rs α) (Q : α → Gm → Prop) (X : XD) : Prop := match r with
  | ok a Γ => Q a Γ | exc x Γ => X x Γ | bad => False
/-- nothing may be raised -/
def pure (r : Rs α) : Rs α := match r with
  | ok a Γ => ok a Γ | _ => bad
end Rs
def brn {α : Type} (b : Bool) (x y : α) : α := if b = true then x else y
def opt {α β : Type} (o : Option α) (f : α → β) (z : β) : β := match o with
  | some a => f a | none => z
namespace So
def seq (o : So) (f : Gm → So) : So := match o with
  | nx Γ => f Γ | o => o
def sat (o : So) (K : DE) : Prop := match o with
  | nx Γ => K.nx Γ | rt r Γ => K.rt r Γ | bk Γ => K.bk Γ | ct Γ => K.ct Γ | exc x Γ => K.ex x Γ | bad => False
def fin (o : So) (body : List IS) (n : Nat) : Fr := match o with
  | nx Γ => .ok (.non, 0) (fins body n Γ) | rt r Γ => .ok r (fins body n Γ) | exc x Γ => .exc x (fins body n Γ) | _ => .bad
/-- behind a turn of a loop -/
def turn (o : So) (f : Gm → So) : So := match o with
  | nx Γ => f Γ | ct Γ => f Γ | bk Γ => nx Γ | o => o
end So
def Fr.sat (r : Fr) (Q : DK → List (Option DK) → Prop) (X : Exc → List (Option DK) → Prop) : Prop := match r with
  | ok r fs => Q r fs | exc x fs => X x fs | bad => False
def Fr.rs (r : Fr) (f : DK → List (Option DK) → Rs DK) (g : Exc → List (Option DK) → Rs DK) : Rs DK := match r with
  | ok r fs => f r fs | exc x fs => g x fs | bad => .bad
def finX (t : Bool) (r : DK) (Γ : Gm) : Rs DK := match t with
  | true => opt (truth r.1) (fun b => .ok (.bl b, 0) Γ) .bad
  | false => .ok r Γ
def boolX {β : Type} (r : DK) (f : Bool → β) (z : β) : β := match r.1 with
  | .bl b => f b | _ => z
def intX {β : Type} (r : DK) (f : Int → β) (z : β) : β := match r.1 with
  | .int b => f b | _ => z
def strX {β : Type} (r : DK) (f : Str → β) (z : β) : β := match r.1 with
  | .str b => f b | _ => z
def lst1X {β : Type} (x : Option DK) (f : List D → β) (z : β) : β := match x with
  | some (.lst xs, 1) => f xs
  | _ => z
def compX (step : D → Gm → Rs (Option DK)) : List D → Gm → List D → Rs DK
  | [], Γ, acc => .ok (.lst acc, 1) Γ
  | d :: ds, Γ, acc => (step d Γ).pure.bind fun r Γ' => compX step ds Γ' (opt r (fun e => acc ++ [e.1]) acc)
def forX (step : D → Gm → So) : List D → Gm → So
  | [], Γ => .nx Γ
  | d :: ds, Γ => (step d Γ).turn (forX step ds)
def whileX (c : Gm → Rs DK) (body : Gm → So) : Nat → Gm → So
  | 0, _ => .bad
  | n + 1, Γ => (c Γ).st fun r Γ' => boolX r (fun b => brn b ((body Γ').turn (whileX c body n)) (.nx Γ')) .bad
def fuelN : Nat := 18446744073709551616
mutual
def evX : IE → Bool → Gm → Rs DK
  | .var i mv, t, Γ => opt (Γ.getD i none) (fun r => if mv = true then finX t r (Γ.set i none) else finX t (r.1, 0) (Γ.set i (some (r.1, 0)))) .bad
  | .cst c, t, Γ => finX t (c.d, 0) Γ
  | .glob _ c, t, Γ => finX t (c.d, 0) Γ
  | .op o es, t, Γ => (evLX es Γ).bind fun rs Γ' => opt (der o.st Γ' rs) (fun ds => opt (opD o ds) (fun r => finX t r Γ') .bad) .bad
  | .int1 e, t, Γ => (evX e false Γ).bind fun r Γ' => intX r (fun i => finX t (.int i, 0) Γ') .bad
  | .str1 e, t, Γ => (evX e false Γ).bind fun r Γ' => strX r (fun i => finX t (.str i, 0) Γ') .bad
  | .lst es, t, Γ => (evLX es Γ).bind fun rs Γ' => opt (valsD rs) (fun ds => if ds.length ≤ lim then finX t (.lst ds, 1) Γ' else .bad) .bad
  | .and es, t, Γ => evAndX es t Γ
  | .or es, t, Γ => evOrX es t Γ
  | .not e, t, Γ => (evX e t Γ).bind fun r Γ' => opt (truth r.1) (fun b => .ok (.bl (!b), 0) Γ') .bad
  | .ite c a b, t, Γ => (evX c true Γ).bind fun r Γ' => boolX r (fun s => brn s (evX a t Γ') (evX b t Γ')) .bad
  | .chain o o' a b c, t, Γ => (evX a false Γ).bind fun r1 Γ1 => (evX b false Γ1).bind fun r2 Γ2 => intX r1 (fun x => intX r2 (fun y => opt (cmpI o x y) (fun s =>
      brn s ((evX c false Γ2).bind fun r3 Γ3 => intX r3 (fun z => opt (cmpI o' y z) (fun k => finX t (.bl k, 0) Γ3) .bad) .bad) (finX t (.bl false, 0) Γ2)) .bad) .bad) .bad
  | .call f es, t, Γ => (evLX es Γ).bind fun rs Γ1 => opt (takeArgs Γ1 rs) (fun aΓ => (runF f aΓ.1).rs (fun r fs => finX t r (giveBack rs fs aΓ.2)) (fun x fs => .exc x (giveBack rs fs aΓ.2))) .bad
  | .comp own tg it es ifs elt, t, Γ => (evLX es Γ).bind fun rs Γ1 => opt (itD it rs) (fun ds => if ds.length ≤ lim then
      (compX (fun d Γ2 => opt (setTg tg (d, 0) (wipeG Γ2 own)) (fun Γ3 => (evIfsX ifs Γ3).bind fun b Γ4 => brn b ((evX elt false Γ4).bind fun r Γ5 => .ok (some r) Γ5) (.ok none Γ4)) .bad) ds (wipeG Γ1 own) []).bind fun r Γ' => finX t r (backG Γ1 Γ' own)
      else .bad) .bad
  | .bor _, _, _ => .bad
  | .loan _, _, _ => .bad
def evLX : List IE → Gm → Rs (List OR)
  | [], Γ => .ok [] Γ
  | .bor i :: es, Γ => opt (Γ.getD i none) (fun _ => (evLX es Γ).bind fun rs Γ' => .ok (.b i :: rs) Γ') .bad
  | .loan i :: es, Γ => opt (Γ.getD i none) (fun _ => (evLX es Γ).bind fun rs Γ' => .ok (.l i :: rs) Γ') .bad
  | e :: es, Γ => (evX e false Γ).bind fun r Γ' => (evLX es Γ').bind fun rs Γ2 => .ok (.v r.1 r.2 :: rs) Γ2
def evAndX : List IE → Bool → Gm → Rs DK
  | [], _, _ => .bad
  | [e], t, Γ => evX e t Γ
  | e :: es, t, Γ => (evX e t Γ).bind fun r Γ' => opt (truth r.1) (fun b => brn b (evAndX es t Γ') (.ok r Γ')) .bad
def evOrX : List IE → Bool → Gm → Rs DK
  | [], _, _ => .bad
  | [e], t, Γ => evX e t Γ
  | e :: es, t, Γ => (evX e t Γ).bind fun r Γ' => opt (truth r.1) (fun b => brn b (.ok r Γ') (evOrX es t Γ')) .bad
def evIfsX : List IE → Gm → Rs Bool
  | [], Γ => .ok true Γ
  | e :: es, Γ => (evX e true Γ).bind fun r Γ' => boolX r (fun b => brn b (evIfsX es Γ') (.ok false Γ')) .bad
def xsX : IS → Gm → So
  | .asg i e, Γ => (evX e false Γ).st fun r Γ' => .nx (Γ'.set i (some r))
  | .asgs ts es, Γ => (evLX es Γ).st fun rs Γ' => opt (asgAll ts rs Γ') .nx .bad
  | .asgT tg e, Γ => (evX e false Γ).st fun r Γ' => opt (setTg tg (r.1, 0) Γ') .nx .bad
  | .aug i o e, Γ => (evX e false Γ).st fun r Γ' => opt (Γ.getD i none) (fun x => intX x (fun a => intX r (fun b => opt (opD o [.int a, .int b]) (fun z => .nx (Γ'.set i (some z))) .bad) .bad) .bad) .bad
  | .setI i ix e, Γ => (evX e false Γ).st fun r Γ1 => brn (isLst (Γ1.getD i none)) ((evX ix false Γ1).st fun n Γ2 => opt (Γ2.getD i none) (fun x => opt (setD x n.1 r) (fun y => .nx (Γ2.set i (some y))) .bad) .bad) .bad
  | .augI i ix o e, Γ => brn (isLst (Γ.getD i none)) ((evX ix false Γ).st fun n Γ1 => lst1X (Γ1.getD i none) (fun xs => intX n (fun j => opt (atI xs j) (fun w => intX (w, 0) (fun a =>
      (evX e false Γ1).st fun r Γ2 => intX r (fun b => lst1X (Γ2.getD i none) (fun ys => opt (opD o [.int a, .int b]) (fun z => opt (setD (.lst ys, 1) (.int j) (z.1, 0)) (fun y => .nx (Γ2.set i (some y))) .bad) .bad) .bad) .bad) .bad) .bad) .bad) .bad) .bad
  | .mut i m es, Γ => brn (isLst (Γ.getD i none)) ((evLX es Γ).st fun rs Γ' => opt (Γ'.getD i none) (fun x => opt (valsK rs) (fun as => opt (mutD m x as) (fun y => .nx (Γ'.set i (some y))) .bad) .bad) .bad) .bad
  | .ex e, Γ => (evX e false Γ).st fun _ Γ' => .nx Γ'
  | .ite c a b, Γ => (evX c true Γ).st fun r Γ' => boolX r (fun s => brn s (xssX a Γ') (xssX b Γ')) .bad
  | .loop tg it es body, Γ => (evLX es Γ).st fun rs Γ1 => opt (itD it rs) (fun ds => forX (fun d Γ2 => opt (setTg tg (d, 0) Γ2) (fun Γ3 => xssX body Γ3) .bad) ds Γ1) .bad
  | .while c body, Γ => whileX (fun Γ' => evX c true Γ') (fun Γ' => xssX body Γ') fuelN Γ
  | .ret e, Γ => (evX e false Γ).st .rt
  | .retN, Γ => .rt (.non, 0) Γ
  | .pass, Γ => .nx Γ
  | .brk, Γ => .bk Γ
  | .cont, Γ => .ct Γ
def xssX : List IS → Gm → So
  | [], Γ => .nx Γ
  | s :: r, Γ => (xsX s Γ).seq fun Γ' => xssX r Γ'
def runF : FunIR → List DK → Fr
  | .mk _ ps N body, as => if as.length = ps.length then (xssX body (as.map some ++ List.replicate (N.length - ps.length) none)).fin body ps.length else .bad
termination_by structural x1 => x1
end
end DL
set_option maxHeartbeats 0
namespace DL
open PySem PySem.Spec PyProof.Rows L2
section
variable {α β : Type}
theorem Rs.sat_mono {r : Rs α} {Q Q' : α → Gm → Prop} {X X' : XD} (h : r.sat Q X) (q : ∀ a Γ, Q a Γ → Q' a Γ) (x : ∀ a Γ, X a Γ → X' a Γ) : r.sat Q' X' := by
  cases r with
  | ok a Γ => exact q a Γ h
  | exc a Γ => exact x a Γ h
  | bad => exact h
theorem Rs.sat_bind {r : Rs α} {f : α → Gm → Rs β} {Q : β → Gm → Prop} {X : XD} (h : (r.bind f).sat Q X) : r.sat (fun a Γ => (f a Γ).sat Q X) X := by cases r <;> exact h
theorem Rs.sat_st {r : Rs α} {f : α → Gm → So} {K : DE} (h : (r.st f).sat K) : r.sat (fun a Γ => (f a Γ).sat K) K.ex := by cases r <;> exact h
theorem Rs.sat_pure {r : Rs α} {f : α → Gm → Rs β} {Q : β → Gm → Prop} {X X' : XD} (h : (r.pure.bind f).sat Q X) : r.sat (fun a Γ => (f a Γ).sat Q X) X' := by
  cases r with
  | ok a Γ => exact h
  | exc a Γ => exact h.elim
  | bad => exact h
theorem opt_sat {o : Option α} {f : α → Rs β} {Q : β → Gm → Prop} {X : XD} (h : (opt o f .bad).sat Q X) : ∃ a, o = some a ∧ (f a).sat Q X := by
  cases o with
  | none => exact h.elim
  | some a => exact ⟨a, rfl, h⟩
theorem opt_satS {o : Option α} {f : α → So} {K : DE} (h : (opt o f .bad).sat K) : ∃ a, o = some a ∧ (f a).sat K := by
  cases o with
  | none => exact h.elim
  | some a => exact ⟨a, rfl, h⟩
theorem boolX_sat {r : DK} {f : Bool → Rs β} {Q : β → Gm → Prop} {X : XD} (h : (boolX r f .bad).sat Q X) : ∃ b, r.1 = .bl b ∧ (f b).sat Q X := by
  unfold boolX at h
  split at h
  · exact ⟨_, by assumption, h⟩
  · exact h.elim
theorem boolX_satS {r : DK} {f : Bool → So} {K : DE} (h : (boolX r f .bad).sat K) : ∃ b, r.1 = .bl b ∧ (f b).sat K := by
  unfold boolX at h
  split at h
  · exact ⟨_, by assumption, h⟩
  · exact h.elim
theorem intX_sat {r : DK} {f : Int → Rs β} {Q : β → Gm → Prop} {X : XD} (h : (intX r f .bad).sat Q X) : ∃ b, r.1 = .int b ∧ (f b).sat Q X := by
  unfold intX at h
  split at h
  · exact ⟨_, by assumption, h⟩
  · exact h.elim
theorem intX_satS {r : DK} {f : Int → So} {K : DE} (h : (intX r f .bad).sat K) : ∃ b, r.1 = .int b ∧ (f b).sat K := by
  unfold intX at h
  split at h
  · exact ⟨_, by assumption, h⟩
  · exact h.elim
theorem lst1X_satS {x : Option DK} {f : List D → So} {K : DE} (h : (lst1X x f .bad).sat K) : ∃ b, x = some (.lst b, 1) ∧ (f b).sat K := by
  unfold lst1X at h
  split at h
  · exact ⟨_, rfl, h⟩
  · exact h.elim
theorem strX_sat {r : DK} {f : Str → Rs β} {Q : β → Gm → Prop} {X : XD} (h : (strX r f .bad).sat Q X) : ∃ b, r.1 = .str b ∧ (f b).sat Q X := by
  unfold strX at h
  split at h
  · exact ⟨_, by assumption, h⟩
  · exact h.elim
theorem brn_sat {b : Bool} {x y : Rs β} {Q : β → Gm → Prop} {X : XD} (h : (brn b x y).sat Q X) : (b = true ∧ x.sat Q X) ∨ (b = false ∧ y.sat Q X) := by
  cases b
  · exact .inr ⟨rfl, h⟩
  · exact .inl ⟨rfl, h⟩
theorem brn_satS {b : Bool} {x y : So} {K : DE} (h : (brn b x y).sat K) : (b = true ∧ x.sat K) ∨ (b = false ∧ y.sat K) := by
  cases b
  · exact .inr ⟨rfl, h⟩
  · exact .inl ⟨rfl, h⟩
theorem finX_sat {t : Bool} {r : DK} {Γ : Gm} {Q : DK → Gm → Prop} {X : XD} (h : (finX t r Γ).sat Q X) : finQ t Q r Γ := by
  cases t with
  | false => exact h
  | true =>
    obtain ⟨b, e, h⟩ := opt_sat h
    simp only [finQ, e]
    exact h
theorem So.sat_seq {o : So} {f : Gm → So} {K : DE} (h : (o.seq f).sat K) : o.sat { K with nx := fun Γ => (f Γ).sat K } := by cases o <;> exact h
theorem So.sat_mono {o : So} {K K' : DE} (h : o.sat K) (h1 : ∀ Γ, K.nx Γ → K'.nx Γ) (h2 : ∀ r Γ, K.rt r Γ → K'.rt r Γ) (h3 : ∀ Γ, K.bk Γ → K'.bk Γ) (h4 : ∀ Γ, K.ct Γ → K'.ct Γ) (h5 : ∀ x Γ, K.ex x Γ → K'.ex x Γ) : o.sat K' := by
  cases o with
  | nx Γ => exact h1 _ h
  | rt r Γ => exact h2 _ _ h
  | bk Γ => exact h3 _ h
  | ct Γ => exact h4 _ h
  | exc x Γ => exact h5 _ _ h
  | bad => exact h
theorem So.sat_turn {o : So} {f : Gm → So} {K : DE} (h : (o.turn f).sat K) : o.sat { K with nx := fun Γ => (f Γ).sat K, ct := fun Γ => (f Γ).sat K, bk := K.nx } := by cases o <;> exact h
theorem compL_mono {s s' : D → Gm → (Option DK → Gm → Prop) → Prop} {Q : DK → Gm → Prop} (h : ∀ d Γ K K', (∀ r Γ, K r Γ → K' r Γ) → s d Γ K → s' d Γ K') : ∀ ds Γ acc, compL s ds Γ acc Q → compL s' ds Γ acc Q
  | [], _, _, q => q
  | d :: ds, Γ, acc, q => by
    simp only [compL] at q ⊢
    refine h d Γ _ _ (fun r Γ' k => ?_) q
    cases r with
    | none => exact compL_mono h ds Γ' acc k
    | some e => exact compL_mono h ds Γ' _ k
theorem compX_sat {s : D → Gm → Rs (Option DK)} {s' : D → Gm → (Option DK → Gm → Prop) → Prop} (hs : ∀ d Γ K X, (s d Γ).sat K X → (∀ a Γ, X a Γ → False) → s' d Γ K) : ∀ ds Γ acc Q X, (compX s ds Γ acc).sat Q X → compL s' ds Γ acc Q
  | [], _, _, _, _, h => h
  | d :: ds, Γ, acc, Q, X, h => by
    simp only [compX] at h
    have h := Rs.sat_pure (X' := fun _ _ => False) h
    simp only [compL]
    refine hs d Γ _ (fun _ _ => False) (Rs.sat_mono h (fun r Γ' k => ?_) fun _ _ z => z) fun _ _ z => z
    cases r with
    | none => exact compX_sat hs ds Γ' _ Q X k
    | some e => exact compX_sat hs ds Γ' _ Q X k
theorem forX_sat {s : D → Gm → So} {s' : D → Gm → DE → Prop} (hs : ∀ d Γ K, (s d Γ).sat K → s' d Γ K) : ∀ ds Γ K, (forX s ds Γ).sat K → forL s' ds Γ K
  | [], _, _, h => h
  | d :: ds, Γ, K, h => by
    simp only [forX] at h
    simp only [forL]
    refine hs d Γ _ (So.sat_mono (So.sat_turn h) (fun Γ k => forX_sat hs ds Γ K k) (fun _ _ k => k) (fun _ k => k) (fun Γ k => forX_sat hs ds Γ K k) fun _ _ k => k)
theorem whileX_sat {c : Gm → Rs DK} {b : Gm → So} {c' : Gm → (Bool → Gm → Prop) → XD → Prop} {b' : Gm → DE → Prop} (hc : ∀ Γ Q X, (c Γ).sat (asB Q) X → c' Γ Q X) (hb : ∀ Γ K, (b Γ).sat K → b' Γ K) : ∀ n Γ K, (whileX c b n Γ).sat K → whileL c' b' n Γ K
  | 0, _, _, h => h
  | n + 1, Γ, K, h => by
    simp only [whileX] at h
    simp only [whileL]
    refine hc Γ _ _ (Rs.sat_mono (Rs.sat_st h) (fun r Γ' k => ?_) fun _ _ k => k)
    obtain ⟨s, e, k⟩ := boolX_satS k
    simp only [asB, e]
    rcases brn_satS k with ⟨z, k⟩ | ⟨z, k⟩
    · rw [if_pos z]
      exact hb Γ' _ (So.sat_mono (So.sat_turn k) (fun Γ k => whileX_sat hc hb n Γ K k) (fun _ _ k => k) (fun _ k => k) (fun Γ k => whileX_sat hc hb n Γ K k) fun _ _ k => k)
    · rw [if_neg (by rw [z]; decide)]
      exact k
theorem Fr.sat_rs {r : Fr} {f : DK → List (Option DK) → Rs DK} {g : Exc → List (Option DK) → Rs DK} {Q : DK → Gm → Prop} {X : XD} (h : (r.rs f g).sat Q X) : r.sat (fun a fs => (f a fs).sat Q X) (fun a fs => (g a fs).sat Q X) := by cases r <;> exact h
theorem Fr.sat_mono {r : Fr} {Q Q' : DK → List (Option DK) → Prop} {X X' : Exc → List (Option DK) → Prop} (h : r.sat Q X) (q : ∀ a fs, Q a fs → Q' a fs) (x : ∀ a fs, X a fs → X' a fs) : r.sat Q' X' := by
  cases r with
  | ok a fs => exact q a fs h
  | exc a fs => exact x a fs h
  | bad => exact h
theorem So.sat_fin {o : So} {body : List IS} {n : Nat} {Q : DK → List (Option DK) → Prop} {X : Exc → List (Option DK) → Prop} (h : (o.fin body n).sat Q X) :
    o.sat { nx := fun Γ => Q (.non, 0) (fins body n Γ), rt := fun r Γ => Q r (fins body n Γ), bk := fun _ => False, ct := fun _ => False, ex := fun x Γ => X x (fins body n Γ) } := by cases o <;> exact h
end
mutual
theorem evX_ok : ∀ (e : IE) (t : Bool) (Γ : Gm) (Q : DK → Gm → Prop) (X : XD), (evX e t Γ).sat Q X → ev e t Γ Q X
  | .var i mv, t, Γ, Q, X, h => by
    simp only [evX] at h
    obtain ⟨⟨d, k⟩, e, h⟩ := opt_sat h
    simp only [ev, e]
    split at h
    · rename_i z; rw [if_pos z]; exact finX_sat h
    · rename_i z; rw [if_neg z]; exact finX_sat h
  | .cst c, t, Γ, Q, X, h => by simp only [evX] at h; simp only [ev]; exact finX_sat h
  | .glob _ c, t, Γ, Q, X, h => by simp only [evX] at h; simp only [ev]; exact finX_sat h
  | .op o es, t, Γ, Q, X, h => by
    simp only [evX] at h
    simp only [ev]
    refine evLX_ok es Γ _ _ (Rs.sat_mono (Rs.sat_bind h) (fun rs Γ' k => ?_) fun _ _ z => z)
    obtain ⟨ds, e, k⟩ := opt_sat k
    obtain ⟨r, e2, k⟩ := opt_sat k
    simp only [e, e2]
    exact finX_sat k
  | .int1 e, t, Γ, Q, X, h => by
    simp only [evX] at h
    simp only [ev]
    refine evX_ok e false Γ _ _ (Rs.sat_mono (Rs.sat_bind h) (fun rs Γ' k => ?_) fun _ _ z => z)
    obtain ⟨i, e, k⟩ := intX_sat k
    simp only [e]
    exact finX_sat k
  | .str1 e, t, Γ, Q, X, h => by
    simp only [evX] at h
    simp only [ev]
    refine evX_ok e false Γ _ _ (Rs.sat_mono (Rs.sat_bind h) (fun rs Γ' k => ?_) fun _ _ z => z)
    obtain ⟨i, e, k⟩ := strX_sat k
    simp only [e]
    exact finX_sat k
  | .lst es, t, Γ, Q, X, h => by
    simp only [evX] at h
    simp only [ev]
    refine evLX_ok es Γ _ _ (Rs.sat_mono (Rs.sat_bind h) (fun rs Γ' k => ?_) fun _ _ z => z)
    obtain ⟨ds, e, k⟩ := opt_sat k
    simp only [e]
    split at k
    · rename_i z; rw [if_pos z]; exact finX_sat k
    · exact k.elim
  | .and es, t, Γ, Q, X, h => by
    simp only [evX] at h
    simp only [ev]
    exact evAndX_ok es t Γ Q X h
  | .or es, t, Γ, Q, X, h => by
    simp only [evX] at h
    simp only [ev]
    exact evOrX_ok es t Γ Q X h
  | .not e, t, Γ, Q, X, h => by
    simp only [evX] at h
    simp only [ev]
    refine evX_ok e t Γ _ _ (Rs.sat_mono (Rs.sat_bind h) (fun rs Γ' k => ?_) fun _ _ z => z)
    obtain ⟨i, e, k⟩ := opt_sat k
    simp only [e]
    exact k
  | .ite c a b, t, Γ, Q, X, h => by
    simp only [evX] at h
    simp only [ev]
    refine evX_ok c true Γ _ _ (Rs.sat_mono (Rs.sat_bind h) (fun rs Γ' k => ?_) fun _ _ z => z)
    obtain ⟨s, e, k⟩ := boolX_sat k
    simp only [asB, e]
    rcases brn_sat k with ⟨z, k⟩ | ⟨z, k⟩
    · rw [if_pos z]; exact evX_ok a t Γ' Q X k
    · rw [if_neg (by rw [z]; decide)]; exact evX_ok b t Γ' Q X k
  | .chain o o' a b c, t, Γ, Q, X, h => by
    simp only [evX] at h
    simp only [ev]
    refine evX_ok a false Γ _ _ (Rs.sat_mono (Rs.sat_bind h) (fun r1 Γ1 k => ?_) fun _ _ z => z)
    refine evX_ok b false Γ1 _ _ (Rs.sat_mono (Rs.sat_bind k) (fun r2 Γ2 k => ?_) fun _ _ z => z)
    obtain ⟨x, e1, k⟩ := intX_sat k
    obtain ⟨y, e2, k⟩ := intX_sat k
    obtain ⟨s, e3, k⟩ := opt_sat k
    simp only [e1, e2, e3]
    rcases brn_sat k with ⟨z, k⟩ | ⟨z, k⟩
    · subst z
      refine evX_ok c false Γ2 _ _ (Rs.sat_mono (Rs.sat_bind k) (fun r3 Γ3 k => ?_) fun _ _ z => z)
      obtain ⟨x, e1, k⟩ := intX_sat k
      obtain ⟨s, e3, k⟩ := opt_sat k
      simp only [e1, e3]
      exact finX_sat k
    · subst z; exact finX_sat k
  | .call f es, t, Γ, Q, X, h => by
    simp only [evX] at h
    simp only [ev]
    refine evLX_ok es Γ _ _ (Rs.sat_mono (Rs.sat_bind h) (fun rs Γ1 k => ?_) fun _ _ z => z)
    obtain ⟨⟨as, Γ2⟩, e, k⟩ := opt_sat k
    simp only [e]
    exact runF_ok f as _ _ (Fr.sat_mono (Fr.sat_rs k) (fun a fs k => finX_sat k) fun x fs k => k)
  | .comp own tg it es ifs elt, t, Γ, Q, X, h => by
    simp only [evX] at h
    simp only [ev]
    refine evLX_ok es Γ _ _ (Rs.sat_mono (Rs.sat_bind h) (fun rs Γ1 k => ?_) fun _ _ z => z)
    obtain ⟨ds, e, k⟩ := opt_sat k
    simp only [e]
    split at k
    · rename_i hl
      refine ⟨hl, ?_⟩
      refine compX_sat (fun d Γ2 K X' k hX => ?_) ds _ [] _ X (Rs.sat_mono (Rs.sat_bind k) (fun a Γ' k => finX_sat k) fun _ _ z => z)
      obtain ⟨Γ3, e2, k⟩ := opt_sat k
      simp only [e2]
      refine evIfsX_ok ifs Γ3 _ X' hX (Rs.sat_mono (Rs.sat_bind k) (fun b Γ4 k => ?_) fun _ _ z => z)
      rcases brn_sat k with ⟨z, k⟩ | ⟨z, k⟩
      · rw [if_pos z]
        exact evX_ok elt false Γ4 _ _ (Rs.sat_mono (Rs.sat_bind k) (fun _ _ z => z) fun a Γ z => hX a Γ z)
      · rw [if_neg (by rw [z]; decide)]; exact k
    · exact k.elim
  | .bor _, _, _, _, _, h => by simp only [evX] at h; exact h.elim
  | .loan _, _, _, _, _, h => by simp only [evX] at h; exact h.elim
theorem evLX_ok : ∀ (es : List IE) (Γ : Gm) (Q : List OR → Gm → Prop) (X : XD), (evLX es Γ).sat Q X → evL es Γ Q X
  | [], Γ, Q, X, h => by simp only [evLX] at h; simp only [evL]; exact h
  | e :: es, Γ, Q, X, h => by
    have IH := evLX_ok es
    have I1 := evX_ok e false Γ
    cases e
    case bor i =>
      simp only [evLX] at h
      simp only [evL]
      obtain ⟨x, e, h⟩ := opt_sat h
      simp only [e]
      exact IH Γ _ _ (Rs.sat_mono (Rs.sat_bind h) (fun _ _ z => z) fun _ _ z => z)
    case loan i =>
      simp only [evLX] at h
      simp only [evL]
      obtain ⟨x, e, h⟩ := opt_sat h
      simp only [e]
      exact IH Γ _ _ (Rs.sat_mono (Rs.sat_bind h) (fun _ _ z => z) fun _ _ z => z)
    all_goals
      simp only [evLX] at h
      simp only [evL]
      exact I1 _ _ (Rs.sat_mono (Rs.sat_bind h) (fun r Γ' k => IH Γ' _ _ (Rs.sat_mono (Rs.sat_bind k) (fun _ _ z => z) fun _ _ z => z)) fun _ _ z => z)
theorem evAndX_ok : ∀ (es : List IE) (t : Bool) (Γ : Gm) (Q : DK → Gm → Prop) (X : XD), (evAndX es t Γ).sat Q X → evAnd es t Γ Q X
  | [], t, Γ, Q, X, h => by simp only [evAndX] at h; exact h.elim
  | [e], t, Γ, Q, X, h => by simp only [evAndX] at h; simp only [evAnd]; exact evX_ok e t Γ Q X h
  | e :: e2 :: es, t, Γ, Q, X, h => by
    simp only [evAndX] at h
    simp only [evAnd]
    refine evX_ok e t Γ _ _ (Rs.sat_mono (Rs.sat_bind h) (fun r Γ' k => ?_) fun _ _ z => z)
    obtain ⟨b, e, k⟩ := opt_sat k
    simp only [e]
    rcases brn_sat k with ⟨z, k⟩ | ⟨z, k⟩
    · subst z; exact evAndX_ok (e2 :: es) t Γ' Q X k
    · subst z; exact k
theorem evOrX_ok : ∀ (es : List IE) (t : Bool) (Γ : Gm) (Q : DK → Gm → Prop) (X : XD), (evOrX es t Γ).sat Q X → evOr es t Γ Q X
  | [], t, Γ, Q, X, h => by simp only [evOrX] at h; exact h.elim
  | [e], t, Γ, Q, X, h => by simp only [evOrX] at h; simp only [evOr]; exact evX_ok e t Γ Q X h
  | e :: e2 :: es, t, Γ, Q, X, h => by
    simp only [evOrX] at h
    simp only [evOr]
    refine evX_ok e t Γ _ _ (Rs.sat_mono (Rs.sat_bind h) (fun r Γ' k => ?_) fun _ _ z => z)
    obtain ⟨b, e, k⟩ := opt_sat k
    simp only [e]
    rcases brn_sat k with ⟨z, k⟩ | ⟨z, k⟩
    · subst z; exact k
    · subst z; exact evOrX_ok (e2 :: es) t Γ' Q X k
theorem evIfsX_ok : ∀ (es : List IE) (Γ : Gm) (Q : Bool → Gm → Prop) (X : XD) (_ : ∀ a Γ, X a Γ → False), (evIfsX es Γ).sat Q X → evIfs es Γ Q
  | [], Γ, Q, X, _, h => by simp only [evIfsX] at h; simp only [evIfs]; exact h
  | e :: es, Γ, Q, X, hX, h => by
    simp only [evIfsX] at h
    simp only [evIfs]
    refine evX_ok e true Γ _ _ (Rs.sat_mono (Rs.sat_bind h) (fun r Γ' k => ?_) fun a Γ z => hX a Γ z)
    obtain ⟨b, e, k⟩ := boolX_sat k
    simp only [asB, e]
    rcases brn_sat k with ⟨z, k⟩ | ⟨z, k⟩
    · rw [if_pos z]; exact evIfsX_ok es Γ' Q X hX k
    · rw [if_neg (by rw [z]; decide)]; exact k
theorem xsX_ok : ∀ (s : IS) (Γ : Gm) (K : DE), (xsX s Γ).sat K → xs s Γ K
  | .asg i e, Γ, K, h => by
    simp only [xsX] at h
    simp only [xs]
    exact evX_ok e false Γ _ _ (Rs.sat_st h)
  | .asgs ts es, Γ, K, h => by
    simp only [xsX] at h
    simp only [xs]
    refine evLX_ok es Γ _ _ (Rs.sat_mono (Rs.sat_st h) (fun r Γ' k => ?_) fun _ _ z => z)
    obtain ⟨x, e, k⟩ := opt_satS k
    simp only [e]
    exact k
  | .asgT tg e, Γ, K, h => by
    simp only [xsX] at h
    simp only [xs]
    refine evX_ok e false Γ _ _ (Rs.sat_mono (Rs.sat_st h) (fun r Γ' k => ?_) fun _ _ z => z)
    obtain ⟨x, e, k⟩ := opt_satS k
    simp only [e]
    exact k
  | .aug i o e, Γ, K, h => by
    simp only [xsX] at h
    simp only [xs]
    refine evX_ok e false Γ _ _ (Rs.sat_mono (Rs.sat_st h) (fun r Γ' k => ?_) fun _ _ z => z)
    obtain ⟨⟨d, kk⟩, e1, k1⟩ := opt_satS k
    obtain ⟨a, e2, k2⟩ := intX_satS k1
    obtain ⟨b, e3, k3⟩ := intX_satS k2
    obtain ⟨z, e4, k4⟩ := opt_satS k3
    have e5 : d = .int a := e2
    clear k1 k
    subst e5
    simp only [e1, e3, e4]
    exact k4
  | .setI i ix e, Γ, K, h => by
    simp only [xsX] at h
    simp only [xs]
    refine evX_ok e false Γ _ _ (Rs.sat_mono (Rs.sat_st h) (fun r Γ1 k => ?_) fun _ _ z => z)
    rcases brn_satS k with ⟨z, k⟩ | ⟨z, k⟩
    · refine ⟨z, evX_ok ix false Γ1 _ _ (Rs.sat_mono (Rs.sat_st k) (fun r Γ' k => ?_) fun _ _ z => z)⟩
      obtain ⟨x, e1, k⟩ := opt_satS k
      obtain ⟨y, e2, k⟩ := opt_satS k
      simp only [e1, e2]
      exact k
    · exact k.elim
  | .augI i ix o e, Γ, K, h => by
    simp only [xsX] at h
    simp only [xs]
    rcases brn_satS h with ⟨z, k⟩ | ⟨z, k⟩
    · refine ⟨z, evX_ok ix false Γ _ _ (Rs.sat_mono (Rs.sat_st k) (fun n Γ1 k => ?_) fun _ _ z => z)⟩
      obtain ⟨ys, e1, k1⟩ := lst1X_satS k
      obtain ⟨j, e2, k2⟩ := intX_satS k1
      obtain ⟨w, e3, k3⟩ := opt_satS k2
      obtain ⟨a, e4, k4⟩ := intX_satS k3
      have e4 : w = .int a := e4
      rw [e4] at e3
      simp only [e1, e2, e3]
      refine evX_ok e false Γ1 _ _ (Rs.sat_mono (Rs.sat_st k4) (fun r Γ2 k => ?_) fun _ _ z => z)
      obtain ⟨b, e5, k5⟩ := intX_satS k
      obtain ⟨zs, e6, k6⟩ := lst1X_satS k5
      obtain ⟨p, e7, k7⟩ := opt_satS k6
      obtain ⟨y, e8, k8⟩ := opt_satS k7
      simp only [e5, e6, e7, e8]
      exact k8
    · exact k.elim
  | .mut i m es, Γ, K, h => by
    simp only [xsX] at h
    simp only [xs]
    rcases brn_satS h with ⟨z, k⟩ | ⟨z, k⟩
    · refine ⟨z, evLX_ok es Γ _ _ (Rs.sat_mono (Rs.sat_st k) (fun r Γ' k => ?_) fun _ _ z => z)⟩
      obtain ⟨x, e1, k⟩ := opt_satS k
      obtain ⟨y, e2, k⟩ := opt_satS k
      obtain ⟨y, e3, k⟩ := opt_satS k
      simp only [e1, e2, e3]
      exact k
    · exact k.elim
  | .ex e, Γ, K, h => by
    simp only [xsX] at h
    simp only [xs]
    exact evX_ok e false Γ _ _ (Rs.sat_st h)
  | .ite c a b, Γ, K, h => by
    simp only [xsX] at h
    simp only [xs]
    refine evX_ok c true Γ _ _ (Rs.sat_mono (Rs.sat_st h) (fun rs Γ' k => ?_) fun _ _ z => z)
    obtain ⟨s, e, k⟩ := boolX_satS k
    simp only [asB, e]
    rcases brn_satS k with ⟨z, k⟩ | ⟨z, k⟩
    · rw [if_pos z]; exact xssX_ok a Γ' K k
    · rw [if_neg (by rw [z]; decide)]; exact xssX_ok b Γ' K k
  | .loop tg it es body, Γ, K, h => by
    simp only [xsX] at h
    simp only [xs]
    refine evLX_ok es Γ _ _ (Rs.sat_mono (Rs.sat_st h) (fun rs Γ1 k => ?_) fun _ _ z => z)
    obtain ⟨ds, e, k⟩ := opt_satS k
    simp only [e]
    refine forX_sat (fun d Γ2 K2 k => ?_) ds Γ1 K k
    obtain ⟨Γ3, e, k⟩ := opt_satS k
    simp only [e]
    exact xssX_ok body Γ3 K2 k
  | .while c body, Γ, K, h => by
    simp only [xsX] at h
    simp only [xs]
    exact ⟨fuelN, whileX_sat (fun Γ Q X k => evX_ok c true Γ _ _ k) (fun Γ K k => xssX_ok body Γ K k) fuelN Γ K h⟩
  | .ret e, Γ, K, h => by
    simp only [xsX] at h
    simp only [xs]
    exact evX_ok e false Γ _ _ (Rs.sat_st h)
  | .retN, Γ, K, h => by simp only [xsX] at h; simp only [xs]; exact h
  | .pass, Γ, K, h => by simp only [xsX] at h; simp only [xs]; exact h
  | .brk, Γ, K, h => by simp only [xsX] at h; simp only [xs]; exact h
  | .cont, Γ, K, h => by simp only [xsX] at h; simp only [xs]; exact h
theorem xssX_ok : ∀ (ss : List IS) (Γ : Gm) (K : DE), (xssX ss Γ).sat K → xss ss Γ K
  | [], Γ, K, h => by simp only [xssX] at h; simp only [xss]; exact h
  | s :: r, Γ, K, h => by
    simp only [xssX] at h
    simp only [xss]
    exact xsX_ok s Γ _ (So.sat_mono (So.sat_seq h) (fun Γ k => xssX_ok r Γ K k) (fun _ _ k => k) (fun _ k => k) (fun _ k => k) fun _ _ k => k)
theorem runF_ok : ∀ (f : FunIR) (as : List DK) (Q : DK → List (Option DK) → Prop) (X : Exc → List (Option DK) → Prop), (runF f as).sat Q X → semF f as Q X
  | .mk _ ps N body, as, Q, X, h => by
    simp only [runF] at h
    simp only [semF]
    split at h
    · rename_i e
      exact ⟨e, xssX_ok body _ _ (So.sat_fin h)⟩
    · exact h.elim
termination_by structural x1 => x1
end
end DL
namespace DL
open PySem PySem.Spec PyProof.Rows L2
/-! ### running by simp: what is behind is kept as text (no binders), so that simp looks at what comes first -/
/-- what is given back -/
def finA (as : List Nat) : Nat → Nat → Gm → List (Option DK)
  | _, 0, _ => []
  | j, n + 1, x :: g => (if as.contains j = true then none else x) :: finA as (j + 1) n g
  | j, n + 1, [] => none :: finA as (j + 1) n []
theorem finA_eq (as : List Nat) : ∀ (n j : Nat) (Γ : Gm), finA as j n Γ = (List.range n).map fun i => if as.contains (j + i) then none else Γ.getD i none
  | 0, j, Γ => rfl
  | n + 1, j, [] => by
    rw [finA, finA_eq as n (j + 1) [], List.range_succ_eq_map, List.map_cons, List.map_map]
    congr 1
    · simp
    · refine List.map_congr_left fun i _ => ?_
      simp
  | n + 1, j, x :: g => by
    rw [finA, finA_eq as n (j + 1) g, List.range_succ_eq_map, List.map_cons, List.map_map]
    congr 1
    refine List.map_congr_left fun i _ => ?_
    simp [Nat.add_assoc, Nat.add_comm 1 i]
theorem fins_eq (body : List IS) (n : Nat) (Γ : Gm) : fins body n Γ = finA (asgns body) 0 n Γ := by
  rw [finA_eq]
  simp [fins]

section
variable {α β : Type}
@[simp] theorem So.fin_nx {Γ : Gm} {b : List IS} {n : Nat} : (So.nx Γ).fin b n = .ok (.non, 0) (finA (asgns b) 0 n Γ) := by rw [← fins_eq]; rfl
@[simp] theorem So.fin_rt {r : DK} {Γ : Gm} {b : List IS} {n : Nat} : (So.rt r Γ).fin b n = .ok r (finA (asgns b) 0 n Γ) := by rw [← fins_eq]; rfl
@[simp] theorem So.fin_exc {x : Exc} {Γ : Gm} {b : List IS} {n : Nat} : (So.exc x Γ).fin b n = .exc x (finA (asgns b) 0 n Γ) := by rw [← fins_eq]; rfl
@[simp] theorem opt_some {a : α} {f : α → β} {z : β} : opt (some a) f z = f a := rfl
@[simp] theorem opt_none {f : α → β} {z : β} : opt none f z = z := rfl
@[simp] theorem finX_f {r : DK} {Γ : Gm} : finX false r Γ = .ok r Γ := rfl
theorem finX_t {r : DK} {Γ : Gm} : finX true r Γ = opt (truth r.1) (fun b => .ok (.bl b, 0) Γ) .bad := rfl
@[simp] theorem finX_tb {b : Bool} {k : Nat} {Γ : Gm} : finX true (.bl b, k) Γ = .ok (.bl b, 0) Γ := rfl
@[simp] theorem finX_ti {b : Int} {k : Nat} {Γ : Gm} : finX true (.int b, k) Γ = .ok (.bl (b != 0), 0) Γ := rfl
@[simp] theorem finX_tn {k : Nat} {Γ : Gm} : finX true (.non, k) Γ = .ok (.bl false, 0) Γ := rfl
@[simp] theorem finX_tl {k : Nat} {xs : List D} {Γ : Gm} : finX true (.lst xs, k) Γ = .ok (.bl (!xs.isEmpty), 0) Γ := rfl
@[simp] theorem finX_tt {k : Nat} {xs : List D} {Γ : Gm} : finX true (.tup xs, k) Γ = .ok (.bl (!xs.isEmpty), 0) Γ := rfl
end
def varM (t : Bool) (i : Nat) (Γ : Gm) (r : DK) : Bool → Rs DK
  | true => finX t r (Γ.set i none)
  | false => finX t (r.1, 0) (Γ.set i (some (r.1, 0)))
@[simp] theorem varM_true {t : Bool} {i : Nat} {Γ : Gm} {r : DK} : varM t i Γ r true = finX t r (Γ.set i none) := rfl
@[simp] theorem varM_false {t : Bool} {i : Nat} {Γ : Gm} {r : DK} : varM t i Γ r false = finX t (r.1, 0) (Γ.set i (some (r.1, 0))) := rfl
def varK (t : Bool) (mv : Bool) (i : Nat) (Γ : Gm) : Option (DK) → Rs DK
  | some r => varM t i Γ r mv
  | none => .bad
@[simp] theorem varK_some {t : Bool} {mv : Bool} {i : Nat} {Γ : Gm} {r : DK} : varK t mv i Γ (some r) = varM t i Γ r mv := rfl
@[simp] theorem varK_none {t : Bool} {mv : Bool} {i : Nat} {Γ : Gm} : varK t mv i Γ none = .bad := rfl
def fin1 (t : Bool) (Γ : Gm) : Option (DK) → Rs DK
  | some r => finX t r Γ
  | none => .bad
@[simp] theorem fin1_some {t : Bool} {Γ : Gm} {r : DK} : fin1 t Γ (some r) = finX t r Γ := rfl
@[simp] theorem fin1_none {t : Bool} {Γ : Gm} : fin1 t Γ none = .bad := rfl
def op1 (o : Op) (t : Bool) (Γ : Gm) : Option (List D) → Rs DK
  | some ds => fin1 t Γ (opD o ds)
  | none => .bad
@[simp] theorem op1_some {o : Op} {t : Bool} {Γ : Gm} {ds : List D} : op1 o t Γ (some ds) = fin1 t Γ (opD o ds) := rfl
@[simp] theorem op1_none {o : Op} {t : Bool} {Γ : Gm} : op1 o t Γ none = .bad := rfl
def opK (o : Op) (t : Bool) : Rs (List OR) → Rs DK
  | .ok rs Γ' => op1 o t Γ' (der o.st Γ' rs)
  | .exc x Γ => .exc x Γ
  | .bad => .bad
@[simp] theorem opK_ok {o : Op} {t : Bool} {rs : List OR} {Γ' : Gm} : opK o t (.ok rs Γ') = op1 o t Γ' (der o.st Γ' rs) := rfl
@[simp] theorem opK_exc {o : Op} {t : Bool} {x : Exc} {Γ : Gm} : opK o t (.exc x Γ) = .exc x Γ := rfl
@[simp] theorem opK_bad {o : Op} {t : Bool} : opK o t .bad = .bad := rfl
def i1 (t : Bool) (Γ : Gm) : D → Rs DK
  | .int i => finX t (.int i, 0) Γ
  | _ => .bad
@[simp] theorem i1_v {t : Bool} {Γ : Gm} {i : Int} : i1 t Γ (.int i) = finX t (.int i, 0) Γ := rfl
def int1K (t : Bool) : Rs DK → Rs DK
  | .ok r Γ' => i1 t Γ' r.1
  | .exc x Γ => .exc x Γ
  | .bad => .bad
@[simp] theorem int1K_ok {t : Bool} {r : DK} {Γ' : Gm} : int1K t (.ok r Γ') = i1 t Γ' r.1 := rfl
@[simp] theorem int1K_exc {t : Bool} {x : Exc} {Γ : Gm} : int1K t (.exc x Γ) = .exc x Γ := rfl
@[simp] theorem int1K_bad {t : Bool} : int1K t .bad = .bad := rfl
def s1 (t : Bool) (Γ : Gm) : D → Rs DK
  | .str i => finX t (.str i, 0) Γ
  | _ => .bad
@[simp] theorem s1_v {t : Bool} {Γ : Gm} {i : Str} : s1 t Γ (.str i) = finX t (.str i, 0) Γ := rfl
def str1K (t : Bool) : Rs DK → Rs DK
  | .ok r Γ' => s1 t Γ' r.1
  | .exc x Γ => .exc x Γ
  | .bad => .bad
@[simp] theorem str1K_ok {t : Bool} {r : DK} {Γ' : Gm} : str1K t (.ok r Γ') = s1 t Γ' r.1 := rfl
@[simp] theorem str1K_exc {t : Bool} {x : Exc} {Γ : Gm} : str1K t (.exc x Γ) = .exc x Γ := rfl
@[simp] theorem str1K_bad {t : Bool} : str1K t .bad = .bad := rfl
def l1 (t : Bool) (Γ : Gm) : Option (List D) → Rs DK
  | some ds => if ds.length ≤ lim then finX t (.lst ds, 1) Γ else .bad
  | none => .bad
@[simp] theorem l1_some {t : Bool} {Γ : Gm} {ds : List D} : l1 t Γ (some ds) = if ds.length ≤ lim then finX t (.lst ds, 1) Γ else .bad := rfl
@[simp] theorem l1_none {t : Bool} {Γ : Gm} : l1 t Γ none = .bad := rfl
def lstK (t : Bool) : Rs (List OR) → Rs DK
  | .ok rs Γ' => l1 t Γ' (valsD rs)
  | .exc x Γ => .exc x Γ
  | .bad => .bad
@[simp] theorem lstK_ok {t : Bool} {rs : List OR} {Γ' : Gm} : lstK t (.ok rs Γ') = l1 t Γ' (valsD rs) := rfl
@[simp] theorem lstK_exc {t : Bool} {x : Exc} {Γ : Gm} : lstK t (.exc x Γ) = .exc x Γ := rfl
@[simp] theorem lstK_bad {t : Bool} : lstK t .bad = .bad := rfl
def n1 (Γ : Gm) : Option (Bool) → Rs DK
  | some b => .ok (.bl (!b), 0) Γ
  | none => .bad
@[simp] theorem n1_some {Γ : Gm} {b : Bool} : n1 Γ (some b) = .ok (.bl (!b), 0) Γ := rfl
@[simp] theorem n1_none {Γ : Gm} : n1 Γ none = .bad := rfl
def notK  : Rs DK → Rs DK
  | .ok r Γ' => n1 Γ' (truth r.1)
  | .exc x Γ => .exc x Γ
  | .bad => .bad
@[simp] theorem notK_ok  {r : DK} {Γ' : Gm} : notK  (.ok r Γ') = n1 Γ' (truth r.1) := rfl
@[simp] theorem notK_exc  {x : Exc} {Γ : Gm} : notK  (.exc x Γ) = .exc x Γ := rfl
@[simp] theorem notK_bad  : notK  .bad = .bad := rfl
def if2 (t : Bool) (a : IE) (b : IE) (Γ : Gm) : Bool → Rs DK
  | true => evX a t Γ
  | false => evX b t Γ
@[simp] theorem if2_true {t : Bool} {a : IE} {b : IE} {Γ : Gm} : if2 t a b Γ true = evX a t Γ := rfl
@[simp] theorem if2_false {t : Bool} {a : IE} {b : IE} {Γ : Gm} : if2 t a b Γ false = evX b t Γ := rfl
def if1 (t : Bool) (a : IE) (b : IE) (Γ : Gm) : D → Rs DK
  | .bl s => if2 t a b Γ s
  | _ => .bad
@[simp] theorem if1_v {t : Bool} {a : IE} {b : IE} {Γ : Gm} {s : Bool} : if1 t a b Γ (.bl s) = if2 t a b Γ s := rfl
def iteK (t : Bool) (a : IE) (b : IE) : Rs DK → Rs DK
  | .ok r Γ' => if1 t a b Γ' r.1
  | .exc x Γ => .exc x Γ
  | .bad => .bad
@[simp] theorem iteK_ok {t : Bool} {a : IE} {b : IE} {r : DK} {Γ' : Gm} : iteK t a b (.ok r Γ') = if1 t a b Γ' r.1 := rfl
@[simp] theorem iteK_exc {t : Bool} {a : IE} {b : IE} {x : Exc} {Γ : Gm} : iteK t a b (.exc x Γ) = .exc x Γ := rfl
@[simp] theorem iteK_bad {t : Bool} {a : IE} {b : IE} : iteK t a b .bad = .bad := rfl
def ch7 (t : Bool) (Γ : Gm) : Option (Bool) → Rs DK
  | some k => finX t (.bl k, 0) Γ
  | none => .bad
@[simp] theorem ch7_some {t : Bool} {Γ : Gm} {k : Bool} : ch7 t Γ (some k) = finX t (.bl k, 0) Γ := rfl
@[simp] theorem ch7_none {t : Bool} {Γ : Gm} : ch7 t Γ none = .bad := rfl
def ch6 (o' : Op) (y : Int) (t : Bool) (Γ : Gm) : D → Rs DK
  | .int z => ch7 t Γ (cmpI o' y z)
  | _ => .bad
@[simp] theorem ch6_v {o' : Op} {y : Int} {t : Bool} {Γ : Gm} {z : Int} : ch6 o' y t Γ (.int z) = ch7 t Γ (cmpI o' y z) := rfl
def ch5 (o' : Op) (y : Int) (t : Bool) : Rs DK → Rs DK
  | .ok r3 Γ3 => ch6 o' y t Γ3 r3.1
  | .exc x Γ => .exc x Γ
  | .bad => .bad
@[simp] theorem ch5_ok {o' : Op} {y : Int} {t : Bool} {r3 : DK} {Γ3 : Gm} : ch5 o' y t (.ok r3 Γ3) = ch6 o' y t Γ3 r3.1 := rfl
@[simp] theorem ch5_exc {o' : Op} {y : Int} {t : Bool} {x : Exc} {Γ : Gm} : ch5 o' y t (.exc x Γ) = .exc x Γ := rfl
@[simp] theorem ch5_bad {o' : Op} {y : Int} {t : Bool} : ch5 o' y t .bad = .bad := rfl
def ch4 (o' : Op) (c : IE) (t : Bool) (Γ : Gm) (y : Int) : Bool → Rs DK
  | true => ch5 o' y t (evX c false Γ)
  | false => finX t (.bl false, 0) Γ
@[simp] theorem ch4_true {o' : Op} {c : IE} {t : Bool} {Γ : Gm} {y : Int} : ch4 o' c t Γ y true = ch5 o' y t (evX c false Γ) := rfl
@[simp] theorem ch4_false {o' : Op} {c : IE} {t : Bool} {Γ : Gm} {y : Int} : ch4 o' c t Γ y false = finX t (.bl false, 0) Γ := rfl
def ch3 (o' : Op) (c : IE) (t : Bool) (Γ : Gm) (y : Int) : Option (Bool) → Rs DK
  | some s => ch4 o' c t Γ y s
  | none => .bad
@[simp] theorem ch3_some {o' : Op} {c : IE} {t : Bool} {Γ : Gm} {y : Int} {s : Bool} : ch3 o' c t Γ y (some s) = ch4 o' c t Γ y s := rfl
@[simp] theorem ch3_none {o' : Op} {c : IE} {t : Bool} {Γ : Gm} {y : Int} : ch3 o' c t Γ y none = .bad := rfl
def ch2 (o : Op) (o' : Op) (c : IE) (t : Bool) (x : Int) (Γ : Gm) : D → Rs DK
  | .int y => ch3 o' c t Γ y (cmpI o x y)
  | _ => .bad
@[simp] theorem ch2_v {o : Op} {o' : Op} {c : IE} {t : Bool} {x : Int} {Γ : Gm} {y : Int} : ch2 o o' c t x Γ (.int y) = ch3 o' c t Γ y (cmpI o x y) := rfl
def ch1 (o : Op) (o' : Op) (c : IE) (t : Bool) (r2 : DK) (Γ : Gm) : D → Rs DK
  | .int x => ch2 o o' c t x Γ r2.1
  | _ => .bad
@[simp] theorem ch1_v {o : Op} {o' : Op} {c : IE} {t : Bool} {r2 : DK} {Γ : Gm} {x : Int} : ch1 o o' c t r2 Γ (.int x) = ch2 o o' c t x Γ r2.1 := rfl
def chB (o : Op) (o' : Op) (c : IE) (t : Bool) (r1 : DK) : Rs DK → Rs DK
  | .ok r2 Γ2 => ch1 o o' c t r2 Γ2 r1.1
  | .exc x Γ => .exc x Γ
  | .bad => .bad
@[simp] theorem chB_ok {o : Op} {o' : Op} {c : IE} {t : Bool} {r1 : DK} {r2 : DK} {Γ2 : Gm} : chB o o' c t r1 (.ok r2 Γ2) = ch1 o o' c t r2 Γ2 r1.1 := rfl
@[simp] theorem chB_exc {o : Op} {o' : Op} {c : IE} {t : Bool} {r1 : DK} {x : Exc} {Γ : Gm} : chB o o' c t r1 (.exc x Γ) = .exc x Γ := rfl
@[simp] theorem chB_bad {o : Op} {o' : Op} {c : IE} {t : Bool} {r1 : DK} : chB o o' c t r1 .bad = .bad := rfl
def chA (o : Op) (o' : Op) (b : IE) (c : IE) (t : Bool) : Rs DK → Rs DK
  | .ok r1 Γ1 => chB o o' c t r1 (evX b false Γ1)
  | .exc x Γ => .exc x Γ
  | .bad => .bad
@[simp] theorem chA_ok {o : Op} {o' : Op} {b : IE} {c : IE} {t : Bool} {r1 : DK} {Γ1 : Gm} : chA o o' b c t (.ok r1 Γ1) = chB o o' c t r1 (evX b false Γ1) := rfl
@[simp] theorem chA_exc {o : Op} {o' : Op} {b : IE} {c : IE} {t : Bool} {x : Exc} {Γ : Gm} : chA o o' b c t (.exc x Γ) = .exc x Γ := rfl
@[simp] theorem chA_bad {o : Op} {o' : Op} {b : IE} {c : IE} {t : Bool} : chA o o' b c t .bad = .bad := rfl
def callR (t : Bool) (rs : List OR) (Γ : Gm) : Fr → Rs DK
  | .ok r fs => finX t r (giveBack rs fs Γ)
  | .exc x Γ0 => .exc x (giveBack rs Γ0 Γ)
  | .bad => .bad
@[simp] theorem callR_ok {t : Bool} {rs : List OR} {Γ : Gm} {r : DK} {fs : List (Option DK)} : callR t rs Γ (.ok r fs) = finX t r (giveBack rs fs Γ) := rfl
@[simp] theorem callR_exc {t : Bool} {rs : List OR} {Γ : Gm} {x : Exc} {Γ0 : List (Option DK)} : callR t rs Γ (.exc x Γ0) = .exc x (giveBack rs Γ0 Γ) := rfl
@[simp] theorem callR_bad {t : Bool} {rs : List OR} {Γ : Gm} : callR t rs Γ .bad = .bad := rfl
def call1 (f : FunIR) (t : Bool) (rs : List OR) : Option (List DK × Gm) → Rs DK
  | some a => callR t rs a.2 (runF f a.1)
  | none => .bad
@[simp] theorem call1_some {f : FunIR} {t : Bool} {rs : List OR} {a : List DK × Gm} : call1 f t rs (some a) = callR t rs a.2 (runF f a.1) := rfl
@[simp] theorem call1_none {f : FunIR} {t : Bool} {rs : List OR} : call1 f t rs none = .bad := rfl
def callK (f : FunIR) (t : Bool) : Rs (List OR) → Rs DK
  | .ok rs Γ1 => call1 f t rs (takeArgs Γ1 rs)
  | .exc x Γ => .exc x Γ
  | .bad => .bad
@[simp] theorem callK_ok {f : FunIR} {t : Bool} {rs : List OR} {Γ1 : Gm} : callK f t (.ok rs Γ1) = call1 f t rs (takeArgs Γ1 rs) := rfl
@[simp] theorem callK_exc {f : FunIR} {t : Bool} {x : Exc} {Γ : Gm} : callK f t (.exc x Γ) = .exc x Γ := rfl
@[simp] theorem callK_bad {f : FunIR} {t : Bool} : callK f t .bad = .bad := rfl
/-- a comprehension's turns -/
def compS (own : List Nat) (tg : Tg) (ifs : List IE) (elt : IE) : List D → Gm → List D → Rs DK :=
  compX (fun d Γ2 => opt (setTg tg (d, 0) (wipeG Γ2 own)) (fun Γ3 => (evIfsX ifs Γ3).bind fun b Γ4 => brn b ((evX elt false Γ4).bind fun r Γ5 => .ok (some r) Γ5) (.ok none Γ4)) .bad)
@[simp] theorem compS_nil {own : List Nat} {tg : Tg} {ifs : List IE} {elt : IE} {Γ : Gm} {acc : List D} : compS own tg ifs elt [] Γ acc = .ok (.lst acc, 1) Γ := rfl
def cm5 (own : List Nat) (tg : Tg) (ifs : List IE) (elt : IE) (ds : List D) (acc : List D) : Rs DK → Rs DK
  | .ok r Γ5 => compS own tg ifs elt ds Γ5 (acc ++ [r.1])
  | .exc x Γ => .bad
  | .bad => .bad
@[simp] theorem cm5_ok {own : List Nat} {tg : Tg} {ifs : List IE} {elt : IE} {ds : List D} {acc : List D} {r : DK} {Γ5 : Gm} : cm5 own tg ifs elt ds acc (.ok r Γ5) = compS own tg ifs elt ds Γ5 (acc ++ [r.1]) := rfl
@[simp] theorem cm5_exc {own : List Nat} {tg : Tg} {ifs : List IE} {elt : IE} {ds : List D} {acc : List D} {x : Exc} {Γ : Gm} : cm5 own tg ifs elt ds acc (.exc x Γ) = .bad := rfl
@[simp] theorem cm5_bad {own : List Nat} {tg : Tg} {ifs : List IE} {elt : IE} {ds : List D} {acc : List D} : cm5 own tg ifs elt ds acc .bad = .bad := rfl
def cm4 (own : List Nat) (tg : Tg) (ifs : List IE) (elt : IE) (ds : List D) (acc : List D) (Γ : Gm) : Bool → Rs DK
  | true => cm5 own tg ifs elt ds acc (evX elt false Γ)
  | false => compS own tg ifs elt ds Γ acc
@[simp] theorem cm4_true {own : List Nat} {tg : Tg} {ifs : List IE} {elt : IE} {ds : List D} {acc : List D} {Γ : Gm} : cm4 own tg ifs elt ds acc Γ true = cm5 own tg ifs elt ds acc (evX elt false Γ) := rfl
@[simp] theorem cm4_false {own : List Nat} {tg : Tg} {ifs : List IE} {elt : IE} {ds : List D} {acc : List D} {Γ : Gm} : cm4 own tg ifs elt ds acc Γ false = compS own tg ifs elt ds Γ acc := rfl
def cm3 (own : List Nat) (tg : Tg) (ifs : List IE) (elt : IE) (ds : List D) (acc : List D) : Rs Bool → Rs DK
  | .ok b Γ4 => cm4 own tg ifs elt ds acc Γ4 b
  | .exc x Γ => .bad
  | .bad => .bad
@[simp] theorem cm3_ok {own : List Nat} {tg : Tg} {ifs : List IE} {elt : IE} {ds : List D} {acc : List D} {b : Bool} {Γ4 : Gm} : cm3 own tg ifs elt ds acc (.ok b Γ4) = cm4 own tg ifs elt ds acc Γ4 b := rfl
@[simp] theorem cm3_exc {own : List Nat} {tg : Tg} {ifs : List IE} {elt : IE} {ds : List D} {acc : List D} {x : Exc} {Γ : Gm} : cm3 own tg ifs elt ds acc (.exc x Γ) = .bad := rfl
@[simp] theorem cm3_bad {own : List Nat} {tg : Tg} {ifs : List IE} {elt : IE} {ds : List D} {acc : List D} : cm3 own tg ifs elt ds acc .bad = .bad := rfl
def cm2 (own : List Nat) (tg : Tg) (ifs : List IE) (elt : IE) (ds : List D) (acc : List D) : Option (Gm) → Rs DK
  | some Γ3 => cm3 own tg ifs elt ds acc (evIfsX ifs Γ3)
  | none => .bad
@[simp] theorem cm2_some {own : List Nat} {tg : Tg} {ifs : List IE} {elt : IE} {ds : List D} {acc : List D} {Γ3 : Gm} : cm2 own tg ifs elt ds acc (some Γ3) = cm3 own tg ifs elt ds acc (evIfsX ifs Γ3) := rfl
@[simp] theorem cm2_none {own : List Nat} {tg : Tg} {ifs : List IE} {elt : IE} {ds : List D} {acc : List D} : cm2 own tg ifs elt ds acc none = .bad := rfl
theorem compS_cons {own : List Nat} {tg : Tg} {ifs : List IE} {elt : IE} {Γ : Gm} {d : D} {ds acc : List D} : compS own tg ifs elt (d :: ds) Γ acc = cm2 own tg ifs elt ds acc (setTg tg (d, 0) (wipeG Γ own)) := by
  show (Rs.pure (opt (setTg tg (d, 0) (wipeG Γ own)) _ _)).bind _ = _
  cases setTg tg (d, 0) (wipeG Γ own) with
  | none => rfl
  | some Γ3 =>
    simp only [opt_some, cm2_some]
    cases evIfsX ifs Γ3 with
    | ok b Γ4 =>
      simp only [cm3_ok]
      cases b with
      | true =>
        simp only [cm4_true]
        show (Rs.pure ((evX elt false Γ4).bind _)).bind _ = _
        cases evX elt false Γ4 <;> rfl
      | false => rfl
    | exc x Γ4 => rfl
    | bad => rfl
def cmZ (t : Bool) (own : List Nat) (Γ1 : Gm) : Rs DK → Rs DK
  | .ok r Γ' => finX t r (backG Γ1 Γ' own)
  | .exc x Γ => .exc x Γ
  | .bad => .bad
@[simp] theorem cmZ_ok {t : Bool} {own : List Nat} {Γ1 : Gm} {r : DK} {Γ' : Gm} : cmZ t own Γ1 (.ok r Γ') = finX t r (backG Γ1 Γ' own) := rfl
@[simp] theorem cmZ_exc {t : Bool} {own : List Nat} {Γ1 : Gm} {x : Exc} {Γ : Gm} : cmZ t own Γ1 (.exc x Γ) = .exc x Γ := rfl
@[simp] theorem cmZ_bad {t : Bool} {own : List Nat} {Γ1 : Gm} : cmZ t own Γ1 .bad = .bad := rfl
def cm1 (own : List Nat) (tg : Tg) (ifs : List IE) (elt : IE) (t : Bool) (Γ : Gm) : Option (List D) → Rs DK
  | some ds => if ds.length ≤ lim then cmZ t own Γ (compS own tg ifs elt ds (wipeG Γ own) []) else .bad
  | none => .bad
@[simp] theorem cm1_some {own : List Nat} {tg : Tg} {ifs : List IE} {elt : IE} {t : Bool} {Γ : Gm} {ds : List D} : cm1 own tg ifs elt t Γ (some ds) = if ds.length ≤ lim then cmZ t own Γ (compS own tg ifs elt ds (wipeG Γ own) []) else .bad := rfl
@[simp] theorem cm1_none {own : List Nat} {tg : Tg} {ifs : List IE} {elt : IE} {t : Bool} {Γ : Gm} : cm1 own tg ifs elt t Γ none = .bad := rfl
def compK (own : List Nat) (tg : Tg) (ifs : List IE) (elt : IE) (it : ItK) (t : Bool) : Rs (List OR) → Rs DK
  | .ok rs Γ1 => cm1 own tg ifs elt t Γ1 (itD it rs)
  | .exc x Γ => .exc x Γ
  | .bad => .bad
@[simp] theorem compK_ok {own : List Nat} {tg : Tg} {ifs : List IE} {elt : IE} {it : ItK} {t : Bool} {rs : List OR} {Γ1 : Gm} : compK own tg ifs elt it t (.ok rs Γ1) = cm1 own tg ifs elt t Γ1 (itD it rs) := rfl
@[simp] theorem compK_exc {own : List Nat} {tg : Tg} {ifs : List IE} {elt : IE} {it : ItK} {t : Bool} {x : Exc} {Γ : Gm} : compK own tg ifs elt it t (.exc x Γ) = .exc x Γ := rfl
@[simp] theorem compK_bad {own : List Nat} {tg : Tg} {ifs : List IE} {elt : IE} {it : ItK} {t : Bool} : compK own tg ifs elt it t .bad = .bad := rfl
def li2 (r : OR) : Rs (List OR) → Rs (List OR)
  | .ok rs Γ2 => .ok (r :: rs) Γ2
  | .exc x Γ => .exc x Γ
  | .bad => .bad
@[simp] theorem li2_ok {r : OR} {rs : List OR} {Γ2 : Gm} : li2 r (.ok rs Γ2) = .ok (r :: rs) Γ2 := rfl
@[simp] theorem li2_exc {r : OR} {x : Exc} {Γ : Gm} : li2 r (.exc x Γ) = .exc x Γ := rfl
@[simp] theorem li2_bad {r : OR} : li2 r .bad = .bad := rfl
def li1 (es : List IE) : Rs DK → Rs (List OR)
  | .ok r Γ' => li2 (.v r.1 r.2) (evLX es Γ')
  | .exc x Γ => .exc x Γ
  | .bad => .bad
@[simp] theorem li1_ok {es : List IE} {r : DK} {Γ' : Gm} : li1 es (.ok r Γ') = li2 (.v r.1 r.2) (evLX es Γ') := rfl
@[simp] theorem li1_exc {es : List IE} {x : Exc} {Γ : Gm} : li1 es (.exc x Γ) = .exc x Γ := rfl
@[simp] theorem li1_bad {es : List IE} : li1 es .bad = .bad := rfl
def lib (es : List IE) (i : Nat) (Γ : Gm) : Option (DK) → Rs (List OR)
  | some r => li2 (.b i) (evLX es Γ)
  | none => .bad
@[simp] theorem lib_some {es : List IE} {i : Nat} {Γ : Gm} {r : DK} : lib es i Γ (some r) = li2 (.b i) (evLX es Γ) := rfl
@[simp] theorem lib_none {es : List IE} {i : Nat} {Γ : Gm} : lib es i Γ none = .bad := rfl
def lil (es : List IE) (i : Nat) (Γ : Gm) : Option (DK) → Rs (List OR)
  | some r => li2 (.l i) (evLX es Γ)
  | none => .bad
@[simp] theorem lil_some {es : List IE} {i : Nat} {Γ : Gm} {r : DK} : lil es i Γ (some r) = li2 (.l i) (evLX es Γ) := rfl
@[simp] theorem lil_none {es : List IE} {i : Nat} {Γ : Gm} : lil es i Γ none = .bad := rfl
def an2 (es : List IE) (t : Bool) (Γ : Gm) (r : DK) : Bool → Rs DK
  | true => evAndX es t Γ
  | false => .ok r Γ
@[simp] theorem an2_true {es : List IE} {t : Bool} {Γ : Gm} {r : DK} : an2 es t Γ r true = evAndX es t Γ := rfl
@[simp] theorem an2_false {es : List IE} {t : Bool} {Γ : Gm} {r : DK} : an2 es t Γ r false = .ok r Γ := rfl
def an1 (es : List IE) (t : Bool) (Γ : Gm) (r : DK) : Option (Bool) → Rs DK
  | some b => an2 es t Γ r b
  | none => .bad
@[simp] theorem an1_some {es : List IE} {t : Bool} {Γ : Gm} {r : DK} {b : Bool} : an1 es t Γ r (some b) = an2 es t Γ r b := rfl
@[simp] theorem an1_none {es : List IE} {t : Bool} {Γ : Gm} {r : DK} : an1 es t Γ r none = .bad := rfl
def anK (es : List IE) (t : Bool) : Rs DK → Rs DK
  | .ok r Γ' => an1 es t Γ' r (truth r.1)
  | .exc x Γ => .exc x Γ
  | .bad => .bad
@[simp] theorem anK_ok {es : List IE} {t : Bool} {r : DK} {Γ' : Gm} : anK es t (.ok r Γ') = an1 es t Γ' r (truth r.1) := rfl
@[simp] theorem anK_exc {es : List IE} {t : Bool} {x : Exc} {Γ : Gm} : anK es t (.exc x Γ) = .exc x Γ := rfl
@[simp] theorem anK_bad {es : List IE} {t : Bool} : anK es t .bad = .bad := rfl
def or2 (es : List IE) (t : Bool) (Γ : Gm) (r : DK) : Bool → Rs DK
  | true => .ok r Γ
  | false => evOrX es t Γ
@[simp] theorem or2_true {es : List IE} {t : Bool} {Γ : Gm} {r : DK} : or2 es t Γ r true = .ok r Γ := rfl
@[simp] theorem or2_false {es : List IE} {t : Bool} {Γ : Gm} {r : DK} : or2 es t Γ r false = evOrX es t Γ := rfl
def or1 (es : List IE) (t : Bool) (Γ : Gm) (r : DK) : Option (Bool) → Rs DK
  | some b => or2 es t Γ r b
  | none => .bad
@[simp] theorem or1_some {es : List IE} {t : Bool} {Γ : Gm} {r : DK} {b : Bool} : or1 es t Γ r (some b) = or2 es t Γ r b := rfl
@[simp] theorem or1_none {es : List IE} {t : Bool} {Γ : Gm} {r : DK} : or1 es t Γ r none = .bad := rfl
def orK (es : List IE) (t : Bool) : Rs DK → Rs DK
  | .ok r Γ' => or1 es t Γ' r (truth r.1)
  | .exc x Γ => .exc x Γ
  | .bad => .bad
@[simp] theorem orK_ok {es : List IE} {t : Bool} {r : DK} {Γ' : Gm} : orK es t (.ok r Γ') = or1 es t Γ' r (truth r.1) := rfl
@[simp] theorem orK_exc {es : List IE} {t : Bool} {x : Exc} {Γ : Gm} : orK es t (.exc x Γ) = .exc x Γ := rfl
@[simp] theorem orK_bad {es : List IE} {t : Bool} : orK es t .bad = .bad := rfl
def ifs2 (es : List IE) (Γ : Gm) : Bool → Rs Bool
  | true => evIfsX es Γ
  | false => .ok false Γ
@[simp] theorem ifs2_true {es : List IE} {Γ : Gm} : ifs2 es Γ true = evIfsX es Γ := rfl
@[simp] theorem ifs2_false {es : List IE} {Γ : Gm} : ifs2 es Γ false = .ok false Γ := rfl
def ifs1 (es : List IE) (Γ : Gm) : D → Rs Bool
  | .bl b => ifs2 es Γ b
  | _ => .bad
@[simp] theorem ifs1_v {es : List IE} {Γ : Gm} {b : Bool} : ifs1 es Γ (.bl b) = ifs2 es Γ b := rfl
def ifsK (es : List IE) : Rs DK → Rs Bool
  | .ok r Γ' => ifs1 es Γ' r.1
  | .exc x Γ => .exc x Γ
  | .bad => .bad
@[simp] theorem ifsK_ok {es : List IE} {r : DK} {Γ' : Gm} : ifsK es (.ok r Γ') = ifs1 es Γ' r.1 := rfl
@[simp] theorem ifsK_exc {es : List IE} {x : Exc} {Γ : Gm} : ifsK es (.exc x Γ) = .exc x Γ := rfl
@[simp] theorem ifsK_bad {es : List IE} : ifsK es .bad = .bad := rfl
def asgK (i : Nat) : Rs DK → So
  | .ok r Γ' => .nx (Γ'.set i (some r))
  | .exc x Γ => .exc x Γ
  | .bad => .bad
@[simp] theorem asgK_ok {i : Nat} {r : DK} {Γ' : Gm} : asgK i (.ok r Γ') = .nx (Γ'.set i (some r)) := rfl
@[simp] theorem asgK_exc {i : Nat} {x : Exc} {Γ : Gm} : asgK i (.exc x Γ) = .exc x Γ := rfl
@[simp] theorem asgK_bad {i : Nat} : asgK i .bad = .bad := rfl
def nxK  : Option (Gm) → So
  | some Γ => .nx Γ
  | none => .bad
@[simp] theorem nxK_some  {Γ : Gm} : nxK  (some Γ) = .nx Γ := rfl
@[simp] theorem nxK_none  : nxK  none = .bad := rfl
def asgsK (ts : List Nat) : Rs (List OR) → So
  | .ok rs Γ' => nxK (asgAll ts rs Γ')
  | .exc x Γ => .exc x Γ
  | .bad => .bad
@[simp] theorem asgsK_ok {ts : List Nat} {rs : List OR} {Γ' : Gm} : asgsK ts (.ok rs Γ') = nxK (asgAll ts rs Γ') := rfl
@[simp] theorem asgsK_exc {ts : List Nat} {x : Exc} {Γ : Gm} : asgsK ts (.exc x Γ) = .exc x Γ := rfl
@[simp] theorem asgsK_bad {ts : List Nat} : asgsK ts .bad = .bad := rfl
def asgTK (tg : Tg) : Rs DK → So
  | .ok r Γ' => nxK (setTg tg (r.1, 0) Γ')
  | .exc x Γ => .exc x Γ
  | .bad => .bad
@[simp] theorem asgTK_ok {tg : Tg} {r : DK} {Γ' : Gm} : asgTK tg (.ok r Γ') = nxK (setTg tg (r.1, 0) Γ') := rfl
@[simp] theorem asgTK_exc {tg : Tg} {x : Exc} {Γ : Gm} : asgTK tg (.exc x Γ) = .exc x Γ := rfl
@[simp] theorem asgTK_bad {tg : Tg} : asgTK tg .bad = .bad := rfl
def setK (i : Nat) (Γ : Gm) : Option (DK) → So
  | some z => .nx (Γ.set i (some z))
  | none => .bad
@[simp] theorem setK_some {i : Nat} {Γ : Gm} {z : DK} : setK i Γ (some z) = .nx (Γ.set i (some z)) := rfl
@[simp] theorem setK_none {i : Nat} {Γ : Gm} : setK i Γ none = .bad := rfl
def au3 (o : Op) (i : Nat) (Γ : Gm) (a : Int) : D → So
  | .int b => setK i Γ (opD o [.int a, .int b])
  | _ => .bad
@[simp] theorem au3_v {o : Op} {i : Nat} {Γ : Gm} {a : Int} {b : Int} : au3 o i Γ a (.int b) = setK i Γ (opD o [.int a, .int b]) := rfl
def au2 (o : Op) (i : Nat) (Γ : Gm) (r : DK) : D → So
  | .int a => au3 o i Γ a r.1
  | _ => .bad
@[simp] theorem au2_v {o : Op} {i : Nat} {Γ : Gm} {r : DK} {a : Int} : au2 o i Γ r (.int a) = au3 o i Γ a r.1 := rfl
def au1 (o : Op) (i : Nat) (Γ : Gm) (r : DK) : Option (DK) → So
  | some x => au2 o i Γ r x.1
  | none => .bad
@[simp] theorem au1_some {o : Op} {i : Nat} {Γ : Gm} {r : DK} {x : DK} : au1 o i Γ r (some x) = au2 o i Γ r x.1 := rfl
@[simp] theorem au1_none {o : Op} {i : Nat} {Γ : Gm} {r : DK} : au1 o i Γ r none = .bad := rfl
def augK (i : Nat) (o : Op) (x : Option DK) : Rs DK → So
  | .ok r Γ' => au1 o i Γ' r x
  | .exc x Γ => .exc x Γ
  | .bad => .bad
@[simp] theorem augK_ok {i : Nat} {o : Op} {x : Option DK} {r : DK} {Γ' : Gm} : augK i o x (.ok r Γ') = au1 o i Γ' r x := rfl
@[simp] theorem augK_exc {i : Nat} {o : Op} {x : Option DK} {y : Exc} {Γ : Gm} : augK i o x (.exc y Γ) = .exc y Γ := rfl
@[simp] theorem augK_bad {i : Nat} {o : Op} {x : Option DK} : augK i o x .bad = .bad := rfl
def si4 (i : Nat) (Γ : Gm) (n : DK) (r : DK) : Option (DK) → So
  | some x => setK i Γ (setD x n.1 r)
  | none => .bad
@[simp] theorem si4_some {i : Nat} {Γ : Gm} {n : DK} {r : DK} {x : DK} : si4 i Γ n r (some x) = setK i Γ (setD x n.1 r) := rfl
@[simp] theorem si4_none {i : Nat} {Γ : Gm} {n : DK} {r : DK} : si4 i Γ n r none = .bad := rfl
def si3 (i : Nat) (r : DK) : Rs DK → So
  | .ok n Γ2 => si4 i Γ2 n r (Γ2.getD i none)
  | .exc x Γ => .exc x Γ
  | .bad => .bad
@[simp] theorem si3_ok {i : Nat} {r : DK} {n : DK} {Γ2 : Gm} : si3 i r (.ok n Γ2) = si4 i Γ2 n r (Γ2.getD i none) := rfl
@[simp] theorem si3_exc {i : Nat} {r : DK} {x : Exc} {Γ : Gm} : si3 i r (.exc x Γ) = .exc x Γ := rfl
@[simp] theorem si3_bad {i : Nat} {r : DK} : si3 i r .bad = .bad := rfl
def si2 (i : Nat) (ix : IE) (r : DK) (Γ : Gm) : Bool → So
  | true => si3 i r (evX ix false Γ)
  | false => .bad
@[simp] theorem si2_true {i : Nat} {ix : IE} {r : DK} {Γ : Gm} : si2 i ix r Γ true = si3 i r (evX ix false Γ) := rfl
@[simp] theorem si2_false {i : Nat} {ix : IE} {r : DK} {Γ : Gm} : si2 i ix r Γ false = .bad := rfl
def setIK (i : Nat) (ix : IE) : Rs DK → So
  | .ok r Γ1 => si2 i ix r Γ1 (isLst (Γ1.getD i none))
  | .exc x Γ => .exc x Γ
  | .bad => .bad
@[simp] theorem setIK_ok {i : Nat} {ix : IE} {r : DK} {Γ1 : Gm} : setIK i ix (.ok r Γ1) = si2 i ix r Γ1 (isLst (Γ1.getD i none)) := rfl
@[simp] theorem setIK_exc {i : Nat} {ix : IE} {x : Exc} {Γ : Gm} : setIK i ix (.exc x Γ) = .exc x Γ := rfl
@[simp] theorem setIK_bad {i : Nat} {ix : IE} : setIK i ix .bad = .bad := rfl
def mu3 (i : Nat) (m : Mt) (Γ : Gm) (x : DK) : Option (List DK) → So
  | some as => setK i Γ (mutD m x as)
  | none => .bad
@[simp] theorem mu3_some {i : Nat} {m : Mt} {Γ : Gm} {x : DK} {as : List DK} : mu3 i m Γ x (some as) = setK i Γ (mutD m x as) := rfl
@[simp] theorem mu3_none {i : Nat} {m : Mt} {Γ : Gm} {x : DK} : mu3 i m Γ x none = .bad := rfl
def mu2 (i : Nat) (m : Mt) (Γ : Gm) (rs : List OR) : Option (DK) → So
  | some x => mu3 i m Γ x (valsK rs)
  | none => .bad
@[simp] theorem mu2_some {i : Nat} {m : Mt} {Γ : Gm} {rs : List OR} {x : DK} : mu2 i m Γ rs (some x) = mu3 i m Γ x (valsK rs) := rfl
@[simp] theorem mu2_none {i : Nat} {m : Mt} {Γ : Gm} {rs : List OR} : mu2 i m Γ rs none = .bad := rfl
def mu1 (i : Nat) (m : Mt) : Rs (List OR) → So
  | .ok rs Γ' => mu2 i m Γ' rs (Γ'.getD i none)
  | .exc x Γ => .exc x Γ
  | .bad => .bad
@[simp] theorem mu1_ok {i : Nat} {m : Mt} {rs : List OR} {Γ' : Gm} : mu1 i m (.ok rs Γ') = mu2 i m Γ' rs (Γ'.getD i none) := rfl
@[simp] theorem mu1_exc {i : Nat} {m : Mt} {x : Exc} {Γ : Gm} : mu1 i m (.exc x Γ) = .exc x Γ := rfl
@[simp] theorem mu1_bad {i : Nat} {m : Mt} : mu1 i m .bad = .bad := rfl
def mutK (i : Nat) (m : Mt) (es : List IE) (Γ : Gm) : Bool → So
  | true => mu1 i m (evLX es Γ)
  | false => .bad
@[simp] theorem mutK_true {i : Nat} {m : Mt} {es : List IE} {Γ : Gm} : mutK i m es Γ true = mu1 i m (evLX es Γ) := rfl
@[simp] theorem mutK_false {i : Nat} {m : Mt} {es : List IE} {Γ : Gm} : mutK i m es Γ false = .bad := rfl
def exK  : Rs DK → So
  | .ok r Γ' => .nx Γ'
  | .exc x Γ => .exc x Γ
  | .bad => .bad
@[simp] theorem exK_ok  {r : DK} {Γ' : Gm} : exK  (.ok r Γ') = .nx Γ' := rfl
@[simp] theorem exK_exc  {x : Exc} {Γ : Gm} : exK  (.exc x Γ) = .exc x Γ := rfl
@[simp] theorem exK_bad  : exK  .bad = .bad := rfl
def is2 (a : List IS) (b : List IS) (Γ : Gm) : Bool → So
  | true => xssX a Γ
  | false => xssX b Γ
@[simp] theorem is2_true {a : List IS} {b : List IS} {Γ : Gm} : is2 a b Γ true = xssX a Γ := rfl
@[simp] theorem is2_false {a : List IS} {b : List IS} {Γ : Gm} : is2 a b Γ false = xssX b Γ := rfl
def is1 (a : List IS) (b : List IS) (Γ : Gm) : D → So
  | .bl s => is2 a b Γ s
  | _ => .bad
@[simp] theorem is1_v {a : List IS} {b : List IS} {Γ : Gm} {s : Bool} : is1 a b Γ (.bl s) = is2 a b Γ s := rfl
def ifK (a : List IS) (b : List IS) : Rs DK → So
  | .ok r Γ' => is1 a b Γ' r.1
  | .exc x Γ => .exc x Γ
  | .bad => .bad
@[simp] theorem ifK_ok {a : List IS} {b : List IS} {r : DK} {Γ' : Gm} : ifK a b (.ok r Γ') = is1 a b Γ' r.1 := rfl
@[simp] theorem ifK_exc {a : List IS} {b : List IS} {x : Exc} {Γ : Gm} : ifK a b (.exc x Γ) = .exc x Γ := rfl
@[simp] theorem ifK_bad {a : List IS} {b : List IS} : ifK a b .bad = .bad := rfl
/-- a loop's turns -/
def forS (tg : Tg) (body : List IS) : List D → Gm → So := forX (fun d Γ2 => opt (setTg tg (d, 0) Γ2) (fun Γ3 => xssX body Γ3) .bad)
@[simp] theorem forS_nil {tg : Tg} {body : List IS} {Γ : Gm} : forS tg body [] Γ = .nx Γ := rfl
/-- behind a turn -/
def fo2 (tg : Tg) (body : List IS) (ds : List D) : So → So
  | .nx Γ => forS tg body ds Γ
  | .ct Γ => forS tg body ds Γ
  | .bk Γ => .nx Γ
  | o => o
section
variable {tg : Tg} {body : List IS} {ds : List D} {Γ : Gm} {r : DK} {x : Exc}
@[simp] theorem fo2_nx : fo2 tg body ds (.nx Γ) = forS tg body ds Γ := rfl
@[simp] theorem fo2_ct : fo2 tg body ds (.ct Γ) = forS tg body ds Γ := rfl
@[simp] theorem fo2_bk : fo2 tg body ds (.bk Γ) = .nx Γ := rfl
@[simp] theorem fo2_rt : fo2 tg body ds (.rt r Γ) = .rt r Γ := rfl
@[simp] theorem fo2_exc : fo2 tg body ds (.exc x Γ) = .exc x Γ := rfl
@[simp] theorem fo2_bad : fo2 tg body ds .bad = .bad := rfl
end
def fo1 (tg : Tg) (body : List IS) (ds : List D) : Option (Gm) → So
  | some Γ3 => fo2 tg body ds (xssX body Γ3)
  | none => .bad
@[simp] theorem fo1_some {tg : Tg} {body : List IS} {ds : List D} {Γ3 : Gm} : fo1 tg body ds (some Γ3) = fo2 tg body ds (xssX body Γ3) := rfl
@[simp] theorem fo1_none {tg : Tg} {body : List IS} {ds : List D} : fo1 tg body ds none = .bad := rfl
theorem forS_cons {tg : Tg} {body : List IS} {Γ : Gm} {d : D} {ds : List D} : forS tg body (d :: ds) Γ = fo1 tg body ds (setTg tg (d, 0) Γ) := by
  show So.turn (opt (setTg tg (d, 0) Γ) _ _) _ = _
  cases setTg tg (d, 0) Γ with
  | none => rfl
  | some Γ3 =>
    simp only [opt_some, fo1_some]
    cases xssX body Γ3 <;> rfl
def lo1 (tg : Tg) (body : List IS) (Γ : Gm) : Option (List D) → So
  | some ds => forS tg body ds Γ
  | none => .bad
@[simp] theorem lo1_some {tg : Tg} {body : List IS} {Γ : Gm} {ds : List D} : lo1 tg body Γ (some ds) = forS tg body ds Γ := rfl
@[simp] theorem lo1_none {tg : Tg} {body : List IS} {Γ : Gm} : lo1 tg body Γ none = .bad := rfl
def loopK (tg : Tg) (it : ItK) (body : List IS) : Rs (List OR) → So
  | .ok rs Γ1 => lo1 tg body Γ1 (itD it rs)
  | .exc x Γ => .exc x Γ
  | .bad => .bad
@[simp] theorem loopK_ok {tg : Tg} {it : ItK} {body : List IS} {rs : List OR} {Γ1 : Gm} : loopK tg it body (.ok rs Γ1) = lo1 tg body Γ1 (itD it rs) := rfl
@[simp] theorem loopK_exc {tg : Tg} {it : ItK} {body : List IS} {x : Exc} {Γ : Gm} : loopK tg it body (.exc x Γ) = .exc x Γ := rfl
@[simp] theorem loopK_bad {tg : Tg} {it : ItK} {body : List IS} : loopK tg it body .bad = .bad := rfl
/-- a while's turns -/
def whileS (c : IE) (body : List IS) : Nat → Gm → So := whileX (fun Γ' => evX c true Γ') (fun Γ' => xssX body Γ')
def wh3 (c : IE) (body : List IS) (n : Nat) : So → So
  | .nx Γ => whileS c body n Γ
  | .ct Γ => whileS c body n Γ
  | .bk Γ => .nx Γ
  | o => o
section
variable {c : IE} {body : List IS} {n : Nat} {Γ : Gm} {r : DK} {x : Exc}
@[simp] theorem wh3_nx : wh3 c body n (.nx Γ) = whileS c body n Γ := rfl
@[simp] theorem wh3_ct : wh3 c body n (.ct Γ) = whileS c body n Γ := rfl
@[simp] theorem wh3_bk : wh3 c body n (.bk Γ) = .nx Γ := rfl
@[simp] theorem wh3_rt : wh3 c body n (.rt r Γ) = .rt r Γ := rfl
@[simp] theorem wh3_exc : wh3 c body n (.exc x Γ) = .exc x Γ := rfl
@[simp] theorem wh3_bad : wh3 c body n .bad = .bad := rfl
end
def wh2 (c : IE) (body : List IS) (n : Nat) (Γ : Gm) : Bool → So
  | true => wh3 c body n (xssX body Γ)
  | false => .nx Γ
@[simp] theorem wh2_true {c : IE} {body : List IS} {n : Nat} {Γ : Gm} : wh2 c body n Γ true = wh3 c body n (xssX body Γ) := rfl
@[simp] theorem wh2_false {c : IE} {body : List IS} {n : Nat} {Γ : Gm} : wh2 c body n Γ false = .nx Γ := rfl
def wh1 (c : IE) (body : List IS) (n : Nat) (Γ : Gm) : D → So
  | .bl b => wh2 c body n Γ b
  | _ => .bad
@[simp] theorem wh1_v {c : IE} {body : List IS} {n : Nat} {Γ : Gm} {b : Bool} : wh1 c body n Γ (.bl b) = wh2 c body n Γ b := rfl
def whK (c : IE) (body : List IS) (n : Nat) : Rs DK → So
  | .ok r Γ' => wh1 c body n Γ' r.1
  | .exc x Γ => .exc x Γ
  | .bad => .bad
@[simp] theorem whK_ok {c : IE} {body : List IS} {n : Nat} {r : DK} {Γ' : Gm} : whK c body n (.ok r Γ') = wh1 c body n Γ' r.1 := rfl
@[simp] theorem whK_exc {c : IE} {body : List IS} {n : Nat} {x : Exc} {Γ : Gm} : whK c body n (.exc x Γ) = .exc x Γ := rfl
@[simp] theorem whK_bad {c : IE} {body : List IS} {n : Nat} : whK c body n .bad = .bad := rfl
theorem whileS_s {c : IE} {body : List IS} {n : Nat} {Γ : Gm} : whileS c body (n + 1) Γ = whK c body n (evX c true Γ) := by
  show Rs.st (evX c true Γ) _ = _
  cases evX c true Γ with
  | ok r Γ' =>
    obtain ⟨d, k⟩ := r
    cases d with
    | bl b =>
      cases b with
      | true =>
        show So.turn (xssX body Γ') _ = wh3 c body n (xssX body Γ')
        cases xssX body Γ' <;> rfl
      | false => rfl
    | _ => rfl
  | exc x Γ' => rfl
  | bad => rfl
def retK  : Rs DK → So
  | .ok r Γ' => .rt r Γ'
  | .exc x Γ => .exc x Γ
  | .bad => .bad
@[simp] theorem retK_ok  {r : DK} {Γ' : Gm} : retK  (.ok r Γ') = .rt r Γ' := rfl
@[simp] theorem retK_exc  {x : Exc} {Γ : Gm} : retK  (.exc x Γ) = .exc x Γ := rfl
@[simp] theorem retK_bad  : retK  .bad = .bad := rfl
def seqK (r : List IS) : So → So
  | .nx Γ => xssX r Γ
  | o => o
section
variable {is : List IS} {Γ : Gm} {r : DK} {x : Exc}
@[simp] theorem seqK_nx : seqK is (.nx Γ) = xssX is Γ := rfl
@[simp] theorem seqK_rt : seqK is (.rt r Γ) = .rt r Γ := rfl
@[simp] theorem seqK_bk : seqK is (.bk Γ) = .bk Γ := rfl
@[simp] theorem seqK_ct : seqK is (.ct Γ) = .ct Γ := rfl
@[simp] theorem seqK_exc : seqK is (.exc x Γ) = .exc x Γ := rfl
@[simp] theorem seqK_bad : seqK is .bad = .bad := rfl
end
def ag8 (i : Nat) (j : Int) (ys : List D) (Γ : Gm) : Option DK → So
  | some z => setK i Γ (setD (.lst ys, 1) (.int j) (z.1, 0))
  | none => .bad
@[simp] theorem ag8_some {i : Nat} {j : Int} {ys : List D} {Γ : Gm} {z : DK} : ag8 i j ys Γ (some z) = setK i Γ (setD (.lst ys, 1) (.int j) (z.1, 0)) := rfl
def ag7 (i : Nat) (o : Op) (j a b : Int) (Γ : Gm) (x : Option DK) : So := lst1X x (fun ys => ag8 i j ys Γ (opD o [.int a, .int b])) .bad
@[simp] theorem ag7_v {i : Nat} {o : Op} {j a b : Int} {ys : List D} {Γ : Gm} : ag7 i o j a b Γ (some (.lst ys, 1)) = ag8 i j ys Γ (opD o [.int a, .int b]) := rfl
def ag6 (i : Nat) (o : Op) (j a : Int) (Γ : Gm) : D → So
  | .int b => ag7 i o j a b Γ (Γ.getD i none)
  | _ => .bad
@[simp] theorem ag6_v {i : Nat} {o : Op} {j a b : Int} {Γ : Gm} : ag6 i o j a Γ (.int b) = ag7 i o j a b Γ (Γ.getD i none) := rfl
def ag5 (i : Nat) (o : Op) (j a : Int) : Rs DK → So
  | .ok r Γ => ag6 i o j a Γ r.1
  | .exc x Γ => .exc x Γ
  | .bad => .bad
@[simp] theorem ag5_ok {i : Nat} {o : Op} {j a : Int} {r : DK} {Γ : Gm} : ag5 i o j a (.ok r Γ) = ag6 i o j a Γ r.1 := rfl
@[simp] theorem ag5_exc {i : Nat} {o : Op} {j a : Int} {x : Exc} {Γ : Gm} : ag5 i o j a (.exc x Γ) = .exc x Γ := rfl
def ag4 (i : Nat) (o : Op) (e : IE) (j : Int) (Γ : Gm) : Option D → So
  | some (.int a) => ag5 i o j a (evX e false Γ)
  | _ => .bad
@[simp] theorem ag4_v {i : Nat} {o : Op} {e : IE} {j a : Int} {Γ : Gm} : ag4 i o e j Γ (some (.int a)) = ag5 i o j a (evX e false Γ) := rfl
def ag3 (i : Nat) (o : Op) (e : IE) (xs : List D) (Γ : Gm) : D → So
  | .int j => ag4 i o e j Γ (atI xs j)
  | _ => .bad
@[simp] theorem ag3_v {i : Nat} {o : Op} {e : IE} {xs : List D} {j : Int} {Γ : Gm} : ag3 i o e xs Γ (.int j) = ag4 i o e j Γ (atI xs j) := rfl
def ag2 (i : Nat) (o : Op) (e : IE) (n : DK) (Γ : Gm) (x : Option DK) : So := lst1X x (fun xs => ag3 i o e xs Γ n.1) .bad
@[simp] theorem ag2_v {i : Nat} {o : Op} {e : IE} {n : DK} {xs : List D} {Γ : Gm} : ag2 i o e n Γ (some (.lst xs, 1)) = ag3 i o e xs Γ n.1 := rfl
def ag1 (i : Nat) (o : Op) (e : IE) : Rs DK → So
  | .ok n Γ => ag2 i o e n Γ (Γ.getD i none)
  | .exc x Γ => .exc x Γ
  | .bad => .bad
@[simp] theorem ag1_ok {i : Nat} {o : Op} {e : IE} {n : DK} {Γ : Gm} : ag1 i o e (.ok n Γ) = ag2 i o e n Γ (Γ.getD i none) := rfl
@[simp] theorem ag1_exc {i : Nat} {o : Op} {e : IE} {n : Exc} {Γ : Gm} : ag1 i o e (.exc n Γ) = .exc n Γ := rfl
def agK (i : Nat) (ix : IE) (o : Op) (e : IE) (Γ : Gm) : Bool → So
  | true => ag1 i o e (evX ix false Γ)
  | false => .bad
@[simp] theorem agK_true {i : Nat} {ix : IE} {o : Op} {e : IE} {Γ : Gm} : agK i ix o e Γ true = ag1 i o e (evX ix false Γ) := rfl
/-! ### rows of the evaluator -/
section
variable {t mv : Bool} {Γ : Gm} {i n : Nat} {e a b c elt : IE} {es ifs : List IE} {o o' : Op} {x : Str} {κ : Cst} {f : FunIR} {own : List Nat} {tg : Tg} {it : ItK}
@[simp] theorem evX_var : evX (.var i mv) t Γ = varK t mv i Γ (Γ.getD i none) := by
  rw [evX]
  cases Γ.getD i none with
  | none => rfl
  | some r => cases mv <;> rfl
@[simp] theorem evX_cst : evX (.cst κ) t Γ = finX t (κ.d, 0) Γ := by rw [evX]
@[simp] theorem evX_glob : evX (.glob x κ) t Γ = finX t (κ.d, 0) Γ := by rw [evX]
@[simp] theorem evX_op : evX (.op o es) t Γ = opK o t (evLX es Γ) := by
  rw [evX]
  cases evLX es Γ with
  | ok rs Γ' =>
    show opt _ _ _ = op1 o t Γ' _
    cases der o.st Γ' rs with
    | none => rfl
    | some ds =>
      show opt (opD o ds) _ _ = fin1 t Γ' (opD o ds)
      cases opD o ds <;> rfl
  | exc x Γ' => rfl
  | bad => rfl
@[simp] theorem evX_int1 : evX (.int1 e) t Γ = int1K t (evX e false Γ) := by
  rw [evX]
  cases evX e false Γ with
  | ok r Γ' => obtain ⟨d, k⟩ := r; cases d <;> rfl
  | exc x Γ' => rfl
  | bad => rfl
@[simp] theorem evX_str1 : evX (.str1 e) t Γ = str1K t (evX e false Γ) := by
  rw [evX]
  cases evX e false Γ with
  | ok r Γ' => obtain ⟨d, k⟩ := r; cases d <;> rfl
  | exc x Γ' => rfl
  | bad => rfl
@[simp] theorem evX_lst : evX (.lst es) t Γ = lstK t (evLX es Γ) := by
  rw [evX]
  cases evLX es Γ with
  | ok rs Γ' =>
    show opt _ _ _ = l1 t Γ' _
    cases valsD rs <;> rfl
  | exc x Γ' => rfl
  | bad => rfl
@[simp] theorem evX_and : evX (.and es) t Γ = evAndX es t Γ := by rw [evX]
@[simp] theorem evX_or : evX (.or es) t Γ = evOrX es t Γ := by rw [evX]
@[simp] theorem evX_not : evX (.not e) t Γ = notK (evX e t Γ) := by
  rw [evX]
  cases evX e t Γ with
  | ok r Γ' =>
    show opt _ _ _ = n1 Γ' _
    cases truth r.1 <;> rfl
  | exc x Γ' => rfl
  | bad => rfl
@[simp] theorem evX_ite : evX (.ite c a b) t Γ = iteK t a b (evX c true Γ) := by
  rw [evX]
  cases evX c true Γ with
  | ok r Γ' =>
    obtain ⟨d, k⟩ := r
    cases d with
    | bl s => cases s <;> rfl
    | _ => rfl
  | exc x Γ' => rfl
  | bad => rfl
@[simp] theorem evX_chain : evX (.chain o o' a b c) t Γ = chA o o' b c t (evX a false Γ) := by
  rw [evX]
  cases evX a false Γ with
  | ok r1 Γ1 =>
    show Rs.bind (evX b false Γ1) _ = chB o o' c t r1 (evX b false Γ1)
    cases evX b false Γ1 with
    | ok r2 Γ2 =>
      obtain ⟨d1, k1⟩ := r1
      obtain ⟨d2, k2⟩ := r2
      cases d1 with
      | int x =>
        cases d2 with
        | int y =>
          show opt (cmpI o x y) _ _ = ch3 o' c t Γ2 y (cmpI o x y)
          cases cmpI o x y with
          | none => rfl
          | some s =>
            cases s with
            | false => rfl
            | true =>
              show Rs.bind (evX c false Γ2) _ = ch5 o' y t (evX c false Γ2)
              cases evX c false Γ2 with
              | ok r3 Γ3 =>
                obtain ⟨d3, k3⟩ := r3
                cases d3 with
                | int z =>
                  show opt (cmpI o' y z) _ _ = ch7 t Γ3 (cmpI o' y z)
                  cases cmpI o' y z <;> rfl
                | _ => rfl
              | exc x Γ' => rfl
              | bad => rfl
        | _ => rfl
      | _ => rfl
    | exc x Γ' => rfl
    | bad => rfl
  | exc x Γ' => rfl
  | bad => rfl
@[simp] theorem evX_call : evX (.call f es) t Γ = callK f t (evLX es Γ) := by
  rw [evX]
  cases evLX es Γ with
  | ok rs Γ' =>
    show opt (takeArgs Γ' rs) _ _ = call1 f t rs (takeArgs Γ' rs)
    cases takeArgs Γ' rs with
    | none => rfl
    | some a =>
      show Fr.rs (runF f a.1) _ _ = callR t rs a.2 (runF f a.1)
      cases runF f a.1 <;> rfl
  | exc x Γ' => rfl
  | bad => rfl
@[simp] theorem evX_comp : evX (.comp own tg it es ifs elt) t Γ = compK own tg ifs elt it t (evLX es Γ) := by
  rw [evX]
  cases evLX es Γ with
  | ok rs Γ' =>
    show opt (itD it rs) _ _ = cm1 own tg ifs elt t Γ' (itD it rs)
    cases itD it rs with
    | none => rfl
    | some ds =>
      show (if _ then _ else _) = (if _ then _ else _)
      split
      · show Rs.bind (compS own tg ifs elt ds (wipeG Γ' own) []) _ = cmZ t own Γ' (compS own tg ifs elt ds (wipeG Γ' own) [])
        cases compS own tg ifs elt ds (wipeG Γ' own) [] <;> rfl
      · rfl
  | exc x Γ' => rfl
  | bad => rfl
@[simp] theorem evLX_nil : evLX [] Γ = .ok [] Γ := by rw [evLX]
@[simp] theorem evLX_bor : evLX (.bor i :: es) Γ = lib es i Γ (Γ.getD i none) := by
  rw [evLX]
  cases Γ.getD i none with
  | none => rfl
  | some r =>
    show Rs.bind (evLX es Γ) _ = li2 (.b i) (evLX es Γ)
    cases evLX es Γ <;> rfl
@[simp] theorem evLX_loan : evLX (.loan i :: es) Γ = lil es i Γ (Γ.getD i none) := by
  rw [evLX]
  cases Γ.getD i none with
  | none => rfl
  | some r =>
    show Rs.bind (evLX es Γ) _ = li2 (.l i) (evLX es Γ)
    cases evLX es Γ <;> rfl
/-- no operand that is borrowed or lent -/
def plnE : IE → Bool
  | .bor _ => false | .loan _ => false | _ => true
theorem evLX_consE (h : plnE e = true) : evLX (e :: es) Γ = li1 es (evX e false Γ) := by
  have key : evLX (e :: es) Γ = (evX e false Γ).bind fun r Γ' => (evLX es Γ').bind fun rs Γ2 => .ok (.v r.1 r.2 :: rs) Γ2 := by
    cases e <;> first | (rw [evLX] <;> (intro _ hh; cases hh); done) | (cases h; done)
  rw [key]
  cases evX e false Γ with
  | ok r Γ' =>
    show Rs.bind (evLX es Γ') _ = li2 (.v r.1 r.2) (evLX es Γ')
    cases evLX es Γ' <;> rfl
  | exc x Γ' => rfl
  | bad => rfl
@[simp] theorem evAndX_one : evAndX [e] t Γ = evX e t Γ := by rw [evAndX]
@[simp] theorem evAndX_cons : evAndX (e :: a :: es) t Γ = anK (a :: es) t (evX e t Γ) := by
  rw [evAndX]
  · cases evX e t Γ with
    | ok r Γ' =>
      show opt (truth r.1) _ _ = an1 (a :: es) t Γ' r (truth r.1)
      cases truth r.1 with
      | none => rfl
      | some b => cases b <;> rfl
    | exc x Γ' => rfl
    | bad => rfl
  · nofun
@[simp] theorem evOrX_one : evOrX [e] t Γ = evX e t Γ := by rw [evOrX]
@[simp] theorem evOrX_cons : evOrX (e :: a :: es) t Γ = orK (a :: es) t (evX e t Γ) := by
  rw [evOrX]
  · cases evX e t Γ with
    | ok r Γ' =>
      show opt (truth r.1) _ _ = or1 (a :: es) t Γ' r (truth r.1)
      cases truth r.1 with
      | none => rfl
      | some b => cases b <;> rfl
    | exc x Γ' => rfl
    | bad => rfl
  · nofun
@[simp] theorem evIfsX_nil : evIfsX [] Γ = .ok true Γ := by rw [evIfsX]
@[simp] theorem evIfsX_cons : evIfsX (e :: es) Γ = ifsK es (evX e true Γ) := by
  rw [evIfsX]
  cases evX e true Γ with
  | ok r Γ' =>
    obtain ⟨d, k⟩ := r
    cases d with
    | bl s => cases s <;> rfl
    | _ => rfl
  | exc x Γ' => rfl
  | bad => rfl
variable {body body' : List IS} {m : Mt} {ix : IE} {ts : List Nat} {r : List IS} {s : IS}
@[simp] theorem xsX_asg : xsX (.asg i e) Γ = asgK i (evX e false Γ) := by rw [xsX]; cases evX e false Γ <;> rfl
@[simp] theorem xsX_asgs : xsX (.asgs ts es) Γ = asgsK ts (evLX es Γ) := by
  rw [xsX]
  cases evLX es Γ with
  | ok rs Γ' =>
    show opt (asgAll ts rs Γ') _ _ = nxK (asgAll ts rs Γ')
    cases asgAll ts rs Γ' <;> rfl
  | exc x Γ' => rfl
  | bad => rfl
@[simp] theorem xsX_asgT : xsX (.asgT tg e) Γ = asgTK tg (evX e false Γ) := by
  rw [xsX]
  cases evX e false Γ with
  | ok r Γ' =>
    show opt (setTg tg (r.1, 0) Γ') _ _ = nxK (setTg tg (r.1, 0) Γ')
    cases setTg tg (r.1, 0) Γ' <;> rfl
  | exc x Γ' => rfl
  | bad => rfl
@[simp] theorem xsX_aug : xsX (.aug i o e) Γ = augK i o (Γ.getD i none) (evX e false Γ) := by
  rw [xsX]
  cases evX e false Γ with
  | ok r Γ' =>
    show opt (Γ.getD i none) _ _ = au1 o i Γ' r (Γ.getD i none)
    cases Γ.getD i none with
    | none => rfl
    | some x =>
      obtain ⟨d, k⟩ := x
      obtain ⟨d2, k2⟩ := r
      cases d with
      | int a =>
        cases d2 with
        | int b =>
          show opt (opD o [.int a, .int b]) _ _ = setK i Γ' (opD o [.int a, .int b])
          cases opD o [.int a, .int b] <;> rfl
        | _ => rfl
      | _ => rfl
  | exc x Γ' => rfl
  | bad => rfl
@[simp] theorem xsX_setI : xsX (.setI i ix e) Γ = setIK i ix (evX e false Γ) := by
  rw [xsX]
  cases evX e false Γ with
  | ok r Γ1 =>
    show brn (isLst (Γ1.getD i none)) _ _ = si2 i ix r Γ1 (isLst (Γ1.getD i none))
    cases isLst (Γ1.getD i none) with
    | false => rfl
    | true =>
      show Rs.st (evX ix false Γ1) _ = si3 i r (evX ix false Γ1)
      cases evX ix false Γ1 with
      | ok n Γ2 =>
        show opt (Γ2.getD i none) _ _ = si4 i Γ2 n r (Γ2.getD i none)
        cases Γ2.getD i none with
        | none => rfl
        | some x =>
          show opt (setD x n.1 r) _ _ = setK i Γ2 (setD x n.1 r)
          cases setD x n.1 r <;> rfl
      | exc x Γ' => rfl
      | bad => rfl
  | exc x Γ' => rfl
  | bad => rfl
@[simp] theorem xsX_augI : xsX (.augI i ix o e) Γ = agK i ix o e Γ (isLst (Γ.getD i none)) := by
  rw [xsX]
  cases isLst (Γ.getD i none) with
  | false => rfl
  | true =>
    show Rs.st (evX ix false Γ) _ = ag1 i o e (evX ix false Γ)
    cases evX ix false Γ with
    | exc x Γ' => rfl
    | bad => rfl
    | ok n Γ1 =>
      show lst1X (Γ1.getD i none) _ _ = lst1X (Γ1.getD i none) _ _
      congr 1
      funext xs
      obtain ⟨d, k⟩ := n
      cases d with
      | int j =>
        show opt (atI xs j) _ _ = ag4 i o e j Γ1 (atI xs j)
        cases atI xs j with
        | none => rfl
        | some w =>
          cases w with
          | int a =>
            show Rs.st (evX e false Γ1) _ = ag5 i o j a (evX e false Γ1)
            cases evX e false Γ1 with
            | exc x Γ' => rfl
            | bad => rfl
            | ok r Γ2 =>
              obtain ⟨d, k⟩ := r
              cases d with
              | int b =>
                show lst1X (Γ2.getD i none) _ _ = lst1X (Γ2.getD i none) _ _
                congr 1
                funext ys
                show opt (opD o [.int a, .int b]) _ _ = ag8 i j ys Γ2 (opD o [.int a, .int b])
                cases opD o [.int a, .int b] with
                | none => rfl
                | some z =>
                  show opt (setD (.lst ys, 1) (.int j) (z.1, 0)) _ _ = setK i Γ2 (setD (.lst ys, 1) (.int j) (z.1, 0))
                  cases setD (.lst ys, 1) (.int j) (z.1, 0) <;> rfl
              | _ => rfl
          | _ => rfl
      | _ => rfl
@[simp] theorem xsX_mut : xsX (.mut i m es) Γ = mutK i m es Γ (isLst (Γ.getD i none)) := by
  rw [xsX]
  cases isLst (Γ.getD i none) with
  | false => rfl
  | true =>
    show Rs.st (evLX es Γ) _ = mu1 i m (evLX es Γ)
    cases evLX es Γ with
    | ok rs Γ' =>
      show opt (Γ'.getD i none) _ _ = mu2 i m Γ' rs (Γ'.getD i none)
      cases Γ'.getD i none with
      | none => rfl
      | some x =>
        show opt (valsK rs) _ _ = mu3 i m Γ' x (valsK rs)
        cases valsK rs with
        | none => rfl
        | some as =>
          show opt (mutD m x as) _ _ = setK i Γ' (mutD m x as)
          cases mutD m x as <;> rfl
    | exc x Γ' => rfl
    | bad => rfl
@[simp] theorem xsX_ex : xsX (.ex e) Γ = exK (evX e false Γ) := by rw [xsX]; cases evX e false Γ <;> rfl
@[simp] theorem xsX_ite : xsX (.ite c body body') Γ = ifK body body' (evX c true Γ) := by
  rw [xsX]
  cases evX c true Γ with
  | ok r Γ' =>
    obtain ⟨d, k⟩ := r
    cases d with
    | bl s => cases s <;> rfl
    | _ => rfl
  | exc x Γ' => rfl
  | bad => rfl
@[simp] theorem xsX_loop : xsX (.loop tg it es body) Γ = loopK tg it body (evLX es Γ) := by
  rw [xsX]
  cases evLX es Γ with
  | ok rs Γ' =>
    show opt (itD it rs) _ _ = lo1 tg body Γ' (itD it rs)
    cases itD it rs <;> rfl
  | exc x Γ' => rfl
  | bad => rfl
@[simp] theorem xsX_while : xsX (.while c body) Γ = whileS c body fuelN Γ := by rw [xsX]; rfl
@[simp] theorem xsX_ret : xsX (.ret e) Γ = retK (evX e false Γ) := by rw [xsX]; cases evX e false Γ <;> rfl
@[simp] theorem xsX_retN : xsX .retN Γ = .rt (.non, 0) Γ := by rw [xsX]
@[simp] theorem xsX_pass : xsX .pass Γ = .nx Γ := by rw [xsX]
@[simp] theorem xsX_brk : xsX .brk Γ = .bk Γ := by rw [xsX]
@[simp] theorem xsX_cont : xsX .cont Γ = .ct Γ := by rw [xsX]
@[simp] theorem xssX_nil : xssX [] Γ = .nx Γ := by rw [xssX]
@[simp] theorem xssX_cons : xssX (s :: r) Γ = seqK r (xsX s Γ) := by rw [xssX]; cases xsX s Γ <;> rfl
@[simp] theorem runF_mk {ps N : List Str} {as : List DK} : runF (.mk x ps N body) as = if as.length = ps.length then (xssX body (as.map some ++ List.replicate (N.length - ps.length) none)).fin body ps.length else .bad := by rw [runF]
end
/-! ### rows of the small helpers -/
section
variable {i j k n : Nat} {e ix : IE} {es : List IE} {ts : List Nat} {tg : Tg} {tgs : List Tg} {o : Op} {m : Mt} {body body' : List IS} {c : IE} {it : ItK} {s : IS} {Γ Γ' : Gm} {d : D} {ds : List D} {rs : List OR} {st : Bool} {r : DK} {x y : Option DK} {own : List Nat} {b : Bool} {z : Int} {w : Str} {f : Option DK} {fs : List (Option DK)}
@[simp] theorem a_asg : asgn (.asg i e) = [i] := rfl
@[simp] theorem a_asgs : asgn (.asgs ts es) = ts := rfl
@[simp] theorem a_asgT : asgn (.asgT tg e) = tgIx tg := rfl
@[simp] theorem a_aug : asgn (.aug i o e) = [i] := rfl
@[simp] theorem a_ite : asgn (.ite e body body') = asgns body ++ asgns body' := rfl
@[simp] theorem a_loop : asgn (.loop tg it es body) = tgIx tg ++ asgns body := rfl
@[simp] theorem a_while : asgn (.while c body) = asgns body := rfl
@[simp] theorem a_setI : asgn (.setI i ix e) = [] := rfl
@[simp] theorem a_augI : asgn (.augI i ix o e) = [] := rfl
@[simp] theorem a_mut : asgn (.mut i m es) = [] := rfl
@[simp] theorem a_ex : asgn (.ex e) = [] := rfl
@[simp] theorem a_ret : asgn (.ret e) = [] := rfl
@[simp] theorem a_retN : asgn .retN = [] := rfl
@[simp] theorem a_pass : asgn .pass = [] := rfl
@[simp] theorem a_brk : asgn .brk = [] := rfl
@[simp] theorem a_cont : asgn .cont = [] := rfl
@[simp] theorem a_nil : asgns [] = [] := rfl
@[simp] theorem a_cons {r : List IS} : asgns (s :: r) = asgn s ++ asgns r := rfl
@[simp] theorem t_name : tgIx (.name i) = [i] := rfl
@[simp] theorem t_tup : tgIx (.tup tgs) = tgIxs tgs := rfl
@[simp] theorem t_nil : tgIxs [] = [] := rfl
@[simp] theorem t_cons : tgIxs (tg :: tgs) = tgIx tg ++ tgIxs tgs := rfl
@[simp] theorem fA_0 {as : List Nat} : finA as j 0 Γ = [] := by cases Γ <;> rfl
@[simp] theorem fA_s {as : List Nat} : finA as j (n + 1) (x :: Γ) = (if as.contains j = true then none else x) :: finA as (j + 1) n Γ := rfl
@[simp] theorem der_b {rs : List OR} : der st Γ (.b i :: rs) = opt (Γ.getD i none) (fun r => if atom r.1 || decide (r.2 ≤ (if st then 0 else 1)) then (der st Γ rs).map (r.1 :: ·) else none) none := by
  simp only [der, der1]
  cases Γ.getD i none with
  | none => rfl
  | some r =>
    obtain ⟨d, k⟩ := r
    simp only [opt]
    by_cases hh : (atom d || decide (k ≤ if st = true then 0 else 1)) = true
    · simp only [hh, if_true]
      cases der st Γ rs <;> rfl
    · simp only [hh]
      rfl
@[simp] theorem vK_nil : valsK [] = some [] := rfl
@[simp] theorem vK_v : valsK (.v d k :: rs) = (valsK rs).map ((d, k) :: ·) := rfl
@[simp] theorem tA_nil : takeArgs Γ [] = some ([], Γ) := rfl
@[simp] theorem tA_v : takeArgs Γ (.v d k :: rs) = opt (takeArgs Γ rs) (fun r => some ((d, k) :: r.1, r.2)) none := by
  simp only [takeArgs]
  cases takeArgs Γ rs <;> rfl
@[simp] theorem tA_l : takeArgs Γ (.l i :: rs) = opt (Γ.getD i none) (fun q => opt (takeArgs (Γ.set i none) rs) (fun r => some (q :: r.1, r.2)) none) none := by
  simp only [takeArgs]
  cases Γ.getD i none with
  | none => rfl
  | some q =>
    obtain ⟨d, k⟩ := q
    simp only [opt]
    cases takeArgs (Γ.set i none) rs <;> rfl
@[simp] theorem gB_nil : giveBack [] fs Γ = Γ := by cases fs <;> rfl
@[simp] theorem gB_l : giveBack (.l i :: rs) (f :: fs) Γ = giveBack rs fs (Γ.set i f) := rfl
@[simp] theorem gB_v : giveBack (.v d k :: rs) (f :: fs) Γ = giveBack rs fs Γ := rfl
@[simp] theorem sT_name : setTg (.name i) r Γ = some (Γ.set i (some r)) := rfl
@[simp] theorem sT_tup : setTg (.tup tgs) (.tup ds, k) Γ = if tgs.length = ds.length then setTgs tgs ds Γ else none := rfl
@[simp] theorem sT_nil : setTgs [] [] Γ = some Γ := rfl
@[simp] theorem sT_cons : setTgs (tg :: tgs) (d :: ds) Γ = opt (setTg tg (d, 0) Γ) (fun Γ' => setTgs tgs ds Γ') none := by
  simp only [setTgs]
  cases setTg tg (d, 0) Γ <;> rfl
@[simp] theorem aA_nil : asgAll [] [] Γ = some Γ := rfl
@[simp] theorem aA_cons : asgAll (i :: ts) (.v d k :: rs) Γ = asgAll ts rs (Γ.set i (some (d, k))) := rfl
@[simp] theorem w_G : wipeG Γ own = wipeA own 0 Γ := rfl
@[simp] theorem w_nil : wipeA own j [] = [] := rfl
@[simp] theorem w_cons : wipeA own j (x :: Γ) = (if own.contains j = true then none else x) :: wipeA own (j + 1) Γ := rfl
@[simp] theorem k_G : backG Γ Γ' own = backA own 0 Γ Γ' := rfl
@[simp] theorem k_nil : backA own j [] [] = [] := rfl
@[simp] theorem k_cons : backA own j (x :: Γ) (y :: Γ') = (if own.contains j = true then x else y) :: backA own (j + 1) Γ Γ' := rfl
@[simp] theorem c_non : Cst.d .non = .non := rfl
@[simp] theorem c_bl : Cst.d (.bl b) = .bl b := rfl
@[simp] theorem c_int : Cst.d (.int z) = .int z := rfl
@[simp] theorem c_str : Cst.d (.str w) = .str w := rfl
@[simp] theorem c_tup {xs : List Str} : Cst.d (.tup xs) = .tup (xs.map .str) := rfl
@[simp] theorem cmpI_lt {x y : Int} : cmpI .lt x y = some (decide (x < y)) := rfl
@[simp] theorem cmpI_le {x y : Int} : cmpI .le x y = some (decide (x ≤ y)) := rfl
@[simp] theorem cmpI_gt {x y : Int} : cmpI .gt x y = some (decide (y < x)) := rfl
@[simp] theorem cmpI_ge {x y : Int} : cmpI .ge x y = some (decide (y ≤ x)) := rfl
@[simp] theorem lim_eq : lim = 16777216 := rfl
@[simp] theorem atI_i0 {α : Type} {x : α} {l : List α} : atI (x :: l) 0 = some x := by simp [atI, ixN]
@[simp] theorem it_l {xs : List D} : itD .seq [.v (.lst xs) k] = some xs := rfl
@[simp] theorem it_t {xs : List D} : itD .seq [.v (.tup xs) k] = some xs := rfl
@[simp] theorem it_s : itD .seq [.v (.str w) k] = some (w.cps.toList.map fun c => .str ⟨#[c]⟩) := rfl
@[simp] theorem it_r : itD .range [.v (.int z) k] = if z ≤ 16777216 ∧ -16777216 ≤ z then some (rangeD 0 z.toNat) else none := rfl
end
section
variable {es : List IE} {Γ : Gm} {t : Bool}
variable {i : Nat} {mv : Bool} {c : Cst} {x : Str} {o : Op} {e a b : IE} {f : FunIR} {own : List Nat} {tg : Tg} {it : ItK} {ifs : List IE} {o' : Op}
variable {es0 : List IE}
@[simp] theorem p_var : evLX ((.var i mv) :: es) Γ = li1 es (evX (.var i mv) false Γ) := evLX_consE rfl
@[simp] theorem p_cst : evLX ((.cst c) :: es) Γ = li1 es (evX (.cst c) false Γ) := evLX_consE rfl
@[simp] theorem p_glob : evLX ((.glob x c) :: es) Γ = li1 es (evX (.glob x c) false Γ) := evLX_consE rfl
@[simp] theorem p_op : evLX ((.op o es0) :: es) Γ = li1 es (evX (.op o es0) false Γ) := evLX_consE rfl
@[simp] theorem p_int1 : evLX ((.int1 e) :: es) Γ = li1 es (evX (.int1 e) false Γ) := evLX_consE rfl
@[simp] theorem p_str1 : evLX ((.str1 e) :: es) Γ = li1 es (evX (.str1 e) false Γ) := evLX_consE rfl
@[simp] theorem p_lst : evLX ((.lst es0) :: es) Γ = li1 es (evX (.lst es0) false Γ) := evLX_consE rfl
@[simp] theorem p_and : evLX ((.and es0) :: es) Γ = li1 es (evX (.and es0) false Γ) := evLX_consE rfl
@[simp] theorem p_or : evLX ((.or es0) :: es) Γ = li1 es (evX (.or es0) false Γ) := evLX_consE rfl
@[simp] theorem p_not : evLX ((.not e) :: es) Γ = li1 es (evX (.not e) false Γ) := evLX_consE rfl
@[simp] theorem p_ite : evLX ((.ite e a b) :: es) Γ = li1 es (evX (.ite e a b) false Γ) := evLX_consE rfl
@[simp] theorem p_chain : evLX ((.chain o o' e a b) :: es) Γ = li1 es (evX (.chain o o' e a b) false Γ) := evLX_consE rfl
@[simp] theorem p_call : evLX ((.call f es0) :: es) Γ = li1 es (evX (.call f es0) false Γ) := evLX_consE rfl
@[simp] theorem p_comp : evLX ((.comp own tg it es0 ifs e) :: es) Γ = li1 es (evX (.comp own tg it es0 ifs e) false Γ) := evLX_consE rfl
@[simp] theorem s_tup : Op.st .tup = true := rfl
@[simp] theorem s_dict : Op.st .dict = true := rfl
@[simp] theorem s_sub : Op.st .sub = false := rfl
@[simp] theorem s_mul : Op.st .mul = false := rfl
@[simp] theorem s_mod : Op.st .mod = false := rfl
@[simp] theorem s_fdiv : Op.st .fdiv = false := rfl
@[simp] theorem s_pow : Op.st .pow = false := rfl
@[simp] theorem s_neg : Op.st .neg = false := rfl
@[simp] theorem s_eq : Op.st .eq = false := rfl
@[simp] theorem s_ne : Op.st .ne = false := rfl
@[simp] theorem s_lt : Op.st .lt = false := rfl
@[simp] theorem s_le : Op.st .le = false := rfl
@[simp] theorem s_gt : Op.st .gt = false := rfl
@[simp] theorem s_ge : Op.st .ge = false := rfl
@[simp] theorem s_inn : Op.st .inn = false := rfl
@[simp] theorem s_notin : Op.st .notin = false := rfl
@[simp] theorem s_isN : Op.st .isN = false := rfl
@[simp] theorem s_notN : Op.st .notN = false := rfl
@[simp] theorem s_len : Op.st .len = false := rfl
@[simp] theorem s_abs : Op.st .abs = false := rfl
@[simp] theorem s_int : Op.st .int = false := rfl
@[simp] theorem s_list : Op.st .list = false := rfl
@[simp] theorem s_tuple : Op.st .tuple = false := rfl
@[simp] theorem s_repr : Op.st .repr = false := rfl
@[simp] theorem s_all : Op.st .all = false := rfl
@[simp] theorem s_any : Op.st .any = false := rfl
@[simp] theorem s_isin {tys : List String} : Op.st (.isin tys) = false := rfl
@[simp] theorem s_idx : Op.st .idx = false := rfl
@[simp] theorem s_sl {p q : Bool} : Op.st (.sl p q) = false := rfl
@[simp] theorem s_join : Op.st .join = false := rfl
@[simp] theorem s_split : Op.st .split = false := rfl
end
end DL
set_option maxHeartbeats 0
namespace DL
open PySem PySem.Spec PyProof.Rows L2
/-! ### the bag -/
structure Bag where
  c : Int
  s : Int
  i : Int
  cs : List Int
  hl : cs.length ≤ 63
def bgD (b : Bag) : D := .lst [.int b.c, .int b.s, .int b.i, .lst (b.cs.map .int)]
theorem cut_len {α : Type} (xs : List α) (l h : Option Int) : (cutG xs l h).length ≤ xs.length := by
  unfold cutG
  rw [List.length_take, List.length_drop]
  omega
theorem cut_mem {α : Type} {xs : List α} {l h : Option Int} {x : α} (hx : x ∈ cutG xs l h) : x ∈ xs := List.mem_of_mem_drop (List.mem_of_mem_take hx)
theorem r_take (b : Bag) {many : Int} (h0 : 0 < many) (h1 : many < 1073741824) : ∃ m b', (∀ k, runF f__law_take [(bgD b, 1), (.int many, k)] = .ok (.int m, 0) [some (bgD b', 1), some (.int many, 0)]) ∧ 0 ≤ m ∧ m < many := by
  obtain ⟨c, s, i, cs, hl⟩ := b
  have hlen := cut_len (cs.map D.int) (some i) none
  have hc : (cutG (cs.map D.int) (some i) none).length + 1 ≤ 16777216 := by
    rw [List.length_map] at hlen; omega
  obtain ⟨cell, rest, hx⟩ : ∃ cell rest, cutG (cs.map D.int) (some i) none ++ [.int 0] = .int cell :: rest := by
    cases e : cutG (cs.map D.int) (some i) none with
    | nil => exact ⟨0, [], rfl⟩
    | cons d r =>
      have hm : d ∈ cs.map D.int := cut_mem (by rw [e]; exact List.mem_cons_self)
      obtain ⟨z, _, rfl⟩ := List.mem_map.mp hm
      exact ⟨z, r ++ [.int 0], rfl⟩
  have md := fun z : Int => Int.emod_nonneg z (show many ≠ 0 by omega)
  have ml := fun z : Int => Int.emod_lt_of_pos z h0
  have e1 : ∀ z : Int, -18446744073709551616 < z % 1000000007 ∧ z % 1000000007 < 18446744073709551616 := by intro z; omega
  have e2 : ∀ z : Int, -18446744073709551616 < z % 1000000007 := fun z => (e1 z).1
  have e3 : ∀ z : Int, z % 1000000007 < 18446744073709551616 := fun z => (e1 z).2
  by_cases hz : c = 0
  · subst hz
    by_cases hg : 1000000000000000000 ≤ cell
    · have hg2 : 0 < cell := by omega
      simp [f__law_take, bgD, hc, hx, ixN, atI, h0, h1, e2, e3, hg, hg2]
      exact ⟨_, ⟨rfl, ⟨_, _, _, cs, hl⟩, rfl, rfl, rfl, rfl⟩, md _, ml _⟩
    · simp [f__law_take, bgD, hc, hx, ixN, atI, h0, h1, e2, e3, hg]
      exact ⟨_, ⟨rfl, ⟨_, _, _, cs, hl⟩, rfl, rfl, rfl, rfl⟩, md _, ml _⟩
  · have hz' : (c == 0) = false := by simpa using hz
    by_cases hg : 0 < c
    · simp [f__law_take, bgD, hc, hx, ixN, atI, h0, h1, e2, e3, hz', hg]
      exact ⟨_, ⟨rfl, ⟨_, _, _, cs, hl⟩, rfl, rfl, rfl, rfl⟩, md _, ml _⟩
    · simp [f__law_take, bgD, hc, hx, ixN, atI, h0, h1, e2, e3, hz', hg]
      exact ⟨_, ⟨rfl, ⟨_, _, _, cs, hl⟩, rfl, rfl, rfl, rfl⟩, md _, ml _⟩
theorem tk_ex (b : Bag) (n : Int) : ∃ m b', 0 < n → n < 1073741824 → (∀ k, runF f__law_take [(bgD b, 1), (.int n, k)] = .ok (.int m, 0) [some (bgD b', 1), some (.int n, 0)]) ∧ 0 ≤ m ∧ m < n := by
  by_cases h : 0 < n ∧ n < 1073741824
  · obtain ⟨m, b', h⟩ := r_take b h.1 h.2
    exact ⟨m, b', fun _ _ => h⟩
  · exact ⟨0, b, fun h0 h1 => (h ⟨h0, h1⟩).elim⟩
/-- what is drawn, and the bag behind it -/
noncomputable def tkM (b : Bag) (n : Int) : Int := Classical.choose (tk_ex b n)
noncomputable def tkB (b : Bag) (n : Int) : Bag := Classical.choose (Classical.choose_spec (tk_ex b n))
theorem tk_spec (b : Bag) {n : Int} (h0 : 0 < n) (h1 : n < 1073741824) : (∀ k, runF f__law_take [(bgD b, 1), (.int n, k)] = .ok (.int (tkM b n), 0) [some (bgD (tkB b n), 1), some (.int n, 0)]) ∧ 0 ≤ tkM b n ∧ tkM b n < n :=
  Classical.choose_spec (Classical.choose_spec (tk_ex b n)) h0 h1
@[simp] theorem run_take {b : Bag} {n : Int} {k : Nat} (h0 : 0 < n) (h1 : n < 1073741824) : runF f__law_take [(bgD b, 1), (.int n, k)] = .ok (.int (tkM b n), 0) [some (bgD (tkB b n), 1), some (.int n, 0)] := (tk_spec b h0 h1).1 k
theorem tkM_lo (b : Bag) {n : Int} (h0 : 0 < n) (h1 : n < 1073741824) : 0 ≤ tkM b n := (tk_spec b h0 h1).2.1
theorem tkM_hi (b : Bag) {n : Int} (h0 : 0 < n) (h1 : n < 1073741824) : tkM b n < n := (tk_spec b h0 h1).2.2
@[simp] theorem at_bg {b : Bag} : atom (bgD b) = false := rfl
theorem atI_lt {α : Type} {xs : List α} {m : Int} (h0 : 0 ≤ m) (h1 : m < xs.length) : atI xs m = xs[m.toNat]? := by
  unfold atI ixN
  rw [if_pos h0, if_pos h1]
  rfl
theorem atI_in {α : Type} {xs : List α} {m : Int} (h0 : 0 ≤ m) (h1 : m < xs.length) : ∃ d, d ∈ xs ∧ atI xs m = some d := by
  have hn : m.toNat < xs.length := by omega
  exact ⟨xs[m.toNat], List.getElem_mem hn, by rw [atI_lt h0 h1, List.getElem?_eq_getElem hn]⟩
section
variable {α : Type} {x0 x1 x2 x3 x4 x5 : α} {l : List α}
@[simp] theorem atI_i1 : atI (x0 :: x1 :: l) 1 = some x1 := by rw [atI_lt (by omega) (by simp only [List.length_cons]; omega)]; rfl
@[simp] theorem atI_i2 : atI (x0 :: x1 :: x2 :: l) 2 = some x2 := by rw [atI_lt (by omega) (by simp only [List.length_cons]; omega)]; rfl
@[simp] theorem atI_i3 : atI (x0 :: x1 :: x2 :: x3 :: l) 3 = some x3 := by rw [atI_lt (by omega) (by simp only [List.length_cons]; omega)]; rfl
@[simp] theorem atI_i4 : atI (x0 :: x1 :: x2 :: x3 :: x4 :: l) 4 = some x4 := by rw [atI_lt (by omega) (by simp only [List.length_cons]; omega)]; rfl
@[simp] theorem atI_i5 : atI (x0 :: x1 :: x2 :: x3 :: x4 :: x5 :: l) 5 = some x5 := by rw [atI_lt (by omega) (by simp only [List.length_cons]; omega)]; rfl
end
/-- one of some things -/
noncomputable def pick (b : Bag) (ds : List D) : D := ds.getD (tkM b ds.length).toNat .non
theorem pick_mem (b : Bag) {ds : List D} (h0 : 0 < ds.length) (h1 : ds.length < 1073741824) : pick b ds ∈ ds := by
  have a := tkM_lo b (n := ds.length) (by omega) (by omega)
  have c := tkM_hi b (n := ds.length) (by omega) (by omega)
  unfold pick
  rw [List.getD_eq_getElem?_getD, List.getElem?_eq_getElem (by omega)]
  exact List.getElem_mem _
theorem at_pick (b : Bag) {ds : List D} (h0 : 0 < ds.length) (h1 : ds.length < 1073741824) : atI ds (tkM b ds.length) = some (pick b ds) := by
  have a := tkM_lo b (n := ds.length) (by omega) (by omega)
  have c := tkM_hi b (n := ds.length) (by omega) (by omega)
  unfold pick
  rw [atI_lt a c, List.getD_eq_getElem?_getD, List.getElem?_eq_getElem (by omega)]
  rfl
@[simp] theorem run_some {b : Bag} {ds : List D} {k : Nat} (h0 : 0 < ds.length) (h1 : ds.length < 1073741824) : runF f__law_some [(bgD b, 1), (.lst ds, k)] = .ok (pick b ds, 0) [some (bgD (tkB b ds.length), 1), some (.lst ds, 0)] := by
  have a : (0 : Int) < ds.length := by omega
  have c : (ds.length : Int) < 1073741824 := by omega
  simp [f__law_some, h0, a, c, at_pick b h0 h1]
/-- one sign of a text -/
noncomputable def pickC (b : Bag) (x : Str) : Nat := x.cps.toList.getD (tkM b x.length).toNat 0
theorem str_len (x : Str) : x.length = x.cps.toList.length := by simp [Str.length]
theorem pickC_mem (b : Bag) {x : Str} (h0 : 0 < x.length) (h1 : x.length < 1073741824) : pickC b x ∈ x.cps.toList := by
  have a := tkM_lo b (n := x.length) (by omega) (by omega)
  have c := tkM_hi b (n := x.length) (by omega) (by omega)
  have e := str_len x
  unfold pickC
  rw [List.getD_eq_getElem?_getD, List.getElem?_eq_getElem (by omega)]
  exact List.getElem_mem _
theorem at_pickC (b : Bag) {x : Str} (h0 : 0 < x.length) (h1 : x.length < 1073741824) : atI x.cps.toList (tkM b x.length) = some (pickC b x) := by
  have a := tkM_lo b (n := x.length) (by omega) (by omega)
  have c := tkM_hi b (n := x.length) (by omega) (by omega)
  have e := str_len x
  unfold pickC
  rw [atI_lt a (by omega), List.getD_eq_getElem?_getD, List.getElem?_eq_getElem (by omega)]
  rfl
@[simp] theorem run_someS {b : Bag} {x : Str} {k : Nat} (h0 : 0 < x.length) (h1 : x.length ≤ 16777216) : runF f__law_some [(bgD b, 1), (.str x, k)] = .ok (.str ⟨#[pickC b x]⟩, 0) [some (bgD (tkB b x.length), 1), some (.str x, 0)] := by
  have a : (0 : Int) < x.length := by omega
  have c : (x.length : Int) < 1073741824 := by omega
  simp [f__law_some, h0, h1, a, c, at_pickC b h0 (by omega)]
/-- a drawn order -/
theorem perm_ins {α : Type} (d : α) (fs : List α) (n : Nat) : (fs.take n ++ [d] ++ fs.drop n).Perm (d :: fs) := by
  have h : (fs.take n ++ [d] ++ fs.drop n) = fs.take n ++ (d :: fs.drop n) := by simp
  rw [h]
  refine List.perm_middle.trans ?_
  rw [List.take_append_drop]
theorem mixed_ex (b : Bag) (ds : List D) : ∃ es b', ds.length < 1000000 → (∀ k, runF f__law_mixed [(bgD b, 1), (.lst ds, k)] = .ok (.lst es, 1) [some (bgD b', 1), some (.lst ds, 0)]) ∧ es.Perm ds := by
  have key : ∀ (rem fs : List D) (b : Bag) (y : Option DK), fs.length + rem.length < 1000000 → ∃ es b' y', es.Perm (fs ++ rem) ∧
      forS (.name 3) [.mut 2 .insert [.call f__law_take [.loan 0, .op .add [.op .len [.bor 2], .cst (.int 1)]], .var 3 false]] rem [some (bgD b, 1), some (.lst ds, 0), some (.lst fs, 1), y] = .nx [some (bgD b', 1), some (.lst ds, 0), some (.lst es, 1), y'] := by
    intro rem
    induction rem with
    | nil => intro fs b y _; exact ⟨fs, b, y, by simp, rfl⟩
    | cons d rem ih =>
      intro fs b y hl
      simp only [List.length_cons] at hl
      have h0 : (0 : Int) < fs.length + 1 := by omega
      have h1 : (fs.length : Int) + 1 < 1073741824 := by omega
      have hm := tkM_lo b h0 h1
      have hM := tkM_hi b h0 h1
      have hz : fs.length < 16777216 ∧ 0 ≤ tkM b (fs.length + 1) ∧ tkM b (fs.length + 1) < 9223372036854775808 := ⟨by omega, hm, by omega⟩
      obtain ⟨es, b', y', hp, e⟩ := ih (fs.take (tkM b (fs.length + 1)).toNat ++ [d] ++ fs.drop (tkM b (fs.length + 1)).toNat) (tkB b (fs.length + 1)) (some (d, 0)) (by simp; omega)
      refine ⟨es, b', y', hp.trans ((List.Perm.append_right rem (perm_ins d fs _)).trans List.perm_middle.symm), ?_⟩
      rw [forS_cons]
      simp [h0, h1, hz]
      simpa using e
  by_cases h : ds.length < 1000000
  · obtain ⟨es, b', y', hp, e⟩ := key ds [] b none (by simpa using h)
    refine ⟨es, b', fun _ => ⟨fun k => ?_, by simpa using hp⟩⟩
    simp [f__law_mixed, e]
  · exact ⟨[], b, fun h' => (h h').elim⟩
noncomputable def mxL (b : Bag) (ds : List D) : List D := Classical.choose (mixed_ex b ds)
noncomputable def mxB (b : Bag) (ds : List D) : Bag := Classical.choose (Classical.choose_spec (mixed_ex b ds))
@[simp] theorem run_mixed {b : Bag} {ds : List D} {k : Nat} (h : ds.length < 1000000) : runF f__law_mixed [(bgD b, 1), (.lst ds, k)] = .ok (.lst (mxL b ds), 1) [some (bgD (mxB b ds), 1), some (.lst ds, 0)] :=
  (Classical.choose_spec (Classical.choose_spec (mixed_ex b ds)) h).1 k
theorem mxL_perm (b : Bag) {ds : List D} (h : ds.length < 1000000) : (mxL b ds).Perm ds := (Classical.choose_spec (Classical.choose_spec (mixed_ex b ds)) h).2
end DL
set_option maxHeartbeats 0
namespace DL
open PySem PySem.Spec PyProof.Rows L2
/-! ### names -/
def menuW : List Str := ["a", "b", "take", "give", "aa", "person", "thing", "read", "make", "zzzzzzzz", "z", "drop", "write", "bare", "makes", "ab", "q", "bar", "actor"]
@[simp] theorem menu_split : opD .split [.str "a b take give aa person thing read make zzzzzzzz z drop write bare makes ab q bar actor", .str " "] = some (.lst (menuW.map .str), 1) := by kernel_rfl
def lettersS : Str := "abcdefghijklmnopqrstuvwxyz"
/-- a name: one to eight small letters -/
def nameS (w : Str) : Bool := decide (0 < w.length) && decide (w.length ≤ 8) && w.cps.toList.all fun c => decide (c ∈ lettersS.cps.toList)
theorem cutG_map {α β : Type} (f : α → β) (xs : List α) (l h : Option Int) : cutG (xs.map f) l h = (cutG xs l h).map f := by
  unfold cutG
  rw [List.length_map, List.map_take, List.map_drop]
theorem any_strs (w : Str) : ∀ fs : List Str, anyD (.str w) (fs.map .str) = some (decide (w ∈ fs))
  | [] => by simp [anyD]
  | f :: fs => by
    simp only [List.map_cons, anyD, eqD, any_strs w fs]
    have e : (f == w) = decide (w = f) := by
      by_cases h : w = f
      · subst h; simp
      · rw [decide_eq_false h]; exact beq_eq_false_iff_ne.mpr (Ne.symm h)
    rw [e]
    simp only [List.mem_cons, Bool.decide_or]
theorem hgtL_strs : ∀ fs : List Str, hgtL (fs.map .str) = 0
  | [] => rfl
  | f :: fs => by simp only [List.map_cons, hgtL, hgt, hgtL_strs fs]; rfl
@[simp] theorem o_notinS {w : Str} {fs : List Str} : opD .notin [.str w, .lst (fs.map .str)] = some (.bl (!decide (w ∈ fs)), 0) := by
  show opNotin [D.str w, D.lst (fs.map D.str)] = _
  simp only [opNotin]
  rw [if_pos (by rw [hgtL_strs]; omega), any_strs]
  rfl
@[simp] theorem o_innS {w : Str} {fs : List Str} : opD .inn [.str w, .lst (fs.map .str)] = some (.bl (decide (w ∈ fs)), 0) := by
  show opInn [D.str w, D.lst (fs.map D.str)] = _
  simp only [opInn]
  rw [if_pos (by rw [hgtL_strs]; omega), any_strs]
  rfl
def menuOk (n m : Nat) : Bool := decide ((cutG (menuW ++ menuW) (some (n : Int)) (some ((n : Int) + (m : Int) + 2))).length = m + 2) && decide ((cutG (menuW ++ menuW) (some (n : Int)) (some ((n : Int) + (m : Int) + 2))).Nodup) && (cutG (menuW ++ menuW) (some (n : Int)) (some ((n : Int) + (m : Int) + 2))).all nameS
theorem menu_ok : (List.range 19).all (fun n => (List.range 18).all fun m => menuOk n m) = true := by kernel_rfl
theorem menu_at {n m : Nat} (hn : n < 19) (hm : m < 18) : menuOk n m = true := by
  have h := List.all_eq_true.mp menu_ok n (List.mem_range.mpr hn)
  exact List.all_eq_true.mp h m (List.mem_range.mpr hm)
theorem strs_list : ∀ es : List D, (∀ d ∈ es, ∃ w : Str, d = .str w) → ∃ us : List Str, es = us.map .str := by
  intro es
  induction es with
  | nil => intro _; exact ⟨[], rfl⟩
  | cons d es ih =>
    intro h
    obtain ⟨w, rfl⟩ := h _ List.mem_cons_self
    obtain ⟨us, e⟩ := ih fun d hd => h d (List.mem_cons_of_mem _ hd)
    exact ⟨w :: us, by rw [e]; rfl⟩
/-- strings in some order -/
theorem strs_perm {es : List D} {ws : List Str} (h : es.Perm (ws.map .str)) : ∃ us : List Str, es = us.map .str ∧ us.Perm ws := by
  have hm : ∀ d ∈ es, ∃ w : Str, d = .str w := fun d hd => by
    obtain ⟨w, _, e⟩ := List.mem_map.mp (h.subset hd)
    exact ⟨w, e.symm⟩
  obtain ⟨us, rfl⟩ := strs_list es hm
  refine ⟨us, rfl, ?_⟩
  let g : D → Str := fun d => match d with
    | .str x => x
    | _ => ⟨#[]⟩
  have h2 := h.map g
  rw [List.map_map, List.map_map] at h2
  have e : ∀ l : List Str, l.map (g ∘ D.str) = l := fun l => by
    have : (g ∘ D.str) = id := rfl
    rw [this, List.map_id]
  rwa [e, e] at h2
theorem o_joinL {a : Str} {xs : List D} {ys : List Str} (h : xs = ys.map .str) (hz : (ys.map (·.length)).sum + ys.length * a.length ≤ 16777216) : opD .join [.str a, .lst xs] = some (.str (Txt.join a ys), 0) := by
  subst h
  have e : ∀ ys : List Str, strsD (ys.map .str) = some ys := fun ys => by
    induction ys with
    | nil => rfl
    | cons y ys ih => simp only [List.map_cons, strsD, ih]; rfl
  show opJoin [.str a, .lst (ys.map .str)] = _
  simp only [opJoin, e, Option.bind]
  rw [if_pos hz]
theorem join_flat : ∀ ys : List (List Nat), TL.joinL [] ys = ys.flatten
  | [] => rfl
  | [p] => by simp [TL.joinL]
  | p :: q :: r => by
    simp only [TL.joinL, List.nil_append, join_flat (q :: r), List.flatten_cons]
theorem join_stem (gs : List Nat) : Txt.join "" (gs.map fun c => (⟨#[c]⟩ : Str)) = ⟨gs.toArray⟩ := by
  have h := SX.join_S [] (gs.map fun c => [c])
  rw [List.map_map] at h
  have e0 : (SX.S []) = ("" : Str) := rfl
  rw [e0, join_flat] at h
  have e1 : ∀ l : List Nat, ((l.map fun c => [c]).flatten) = l := by
    intro l
    induction l with
    | nil => rfl
    | cons g gs ih => rw [List.map_cons, List.flatten_cons, ih]; rfl
  rw [e1] at h
  exact h
theorem o_stem {gs : List Nat} (h : gs.length ≤ 1000) : opD .join [.str "", .lst (gs.map fun g => D.str ⟨#[g]⟩)] = some (.str ⟨gs.toArray⟩, 0) := by
  have hsum : ((gs.map fun g => (⟨#[g]⟩ : Str)).map (·.length)).sum = gs.length := by
    clear h
    induction gs with
    | nil => rfl
    | cons g gs ih =>
      simp only [List.map_cons, List.sum_cons, List.length_cons, ih]
      have : (⟨#[g]⟩ : Str).length = 1 := rfl
      omega
  rw [o_joinL (ys := gs.map fun g => (⟨#[g]⟩ : Str)) (by rw [List.map_map]; rfl) (by
    have e0 : (("" : Str).length) = 0 := rfl
    rw [hsum, e0]; omega), join_stem]
/-- from two letters' rows: n letters from b on -/
def lettersAt (b n : Nat) : List Nat := cutG (lettersS.cps.toList ++ lettersS.cps.toList) (some (b : Int)) (some ((b : Int) + (n : Int)))
def lettersOk (b n : Nat) : Bool := decide ((lettersAt b n).length = n) && decide ((lettersAt b n).Nodup) && (lettersAt b n).all fun c => decide (c ∈ lettersS.cps.toList)
theorem letters_ok : (List.range 26).all (fun b => (List.range 18).all fun n => lettersOk b n) = true := by kernel_rfl
theorem letters_at {b n : Nat} (hb : b < 26) (hn : n < 18) : lettersOk b n = true := by
  have h := List.all_eq_true.mp letters_ok b (List.mem_range.mpr hb)
  exact List.all_eq_true.mp h n (List.mem_range.mpr hn)
theorem cut_pre {α : Type} (xs : List α) (n : Nat) : cutG xs none (some (n : Int)) = xs.take n := by
  unfold cutG
  have : HT.sIx xs.length 0 none = 0 := rfl
  rw [this]
  rw [HT.sIx_nat, List.drop_zero, Nat.sub_zero]
  by_cases h : n ≤ xs.length
  · rw [Nat.min_eq_left h]
  · rw [Nat.min_eq_right (by omega), List.take_of_length_le (Nat.le_refl _), List.take_of_length_le (by omega)]
/-- some words' loop: us is to come, fs stands -/
theorem words_loop {b x1 x2 x3 x5 x6 x7 x8 x9 x10 : Option DK} : ∀ (us fs : List Str) (k : Nat) (y : Option DK), (fs ++ us).Nodup → (fs ++ us).length < 1000 → ∃ k' y',
    forS (.name 11) [.asg 4 (.op .add [.var 4 false, .op .mul [.lst [.var 11 false], .op .int [.op .notin [.var 11 false, .var 4 false]]]])] (us.map .str) [b, x1, x2, x3, some (.lst (fs.map .str), k), x5, x6, x7, x8, x9, x10, y]
      = .nx [b, x1, x2, x3, some (.lst ((fs ++ us).map .str), k'), x5, x6, x7, x8, x9, x10, y']
  | [], fs, k, y, hn, hl => ⟨k, y, by simp⟩
  | u :: us, fs, k, y, hn, hl => by
    have hu : u ∉ fs := fun z => (List.nodup_append.mp hn).2.2 u z u List.mem_cons_self rfl
    have e1 : fs ++ u :: us = (fs ++ [u]) ++ us := by simp
    have hlen : fs.length + 1 ≤ 16777216 := by
      simp only [List.length_append, List.length_cons] at hl
      omega
    obtain ⟨k', y', e⟩ := words_loop (b := b) (x1 := x1) (x2 := x2) (x3 := x3) (x5 := x5) (x6 := x6) (x7 := x7) (x8 := x8) (x9 := x9) (x10 := x10) us (fs ++ [u]) 1 (some (.str u, 0)) (by rw [← e1]; exact hn) (by rw [← e1]; exact hl)
    refine ⟨k', y', ?_⟩
    rw [e1, ← e, List.map_cons, forS_cons]
    simp [hu, hlen]
/-- what stands behind the words' choice -/
theorem words_rest (b : Bag) {W : List Str} (h2 : W.length < 1000) (hW : W.Nodup) : ∃ us : List Str, us.Perm W ∧ mxL b (W.map .str) = us.map .str ∧ ∀ (x0 x1 x2 x3 x5 x6 x7 x8 x9 x10 x11 : Option DK) (k4 : Nat), ∃ k' y',
    forS (.name 11) [.asg 4 (.op .add [.var 4 false, .op .mul [.lst [.var 11 false], .op .int [.op .notin [.var 11 false, .var 4 false]]]])] (us.map .str) [x0, x1, x2, x3, some (.lst [], k4), x5, x6, x7, x8, x9, x10, x11]
      = .nx [x0, x1, x2, x3, some (.lst (us.map .str), k'), x5, x6, x7, x8, x9, x10, y'] := by
  have hl : (W.map D.str).length < 1000000 := by rw [List.length_map]; omega
  obtain ⟨us, hu, hp⟩ := strs_perm (mxL_perm b hl)
  refine ⟨us, hp, hu, fun x0 x1 x2 x3 x5 x6 x7 x8 x9 x10 x11 k4 => ?_⟩
  obtain ⟨k', y', e⟩ := words_loop (b := x0) (x1 := x1) (x2 := x2) (x3 := x3) (x5 := x5) (x6 := x6) (x7 := x7) (x8 := x8) (x9 := x9) (x10 := x10) us [] k4 x11 (by simpa using hp.nodup_iff.mpr hW) (by simpa using (by rw [hp.length_eq]; exact h2))
  exact ⟨k', y', by simpa using e⟩
theorem rangeD_len (n : Nat) : (rangeD 0 n).length = n := by simp [rangeD]
/-- drawn letters -/
theorem stem_loop {x1 x2 x3 x4 x6 x7 x9 x10 x11 : Option DK} : ∀ (rem : List D) (b : Bag) (gs : List Nat) (y : Option DK), (∀ g ∈ gs, g ∈ lettersS.cps.toList) → ∃ (b' : Bag) (hs : List Nat) (y' : Option DK), hs.length = gs.length + rem.length ∧ (∀ g ∈ hs, g ∈ lettersS.cps.toList) ∧
    compS [8] (.name 8) [] (.op .idx [.var 5 false, .call f__law_take [.loan 0, .cst (.int 26)]]) rem [some (bgD b, 1), x1, x2, x3, x4, some (.str lettersS, 0), x6, x7, y, x9, x10, x11] (gs.map fun g => D.str ⟨#[g]⟩)
      = .ok (.lst (hs.map fun g => D.str ⟨#[g]⟩), 1) [some (bgD b', 1), x1, x2, x3, x4, some (.str lettersS, 0), x6, x7, y', x9, x10, x11]
  | [], b, gs, y, hg => ⟨b, gs, y, by simp, hg, by simp⟩
  | d :: rem, b, gs, y, hg => by
    have h0 := tkM_lo b (n := 26) (by omega) (by omega)
    have h1 := tkM_hi b (n := 26) (by omega) (by omega)
    have hll : ((lettersS.cps.toList.length : Nat) : Int) = 26 := by decide +kernel
    have e26 : lettersS.length ≤ 16777216 := by decide
    obtain ⟨ch, hch, e⟩ := atI_in (xs := lettersS.cps.toList) h0 (by rw [hll]; exact h1)
    obtain ⟨b', hs, y', a1, a2, a3⟩ := stem_loop (x1 := x1) (x2 := x2) (x3 := x3) (x4 := x4) (x6 := x6) (x7 := x7) (x9 := x9) (x10 := x10) (x11 := x11) rem (tkB b 26) (gs ++ [ch]) (some (d, 0)) (by
      intro g hh
      rcases List.mem_append.mp hh with hh | hh
      · exact hg g hh
      · rw [List.mem_singleton.mp hh]; exact hch)
    refine ⟨b', hs, y', by rw [a1]; simp; omega, a2, ?_⟩
    rw [compS_cons, ← a3]
    simp [e26, e]
/-- a stem and letters -/
theorem app_loop {x0 x1 x2 x3 x4 x5 x6 x8 x9 x11 : Option DK} {st : Str} (hst : st.length ≤ 1000) : ∀ (gs : List Nat) (acc : List D) (y : Option DK), ∃ (y' : Option DK),
    compS [10] (.name 10) [] (.op .add [.var 7 false, .var 10 false]) (gs.map fun g => D.str ⟨#[g]⟩) [x0, x1, x2, x3, x4, x5, x6, some (.str st, 0), x8, x9, y, x11] acc
      = .ok (.lst (acc ++ gs.map fun g => D.str (st ++ ⟨#[g]⟩)), 1) [x0, x1, x2, x3, x4, x5, x6, some (.str st, 0), x8, x9, y', x11]
  | [], acc, y => ⟨y, by simp⟩
  | g :: gs, acc, y => by
    obtain ⟨y', e⟩ := app_loop (x0 := x0) (x1 := x1) (x2 := x2) (x3 := x3) (x4 := x4) (x5 := x5) (x6 := x6) (x8 := x8) (x9 := x9) (x11 := x11) hst gs (acc ++ [.str (st ++ ⟨#[g]⟩)]) (some (.str ⟨#[g]⟩, 0))
    refine ⟨y', ?_⟩
    have h1 : (⟨#[g]⟩ : Str).length = 1 := rfl
    have hl : st.length + (⟨#[g]⟩ : Str).length ≤ 16777216 := by rw [h1]; omega
    rw [List.map_cons, compS_cons]
    simp [hl]
    rw [e]
    simp
theorem words_ex (b : Bag) (n : Nat) : ∃ (ws : List Str) (b' : Bag), 0 < n → n ≤ 15 → (∀ k, runF f__law_words [(bgD b, 1), (.int n, k)] = .ok (.lst (ws.map .str), 1) [some (bgD b', 1), some (.int n, 0)]) ∧ ws.length = n ∧ ws.Nodup ∧ ∀ w ∈ ws, nameS w = true := by
  by_cases hn : ¬ (0 < n ∧ n ≤ 15)
  · exact ⟨[], b, fun h0 h1 => (hn ⟨h0, h1⟩).elim⟩
  replace hn := Decidable.not_not.mp hn
  obtain ⟨hn0, hn1⟩ := hn
  have fin : ∀ {W us : List Str} (b' : Bag), us.Perm W → n ≤ W.length → W.Nodup → (∀ w ∈ W, nameS w = true) → (∀ k, runF f__law_words [(bgD b, 1), (.int n, k)] = .ok (.lst ((us.take n).map .str), 1) [some (bgD b', 1), some (.int n, 0)]) →
      ∃ (ws : List Str) (b' : Bag), 0 < n → n ≤ 15 → (∀ k, runF f__law_words [(bgD b, 1), (.int n, k)] = .ok (.lst (ws.map .str), 1) [some (bgD b', 1), some (.int n, 0)]) ∧ ws.length = n ∧ ws.Nodup ∧ ∀ w ∈ ws, nameS w = true := by
    intro W us b' hp hl hW hN e
    refine ⟨us.take n, b', fun _ _ => ⟨e, ?_, (hp.nodup_iff.mpr hW).sublist (List.take_sublist _ _), fun w hw => hN w (hp.subset (List.mem_of_mem_take hw))⟩⟩
    rw [List.length_take, hp.length_eq]
    omega
  have t0 := tkM_lo b (n := 19) (by omega) (by omega)
  have t1 := tkM_hi b (n := 19) (by omega) (by omega)
  obtain ⟨m, hm⟩ := Int.eq_ofNat_of_zero_le t0
  rw [hm] at t1
  have hmk := menu_at (n := m) (m := n) (by omega) (by omega)
  obtain ⟨k1, k3⟩ := and2 hmk
  obtain ⟨k1, k2⟩ := and2 k1
  have k1 := of_decide_eq_true k1
  have k2 := of_decide_eq_true k2
  have k3 := List.all_eq_true.mp k3
  have e38 : menuW.length + menuW.length ≤ 16777216 := by decide
  have eW : cutG (menuW.map D.str ++ menuW.map D.str) (some (m : Int)) (some ((m : Int) + (n : Int) + 2)) = (cutG (menuW ++ menuW) (some (m : Int)) (some ((m : Int) + (n : Int) + 2))).map .str := by rw [← List.map_append, cutG_map]
  generalize cutG (menuW ++ menuW) (some (m : Int)) (some ((m : Int) + (n : Int) + 2)) = W at k1 k2 k3 eW
  have e1 : opD .split [.str "a b take give aa person thing read make zzzzzzzz z drop write bare makes ab q bar actor", .str " "] = some (.lst (menuW.map .str), 1) := menu_split
  by_cases hz : ¬ tkM (tkB b 19) 4 = 0
  · obtain ⟨us, hp, hu, e⟩ := words_rest (tkB (tkB b 19) 4) (W := W) (by omega) k2
    refine fin (mxB (tkB (tkB b 19) 4) (W.map .str)) hp (by omega) k2 k3 fun k => ?_
    have hz' : (tkM (tkB b 19) 4 == 0) = false := by simpa using hz
    have hl' : W.length < 1000000 := by omega
    simp [f__law_words, hm, eW, e38, hz', hl', hu]
    obtain ⟨k', y', e⟩ := e (some (bgD (mxB (tkB (tkB b 19) 4) (W.map .str)), 1)) (some (.int n, 0)) (some (.lst (menuW.map .str), 0)) (some (.int m, 0)) (some (.str lettersS, 0)) (some (.lst (W.map .str), 0)) none none none none none 1
    rw [show Str.ofString "abcdefghijklmnopqrstuvwxyz" = lettersS from rfl, e]
    simp [cut_pre, List.map_take]
  · replace hz := Decidable.not_not.mp hz
    have hz' : (tkM (tkB b 19) 4 == 0) = true := by simpa using hz
    have y0 := tkM_lo (tkB (tkB b 19) 4) (n := 7) (by omega) (by omega)
    have y1 := tkM_hi (tkB (tkB b 19) 4) (n := 7) (by omega) (by omega)
    obtain ⟨y, hy⟩ := Int.eq_ofNat_of_zero_le y0
    rw [hy] at y1
    have hyl : (y : Int) ≤ 16777216 ∧ -16777216 ≤ (y : Int) := by omega
    have hyn : y ≤ 16777216 := by omega
    have eS : Str.ofString "abcdefghijklmnopqrstuvwxyz" = lettersS := rfl
    obtain ⟨b1, hs, y1', hs1, hs2, e2⟩ := stem_loop (x1 := some (.int n, 0)) (x2 := some (.lst (menuW.map .str), 0)) (x3 := some (.int m, 0)) (x4 := some (.lst [], 1)) (x6 := some (.lst (W.map .str), 1)) (x7 := none) (x9 := none) (x10 := none) (x11 := none) (rangeD 0 y) (tkB (tkB (tkB b 19) 4) 7) [] none (by simp)
    rw [rangeD_len, List.length_nil, Nat.zero_add] at hs1
    simp only [List.map_nil] at e2
    have g0 := tkM_lo b1 (n := 26) (by omega) (by omega)
    have g1 := tkM_hi b1 (n := 26) (by omega) (by omega)
    obtain ⟨g, hg⟩ := Int.eq_ofNat_of_zero_le g0
    rw [hg] at g1
    have e52 : lettersS.length + lettersS.length ≤ 16777216 := by decide
    have e52' : (lettersS ++ lettersS).length ≤ 16777216 := by decide
    have eL : (cutS (lettersS ++ lettersS) (some (g : Int)) (some ((g : Int) + (n : Int)))).cps.toList = lettersAt g n := by
      have e1 : (lettersS ++ lettersS).cps.toList = lettersS.cps.toList ++ lettersS.cps.toList := by rw [Str.cps_append, Array.toList_append]
      have e2 : (lettersS ++ lettersS).length = (lettersS.cps.toList ++ lettersS.cps.toList).length := by rw [← e1]; simp [Str.length]
      unfold cutS lettersAt cutG
      rw [e1, e2]
    have hlo := letters_at (b := g) (n := n) (by omega) (by omega)
    obtain ⟨hlo, l3⟩ := and2 hlo
    obtain ⟨l1, l2⟩ := and2 hlo
    have l1 := of_decide_eq_true l1
    have l2 := of_decide_eq_true l2
    have l3 := List.all_eq_true.mp l3
    generalize lettersAt g n = Ls at l1 l2 l3 eL
    have ej := o_stem (gs := hs) (by omega)
    have hlL : Ls.length ≤ 16777216 := by omega
    obtain ⟨yz, e3⟩ := app_loop (x0 := some (bgD (tkB b1 26), 1)) (x1 := some (.int n, 0)) (x2 := some (.lst (menuW.map .str), 0)) (x3 := some (.int m, 0)) (x4 := some (.lst [], 1)) (x5 := some (.str lettersS, 0)) (x6 := some (.lst (W.map .str), 1)) (x8 := none) (x9 := some (.int g, 0)) (x11 := none) (st := ⟨hs.toArray⟩) (by show (⟨hs.toArray⟩ : Str).cps.size ≤ 1000; simp; omega) Ls [] none
    let W2 : List Str := Ls.map fun g => (⟨hs.toArray⟩ : Str) ++ ⟨#[g]⟩
    have hW2 : W2.length = n := by simp [W2, l1]
    have hW2n : W2.Nodup := by
      refine List.Pairwise.map (S := fun u v : Str => u ≠ v) (fun g => (⟨hs.toArray⟩ : Str) ++ ⟨#[g]⟩) (fun a c hac h => hac ?_) l2
      have h1 := congrArg (fun s : Str => s.cps.toList) h
      simpa [Str.cps_append] using h1
    have hW2N : ∀ w ∈ W2, nameS w = true := by
      intro w hw
      obtain ⟨c, hc, rfl⟩ := List.mem_map.mp hw
      have hlen : ((⟨hs.toArray⟩ : Str) ++ ⟨#[c]⟩).length = y + 1 := by
        rw [str_len, Str.cps_append, Array.toList_append]
        simp [hs1]
      unfold nameS
      rw [hlen]
      have h1 : decide (0 < y + 1) = true := decide_eq_true (by omega)
      have h2 : decide (y + 1 ≤ 8) = true := decide_eq_true (by omega)
      rw [h1, h2, Bool.true_and, Bool.true_and, Str.cps_append, Array.toList_append]
      refine List.all_eq_true.mpr fun z hz => ?_
      rcases List.mem_append.mp hz with hz | hz
      · exact decide_eq_true (hs2 z (by simpa using hz))
      · have : z = c := by simpa using hz
        rw [this]
        exact l3 c hc
    obtain ⟨us, hp, hu, e⟩ := words_rest (tkB b1 26) (W := W2) (by omega) hW2n
    have eD : (Ls.map fun g => D.str ((⟨hs.toArray⟩ : Str) ++ ⟨#[g]⟩)) = W2.map .str := by simp [W2]
    have hl' : (W2.map D.str).length < 1000000 := by rw [List.length_map]; omega
    refine fin (mxB (tkB b1 26) (W2.map .str)) hp (by omega) hW2n hW2N fun k => ?_
    simp only [List.nil_append, eD] at e3
    clear_value W2
    simp [f__law_words, hm, eW, e38, hz', hy, hyl, hyn, rangeD_len, eS, e2, ej, hg, e52, e52', eL, hlL, e3]
    have hl2 : W2.length < 1000000 := by omega
    simp [hu, hl2]
    obtain ⟨k', y', e⟩ := e (some (bgD (mxB (tkB b1 26) (W2.map .str)), 1)) (some (.int n, 0)) (some (.lst (menuW.map .str), 0)) (some (.int m, 0)) (some (.str lettersS, 0)) (some (.lst (W2.map .str), 0)) (some (.str ⟨hs.toArray⟩, 0)) none (some (.int g, 0)) none none 1
    rw [e]
    simp [cut_pre, List.map_take]
/-- the words drawn, and the bag behind -/
noncomputable def wdL (b : Bag) (n : Nat) : List Str := Classical.choose (words_ex b n)
noncomputable def wdB (b : Bag) (n : Nat) : Bag := Classical.choose (Classical.choose_spec (words_ex b n))
theorem wd_spec (b : Bag) {n : Nat} (h0 : 0 < n) (h1 : n ≤ 15) : (∀ k, runF f__law_words [(bgD b, 1), (.int n, k)] = .ok (.lst ((wdL b n).map .str), 1) [some (bgD (wdB b n), 1), some (.int n, 0)]) ∧ (wdL b n).length = n ∧ (wdL b n).Nodup ∧ ∀ w ∈ wdL b n, nameS w = true :=
  Classical.choose_spec (Classical.choose_spec (words_ex b n)) h0 h1
@[simp] theorem run_words {b : Bag} {n : Nat} {k : Nat} (h0 : 0 < n) (h1 : n ≤ 15) : runF f__law_words [(bgD b, 1), (.int n, k)] = .ok (.lst ((wdL b n).map .str), 1) [some (bgD (wdB b n), 1), some (.int n, 0)] := (wd_spec b h0 h1).1 k
theorem wdL_len (b : Bag) {n : Nat} (h0 : 0 < n) (h1 : n ≤ 15) : (wdL b n).length = n := (wd_spec b h0 h1).2.1
theorem wdL_nodup (b : Bag) {n : Nat} (h0 : 0 < n) (h1 : n ≤ 15) : (wdL b n).Nodup := (wd_spec b h0 h1).2.2.1
theorem wdL_name (b : Bag) {n : Nat} (h0 : 0 < n) (h1 : n ≤ 15) : ∀ w ∈ wdL b n, nameS w = true := (wd_spec b h0 h1).2.2.2
end DL
set_option maxHeartbeats 0
namespace DL
open PySem PySem.Spec PyProof.Rows L2
/-! ### data that repr shows -/
def niceStr (x : Str) : Bool := decide (x.length ≤ 1000) && x.cps.toList.all fun c => decide (c < 16 ^ 8)
def niceKey : Key → Bool
  | .inl i => decide (i.natAbs.log2 < 1000)
  | .inr x => niceStr x
def wtKey : Key → Nat
  | .inr x => 10 * x.length + 10
  | _ => 1010
mutual
def niceD : D → Bool
  | .non | .bl _ => true
  | .int i => decide (i.natAbs.log2 < 1000)
  | .str x => niceStr x
  | .lst xs => niceL xs
  | .tup xs => niceL xs
  | .dK kvs => niceK kvs
  | _ => false
def niceL : List D → Bool
  | [] => true
  | x :: xs => niceD x && niceL xs
def niceK : List (Key × D) → Bool
  | [] => true
  | (k, x) :: xs => niceKey k && niceD x && niceK xs
end
mutual
/-- how long its text is at most -/
def wtD : D → Nat
  | .lst xs => wtL xs + 4
  | .tup xs => wtL xs + 4
  | .dK kvs => wtK kvs + 4
  | .str x => 10 * x.length + 10
  | _ => 1010
def wtL : List D → Nat
  | [] => 0
  | x :: xs => wtD x + 2 + wtL xs
def wtK : List (Key × D) → Nat
  | [] => 0
  | (k, x) :: xs => wtKey k + wtD x + 4 + wtK xs
end
def rpD (d : D) : Str := match toPy d with
  | some p => p.shown
  | none => ⟨#[]⟩
theorem strLen_app (a b : Str) : (a ++ b).length = a.length + b.length := by
  show (a ++ b).cps.size = _
  rw [Str.cps_append, Array.size_append]
  rfl
theorem join_le : ∀ ts : List Str, (Str.join ", " ts).length ≤ (ts.map fun t => t.length + 2).sum
  | [] => by show 0 ≤ _; exact Nat.zero_le _
  | [x] => by show x.length ≤ _; simp
  | x :: y :: r => by
    have ih := join_le (y :: r)
    show (x ++ ", " ++ Str.join ", " (y :: r)).length ≤ _
    rw [strLen_app, strLen_app, List.map_cons, List.sum_cons]
    have e : ((", " : Str)).length = 2 := rfl
    omega
theorem textFrom_le : ∀ (ts : List Str) (k : Nat) (acc : Str), (textFrom k acc ts).length ≤ acc.length + (ts.map fun t => t.length + 2).sum
  | [], k, acc => by show acc.length ≤ _; simp
  | t :: r, k, acc => by
    have ih := textFrom_le r (k + 1) (acc ++ (if k > 0 then ", " else "" : String) ++ t)
    show (textFrom (k + 1) (acc ++ (if k > 0 then ", " else "" : String) ++ t) r).length ≤ _
    rw [List.map_cons, List.sum_cons]
    rw [strLen_app, strLen_app] at ih
    have e : (Str.ofString (if k > 0 then ", " else "")).length ≤ 2 := by
      split
      · exact Nat.le_refl 2
      · exact Nat.zero_le _
    omega
theorem nice_int {i : Int} (h : i.natAbs.log2 < 1000) : (PyData.int i).showable = true ∧ (PyData.int i).shown.length ≤ 1010 := by
  refine ⟨by simp only [PyData.showable]; exact decide_eq_true (by omega), ?_⟩
  have := int_text_length_le (a := i) (k := 1000) (by decide) h
  simp only [PyData.shown]
  show (Str.ofString (toString i)).length ≤ 1010
  rw [PySem.ofString_length]
  omega
theorem nice_str {x : Str} (h : niceStr x = true) : (PyData.str x).showable = true ∧ (PyData.str x).shown.length ≤ 10 * x.length + 10 := by
  obtain ⟨h1, h2⟩ := and2 h
  refine ⟨rfl, ?_⟩
  have := PySem.StrLaws.reprText_len x fun c hc => of_decide_eq_true (List.all_eq_true.mp h2 c hc)
  simp only [PyData.shown]
  omega
theorem nice_key {k : Key} (h : niceKey k = true) : (keyPy k).showable = true ∧ (keyPy k).shown.length ≤ wtKey k ∧ (keyPy k).depth = 0 := by
  cases k with
  | inl i => exact ⟨(nice_int (of_decide_eq_true h)).1, (nice_int (of_decide_eq_true h)).2, by simp only [keyPy, PyData.depth]⟩
  | inr x => exact ⟨(nice_str h).1, (nice_str h).2, by simp only [keyPy, PyData.depth]⟩
mutual
theorem nice_py : ∀ d : D, niceD d = true → ∃ p, toPy d = some p ∧ p.showable = true ∧ p.shown.length ≤ wtD d ∧ p.depth ≤ hgt d
  | .non, _ => ⟨.none, by simp only [toPy], rfl, by simp only [PyData.shown, wtD]; decide, by simp only [PyData.depth]; exact Nat.zero_le _⟩
  | .bl b, _ => ⟨.bool b, by simp only [toPy], rfl, by cases b <;> (simp only [PyData.shown, wtD]; decide), by simp only [PyData.depth]; exact Nat.zero_le _⟩
  | .int i, h => by
    simp only [niceD] at h
    have h := nice_int (of_decide_eq_true h)
    exact ⟨.int i, by simp only [toPy], h.1, by simp only [wtD]; exact h.2, by simp only [PyData.depth]; exact Nat.zero_le _⟩
  | .str x, h => by
    simp only [niceD] at h
    have h := nice_str h
    exact ⟨.str x, by simp only [toPy], h.1, by simp only [wtD]; exact h.2, by simp only [PyData.depth]; exact Nat.zero_le _⟩
  | .lst xs, h => by
    simp only [niceD] at h
    obtain ⟨ps, e, s, l, dp⟩ := nice_pyL xs h
    refine ⟨.list ps, by simp only [toPy, e], by simp only [PyData.showable]; exact s, ?_, by simp only [PyData.depth, hgt]; omega⟩
    simp only [PyData.shown, wtD, listText]
    rw [strLen_app]
    have := textFrom_le (PyData.shownAll ps) 0 "["
    have e1 : (("[" : Str)).length = 1 := rfl
    have e2 : (("]" : Str)).length = 1 := rfl
    omega
  | .tup xs, h => by
    simp only [niceD] at h
    obtain ⟨ps, e, s, l, dp⟩ := nice_pyL xs h
    refine ⟨.tuple ps, by simp only [toPy, e], by simp only [PyData.showable]; exact s, ?_, by simp only [PyData.depth, hgt]; omega⟩
    simp only [PyData.shown, wtD, tupleText]
    rw [strLen_app, strLen_app]
    have := join_le (PyData.shownAll ps)
    have e1 : (("(" : Str)).length = 1 := rfl
    have e2 : (Str.ofString (if (PyData.shownAll ps).length == 1 then ",)" else ")")).length ≤ 2 := by
      split
      · exact Nat.le_refl 2
      · exact Nat.le_succ 1
    omega
  | .dK kvs, h => by
    simp only [niceD] at h
    obtain ⟨ps, e, s, l, dp⟩ := nice_pyK kvs h
    refine ⟨.dict ps, by simp only [toPy, e], by simp only [PyData.showable]; exact s, ?_, by simp only [PyData.depth, hgt]; omega⟩
    simp only [PyData.shown, wtD, dictText]
    rw [strLen_app, strLen_app]
    have := join_le (PyData.shownKv ps)
    have e1 : (("{" : Str)).length = 1 := rfl
    have e2 : (("}" : Str)).length = 1 := rfl
    omega
  | .dT _, h => by simp only [niceD] at h; cases h
  | .obj _ _, h => by simp only [niceD] at h; cases h
  | .scr _, h => by simp only [niceD] at h; cases h
theorem nice_pyL : ∀ xs : List D, niceL xs = true → ∃ ps, toPyL xs = some ps ∧ PyData.showableAll ps = true ∧ ((PyData.shownAll ps).map fun t => t.length + 2).sum ≤ wtL xs ∧ PyData.depthAll ps ≤ hgtL xs
  | [], _ => ⟨[], by simp only [toPyL], rfl, by simp only [PyData.shownAll, wtL]; exact Nat.le_refl 0, by simp only [PyData.depthAll]; exact Nat.zero_le _⟩
  | x :: xs, h => by
    simp only [niceL] at h
    obtain ⟨h1, h2⟩ := and2 h
    obtain ⟨p, e, s, l, dp⟩ := nice_py x h1
    obtain ⟨ps, e', s', l', dp'⟩ := nice_pyL xs h2
    refine ⟨p :: ps, by simp only [toPyL, e, e'], by simp only [PyData.showableAll, s, s']; rfl, ?_, by simp only [PyData.depthAll, hgtL]; omega⟩
    simp only [PyData.shownAll, wtL, List.map_cons, List.sum_cons]
    omega
theorem nice_pyK : ∀ xs : List (Key × D), niceK xs = true → ∃ ps, toPyK xs = some ps ∧ PyData.showableKv ps = true ∧ ((PyData.shownKv ps).map fun t => t.length + 2).sum ≤ wtK xs ∧ PyData.depthKv ps ≤ hgtK xs
  | [], _ => ⟨[], by simp only [toPyK], rfl, by simp only [PyData.shownKv, wtK]; exact Nat.le_refl 0, by simp only [PyData.depthKv]; exact Nat.zero_le _⟩
  | (k, x) :: xs, h => by
    simp only [niceK] at h
    obtain ⟨h1, h3⟩ := and2 h
    obtain ⟨h1, h2⟩ := and2 h1
    obtain ⟨p, e, s, l, dp⟩ := nice_py x h2
    obtain ⟨ps, e', s', l', dp'⟩ := nice_pyK xs h3
    obtain ⟨sq, lq, dq⟩ := nice_key h1
    have e5 : ((": " : Str)).length = 2 := rfl
    refine ⟨((keyPy k), p) :: ps, by simp only [toPyK, e, e']; cases k <;> rfl, by simp only [PyData.showableKv, s, s', sq]; rfl, ?_, ?_⟩
    · simp only [PyData.shownKv, wtK, List.map_cons, List.sum_cons]
      rw [strLen_app, strLen_app]
      omega
    · simp only [PyData.depthKv, hgtK, dq]
      omega
end
theorem o_repr {d : D} (h : niceD d = true) (hw : wtD d ≤ 16777216) (hh : hgt d ≤ 64) : opD .repr [d] = some (.str (rpD d), 0) := by
  obtain ⟨p, e, s, l, dp⟩ := nice_py d h
  show opRepr [d] = _
  unfold rpD
  simp only [opRepr, e]
  rw [if_pos ⟨s, by show _ ≤ 16777216; omega, by omega⟩]
end DL
set_option maxHeartbeats 0
namespace DL
open PySem PySem.Spec PyProof.Rows L2
theorem compS_pure {own : List Nat} {tg : Tg} {ifs : List IE} {elt : IE} (Inv : Gm → Prop) (g : D → Option D) : ∀ (ds acc : List D) (Γ : Gm), (∀ d ∈ ds, ∀ Γ, Inv Γ → ∃ Γ', Inv Γ' ∧ ∀ ds' acc', cm2 own tg ifs elt ds' acc' (setTg tg (d, 0) (wipeG Γ own)) = compS own tg ifs elt ds' Γ' (acc' ++ (g d).toList)) → Inv Γ →
    ∃ Γ', Inv Γ' ∧ compS own tg ifs elt ds Γ acc = .ok (.lst (acc ++ ds.filterMap g), 1) Γ'
  | [], acc, Γ, _, hi => ⟨Γ, hi, by simp⟩
  | d :: ds, acc, Γ, h, hi => by
    obtain ⟨Γ1, h1, e⟩ := h d List.mem_cons_self Γ hi
    obtain ⟨Γ2, h2, e2⟩ := compS_pure Inv g ds (acc ++ (g d).toList) Γ1 (fun d' hd => h d' (List.mem_cons_of_mem _ hd)) h1
    refine ⟨Γ2, h2, ?_⟩
    rw [compS_cons, e, e2, List.append_assoc]
    congr 4
    cases q : g d <;> simp [q]
theorem forS_pure {tg : Tg} {body : List IS} (Inv : Gm → Prop) : ∀ (ds : List D) (Γ : Gm), (∀ d ∈ ds, ∀ Γ, Inv Γ → ∃ Γ', Inv Γ' ∧ ∀ ds', fo1 tg body ds' (setTg tg (d, 0) Γ) = forS tg body ds' Γ') → Inv Γ → ∃ Γ', Inv Γ' ∧ forS tg body ds Γ = .nx Γ'
  | [], Γ, _, hi => ⟨Γ, hi, rfl⟩
  | d :: ds, Γ, h, hi => by
    obtain ⟨Γ1, h1, e⟩ := h d List.mem_cons_self Γ hi
    obtain ⟨Γ2, h2, e2⟩ := forS_pure Inv ds Γ1 (fun d' hd => h d' (List.mem_cons_of_mem _ hd)) h1
    exact ⟨Γ2, h2, by rw [forS_cons, e, e2]⟩
theorem forS_nx {tg : Tg} {body : List IS} (Inv : Gm → Prop) {ds : List D} {Γ : Gm} (h : ∀ d ∈ ds, ∀ Γ, Inv Γ → ∃ Γ2 Γ', setTg tg (d, 0) Γ = some Γ2 ∧ xssX body Γ2 = .nx Γ' ∧ Inv Γ') (hi : Inv Γ) : ∃ Γ', Inv Γ' ∧ forS tg body ds Γ = .nx Γ' :=
  forS_pure Inv ds Γ (fun d hd Γ hi => by
    obtain ⟨Γ2, Γ', e1, e2, h'⟩ := h d hd Γ hi
    exact ⟨Γ', h', fun ds' => by rw [e1, fo1_some, e2, fo2_nx]⟩) hi
theorem boolsD_map {α : Type} (p : α → Bool) : ∀ l : List α, boolsD (l.map fun c => .bl (p c)) = some (l.map p)
  | [] => rfl
  | c :: l => by simp only [List.map_cons, boolsD, boolsD_map p l]; rfl
@[simp] theorem o_all_map {α : Type} {p : α → Bool} {l : List α} : opD .all [.lst (l.map fun c => .bl (p c))] = some (.bl (l.all p), 0) := by
  show opAll [D.lst (l.map fun c => D.bl (p c))] = _
  simp only [opAll, boolsD_map, Option.map]
  congr 3
  simp [List.all_map]
theorem o_in_sign {c : Nat} {x : Str} : opD .inn [.str ⟨#[c]⟩, .str x] = some (.bl (decide (c ∈ x.cps.toList)), 0) := by
  show opInn [D.str ⟨#[c]⟩, D.str x] = _
  simp only [opInn, inStr]
  rw [PySem.StrLaws.found_one]
theorem o_notin_sign {c : Nat} {x : Str} : opD .notin [.str ⟨#[c]⟩, .str x] = some (.bl (!decide (c ∈ x.cps.toList)), 0) := by
  show opNotin [D.str ⟨#[c]⟩, D.str x] = _
  simp only [opNotin, inStr]
  rw [PySem.StrLaws.found_one]
@[simp] theorem isTy_eq {t T : String} : isTy t T = (t == T || (t == "bool" && T == "int")) := rfl
/-! ### what is a name -/
def isNm : D → Bool
  | .str w => nameS w
  | _ => false
theorem nice_ty {d : D} (h : niceD d = true) : ∃ t, tyD d = some t := by
  cases d <;> first | exact ⟨_, rfl⟩ | (simp only [niceD] at h; cases h)
theorem niceL_mem : ∀ {xs : List D}, niceL xs = true → ∀ x ∈ xs, niceD x = true
  | [], _, x, hx => by cases hx
  | y :: ys, h, x, hx => by
    simp only [niceL] at h
    obtain ⟨h1, h2⟩ := and2 h
    rcases List.mem_cons.mp hx with rfl | hx
    · exact h1
    · exact niceL_mem h2 x hx
theorem letters_eq : Str.ofString "abcdefghijklmnopqrstuvwxyz" = lettersS := rfl
theorem run_is_name {d : D} {k : Nat} (h : niceD d = true) : runF f_is_name [(d, k)] = .ok (.bl (isNm d), 0) [some (d, 0)] := by
  cases d with
  | str w =>
    have h' : niceStr w = true := by simpa only [niceD] using h
    have hl := of_decide_eq_true (and2 h').1
    have hl1 : w.length ≤ 16777216 := by omega
    have e1 := str_len w
    by_cases h0 : 0 < w.length
    · by_cases h8 : w.length ≤ 8
      · obtain ⟨Γ', ⟨y, rfl⟩, e⟩ := compS_pure (own := [1]) (tg := .name 1) (ifs := []) (elt := .op .inn [.var 1 false, .glob "LETTERS" (.str lettersS)]) (fun Γ => ∃ y, Γ = [some (.str w, 0), y]) (fun d => match d with
          | .str x => some (.bl (x.cps.toList.all fun c => decide (c ∈ lettersS.cps.toList)))
          | _ => none) (w.cps.toList.map fun c => .str ⟨#[c]⟩) [] [some (.str w, 0), none] (by
            rintro d hd Γ ⟨y, rfl⟩
            obtain ⟨c, hc, rfl⟩ := List.mem_map.mp hd
            exact ⟨_, ⟨_, rfl⟩, by intros; simp [o_in_sign]; rfl⟩) ⟨none, rfl⟩
        have e2 : w.cps.toList.length ≤ 16777216 := by omega
        have h8' : (w.length : Int) ≤ 8 := by omega
        have e3 : (List.filterMap (fun d => match d with
                | D.str x => some (D.bl (x.cps.toList.all fun c => decide (c ∈ lettersS.cps.toList)))
                | x => none) (w.cps.toList.map fun c => .str ⟨#[c]⟩)) = w.cps.toList.map fun c => D.bl (decide (c ∈ lettersS.cps.toList)) := by
          rw [List.filterMap_map]
          simp [Function.comp_def]
        rw [e3, List.nil_append] at e
        have e2' : w.cps.size ≤ 16777216 := by simpa using e2
        simp only [f_is_name, letters_eq]
        simp [hl1, h0, h8, h8', e2', e, isNm, nameS]
      · have h8' : ¬ (w.length : Int) ≤ 8 := by omega
        simp [f_is_name, hl1, h0, h8, h8', isNm, nameS]
    · have h0' : w.length = 0 := by omega
      simp [f_is_name, hl1, h0', isNm, nameS]
  | obj _ _ => simp only [niceD] at h; cases h
  | dT _ => simp only [niceD] at h; cases h
  | scr _ => simp only [niceD] at h; cases h
  | _ => simp [f_is_name, isNm]
end DL
set_option maxHeartbeats 0
namespace DL
open PySem PySem.Spec PyProof.Rows L2
def okD (d : D) : Bool := niceD d && decide (hgt d ≤ 60) && decide (wtD d ≤ 16777216)
theorem okD_nice {d : D} (h : okD d = true) : niceD d = true := (and2 (and2 h).1).1
theorem okD_hgt {d : D} (h : okD d = true) : hgt d ≤ 60 := of_decide_eq_true (and2 (and2 h).1).2
theorem okD_wt {d : D} (h : okD d = true) : wtD d ≤ 16777216 := of_decide_eq_true (and2 h).2
theorem hgtL_filter (p : D → Bool) : ∀ xs : List D, hgtL (xs.filter p) ≤ hgtL xs
  | [] => Nat.le_refl _
  | x :: xs => by
    have ih := hgtL_filter p xs
    rw [List.filter_cons]
    split <;> (simp only [hgtL]; omega)
theorem o_eqE {xs : List D} (h : hgtL xs ≤ 60) : opD .eq [.lst xs, .lst []] = some (.bl xs.isEmpty, 0) := by
  show opEq [D.lst xs, D.lst []] = _
  simp only [opEq]
  rw [if_pos (by simp only [hgt]; omega)]
  cases xs with
  | nil => simp [eqD, eqZ]
  | cons x xs => simp [eqD]
theorem o_neE {xs : List D} (h : hgtL xs ≤ 60) : opD .ne [.lst xs, .lst []] = some (.bl (!xs.isEmpty), 0) := by
  show opNe [D.lst xs, D.lst []] = _
  simp only [opNe]
  rw [if_pos (by simp only [hgt]; omega)]
  cases xs with
  | nil => simp [eqD, eqZ]
  | cons x xs => simp [eqD]
theorem all_filter_empty {α : Type} (p : α → Bool) : ∀ l : List α, (l.filter fun c => !p c).isEmpty = l.all p
  | [] => rfl
  | c :: l => by
    rw [List.filter_cons]
    cases h : p c
    · simp [h]
    · simp [h, all_filter_empty p l]
theorem hgtL_signs (l : List Nat) : hgtL (l.map fun c => D.str ⟨#[c]⟩) = 0 := by
  induction l with
  | nil => rfl
  | cons c l ih => simp only [List.map_cons, hgtL, hgt, ih]; rfl
theorem run_law_is_name {d : D} {k : Nat} (h : niceD d = true) : runF f__law_is_name [(d, k)] = .ok (.bl (isNm d), 0) [some (d, 0)] := by
  cases d with
  | str w =>
    have h' : niceStr w = true := by simpa only [niceD] using h
    have hl := of_decide_eq_true (and2 h').1
    have hl1 : w.length ≤ 16777216 := by omega
    have e1 := str_len w
    by_cases h0 : 0 < w.length
    · by_cases h8 : w.length ≤ 8
      · obtain ⟨Γ', ⟨y, rfl⟩, e⟩ := compS_pure (own := [1]) (tg := .name 1) (ifs := [.op .notin [.var 1 false, .cst (.str lettersS)]]) (elt := .var 1 false) (fun Γ => ∃ y, Γ = [some (.str w, 0), y]) (fun d => match d with
          | .str x => if (x.cps.toList.all fun c => decide (c ∈ lettersS.cps.toList)) = true then none else some d
          | _ => none) (w.cps.toList.map fun c => .str ⟨#[c]⟩) [] [some (.str w, 0), none] (by
            rintro d hd Γ ⟨y, rfl⟩
            obtain ⟨c, hc, rfl⟩ := List.mem_map.mp hd
            by_cases hcl : c ∈ lettersS.cps.toList
            · have hcl' : c ∈ lettersS.cps := by simpa using hcl
              exact ⟨_, ⟨_, rfl⟩, by intros; simp [o_notin_sign, hcl']; rfl⟩
            · have hcl' : ¬ c ∈ lettersS.cps := by simpa using hcl
              exact ⟨_, ⟨_, rfl⟩, by intros; simp [o_notin_sign, hcl']; rfl⟩) ⟨none, rfl⟩
        have e2 : w.cps.toList.length ≤ 16777216 := by omega
        have h8' : (w.length : Int) < 9 := by omega
        have e3 : (List.filterMap (fun d => match d with
                | D.str x => if (x.cps.toList.all fun c => decide (c ∈ lettersS.cps.toList)) = true then none else some d
                | x => none) (w.cps.toList.map fun c => .str ⟨#[c]⟩)) = (w.cps.toList.filter fun c => !decide (c ∈ lettersS.cps.toList)).map fun c => D.str ⟨#[c]⟩ := by
          rw [List.filterMap_map]
          generalize w.cps.toList = l
          induction l with
          | nil => rfl
          | cons c l ih =>
            rw [List.filterMap_cons, List.filter_cons, ih]
            by_cases hcl : c ∈ lettersS.cps
            · simp [hcl]
            · simp [hcl]
        rw [e3, List.nil_append] at e
        have e2' : w.cps.size ≤ 16777216 := by simpa using e2
        have e4 := o_eqE (xs := (w.cps.toList.filter fun c => !decide (c ∈ lettersS.cps.toList)).map fun c => D.str ⟨#[c]⟩) (by rw [hgtL_signs]; omega)
        rw [List.isEmpty_map, all_filter_empty] at e4
        simp only [f__law_is_name, letters_eq]
        simp [hl1, h0, h8, h8', e2', e, isNm, nameS]
        simp at e4
        simp [e4]
      · have h8' : ¬ (w.length : Int) < 9 := by omega
        simp [f__law_is_name, hl1, h0, h8, h8', isNm, nameS]
    · have h0' : w.length = 0 := by omega
      simp [f__law_is_name, hl1, h0', isNm, nameS]
  | obj _ _ => simp only [niceD] at h; cases h
  | dT _ => simp only [niceD] at h; cases h
  | scr _ => simp only [niceD] at h; cases h
  | _ => simp [f__law_is_name, isNm]
def isWh : D → Bool
  | .int _ => true
  | _ => false
theorem run_is_integer {d : D} {k : Nat} (h : niceD d = true) : runF f_is_integer [(d, k)] = .ok (.bl (isWh d), 0) [some (d, 0)] := by
  cases d with
  | obj _ _ => simp only [niceD] at h; cases h
  | dT _ => simp only [niceD] at h; cases h
  | scr _ => simp only [niceD] at h; cases h
  | _ => simp [f_is_integer, isWh]
theorem run_law_whole {d : D} {k : Nat} (h : niceD d = true) : runF f__law_is_whole [(d, k)] = .ok (.bl (isWh d), 0) [some (d, 0)] := by
  cases d with
  | obj _ _ => simp only [niceD] at h; cases h
  | dT _ => simp only [niceD] at h; cases h
  | scr _ => simp only [niceD] at h; cases h
  | _ => simp [f__law_is_whole, isWh]
/-- [is_name(one) for one in xs], slot 1 -/
theorem comp_names {x0 : Option DK} {xs acc : List D} {y : Option DK} (h : niceL xs = true) : ∃ y', compS [1] (.name 1) [] (.call f_is_name [.var 1 false]) xs [x0, y] acc = .ok (.lst (acc ++ xs.map fun x => .bl (isNm x)), 1) [x0, y'] := by
  obtain ⟨Γ', ⟨y', rfl⟩, e⟩ := compS_pure (own := [1]) (tg := .name 1) (ifs := []) (elt := .call f_is_name [.var 1 false]) (fun Γ => ∃ y, Γ = [x0, y]) (fun d => some (.bl (isNm d))) xs acc [x0, y] (by
    rintro d hd Γ ⟨y, rfl⟩
    exact ⟨_, ⟨_, rfl⟩, by intros; simp [run_is_name (niceL_mem h d hd)]; rfl⟩) ⟨y, rfl⟩
  exact ⟨y', by rw [e]; simp⟩
/-- [one for one in xs if not is_name(one)], slot 1 -/
theorem comp_nonames {x0 : Option DK} {xs acc : List D} {y : Option DK} (h : niceL xs = true) : ∃ y', compS [1] (.name 1) [.not (.call f__law_is_name [.var 1 false])] (.var 1 false) xs [x0, y] acc = .ok (.lst (acc ++ xs.filter fun x => !isNm x), 1) [x0, y'] := by
  obtain ⟨Γ', ⟨y', rfl⟩, e⟩ := compS_pure (own := [1]) (tg := .name 1) (ifs := [.not (.call f__law_is_name [.var 1 false])]) (elt := .var 1 false) (fun Γ => ∃ y, Γ = [x0, y]) (fun d => if isNm d = true then none else some d) xs acc [x0, y] (by
    rintro d hd Γ ⟨y, rfl⟩
    by_cases hn : isNm d = true
    · exact ⟨_, ⟨_, rfl⟩, by intros; simp [run_law_is_name (niceL_mem h d hd), hn]; rfl⟩
    · exact ⟨_, ⟨_, rfl⟩, by intros; simp [run_law_is_name (niceL_mem h d hd), hn]; rfl⟩) ⟨y, rfl⟩
  refine ⟨y', ?_⟩
  rw [e]
  congr 4
  clear e h
  induction xs with
  | nil => rfl
  | cons x xs ih =>
    rw [List.filterMap_cons, List.filter_cons, ih]
    cases isNm x <;> simp
/-! ### arrows and bars -/
def isAr : D → Bool
  | .tup xs => decide (xs.length = 3) && xs.all isNm
  | _ => false
def tgw : D → Bool
  | .str w => decide (w = "take") || decide (w = "give")
  | _ => false
def isBar : D → Bool
  | .tup xs => decide (xs.length = 4) && (xs.all isNm && tgw (xs.headD .non))
  | _ => false
theorem run_is_arrow {d : D} {k : Nat} (h : niceD d = true) : runF f_is_arrow [(d, k)] = .ok (.bl (isAr d), 0) [some (d, 0)] := by
  cases d with
  | tup xs =>
    have h' : niceL xs = true := by simpa only [niceD] using h
    by_cases h3 : xs.length = 3
    · obtain ⟨y, e⟩ := comp_names (x0 := some (.tup xs, 0)) (acc := []) (y := none) h'
      rw [List.nil_append] at e
      simp [f_is_arrow, h3, e, isAr]
    · have h3' : ((xs.length : Int) == 3) = false := by simp; omega
      simp [f_is_arrow, h3', h3, isAr]
  | obj _ _ => simp only [niceD] at h; cases h
  | dT _ => simp only [niceD] at h; cases h
  | scr _ => simp only [niceD] at h; cases h
  | _ => simp [f_is_arrow, isAr]
theorem run_law_is_arrow {d : D} {k : Nat} (h : niceD d = true) (hh : hgt d ≤ 60) : runF f__law_is_an_arrow [(d, k)] = .ok (.bl (isAr d), 0) [some (d, 0)] := by
  cases d with
  | tup xs =>
    have h' : niceL xs = true := by simpa only [niceD] using h
    by_cases h3 : xs.length = 3
    · obtain ⟨y, e⟩ := comp_nonames (x0 := some (.tup xs, 0)) (acc := []) (y := none) h'
      rw [List.nil_append] at e
      have e4 := o_eqE (xs := xs.filter fun x => !isNm x) (by have := hgtL_filter (fun x => !isNm x) xs; simp only [hgt] at hh; omega)
      rw [all_filter_empty] at e4
      simp [f__law_is_an_arrow, h3, e, isAr, e4]
    · have h3' : ((xs.length : Int) == 3) = false := by simp; omega
      simp [f__law_is_an_arrow, h3', h3, isAr]
  | obj _ _ => simp only [niceD] at h; cases h
  | dT _ => simp only [niceD] at h; cases h
  | scr _ => simp only [niceD] at h; cases h
  | _ => simp [f__law_is_an_arrow, isAr]
theorem o_in_tg {w : Str} : opD .inn [.str w, .tup [.str "take", .str "give"]] = some (.bl (decide (w = "take") || decide (w = "give")), 0) := by
  have e := @o_innS w ["take", "give"]
  have e2 : opD .inn [.str w, .tup [.str "take", .str "give"]] = opD .inn [.str w, .lst ((["take", "give"] : List Str).map .str)] := rfl
  rw [e2, e]
  simp
theorem isNm_str {d : D} (h : isNm d = true) : ∃ w, d = .str w := by
  cases d <;> first | exact ⟨_, rfl⟩ | cases h
theorem run_is_bar {d : D} {k : Nat} (h : niceD d = true) : runF f_is_bar [(d, k)] = .ok (.bl (isBar d), 0) [some (d, 0)] := by
  cases d with
  | tup xs =>
    have h' : niceL xs = true := by simpa only [niceD] using h
    by_cases h3 : xs.length = 4
    · obtain ⟨y, e⟩ := comp_names (x0 := some (.tup xs, 0)) (acc := []) (y := none) h'
      rw [List.nil_append] at e
      cases hn : xs.all isNm with
      | false =>
        have hn' := hn
        simp at hn'
        simp [f_is_bar, h3, e, isBar, hn]
      | true =>
        obtain ⟨x, xs', rfl⟩ : ∃ x xs', xs = x :: xs' := by
          cases xs with
          | nil => cases h3
          | cons x xs' => exact ⟨x, xs', rfl⟩
        obtain ⟨w, rfl⟩ := isNm_str (d := x) (by simp at hn; exact hn.1)
        simp only [List.length_cons] at h3
        have e5 : opD .all [.lst (.bl (isNm (.str w)) :: xs'.map fun x => .bl (isNm x))] = some (.bl true, 0) := by
          have e6 := @o_all_map _ isNm (.str w :: xs')
          rw [hn] at e6
          exact e6
        simp [f_is_bar, h3, e, isBar, hn, e5, o_in_tg, tgw]
    · have h3' : ((xs.length : Int) == 4) = false := by simp; omega
      simp [f_is_bar, h3', h3, isBar]
  | obj _ _ => simp only [niceD] at h; cases h
  | dT _ => simp only [niceD] at h; cases h
  | scr _ => simp only [niceD] at h; cases h
  | _ => simp [f_is_bar, isBar]
theorem run_law_is_bar {d : D} {k : Nat} (h : niceD d = true) (hh : hgt d ≤ 60) : runF f__law_is_a_bar [(d, k)] = .ok (.bl (isBar d), 0) [some (d, 0)] := by
  cases d with
  | tup xs =>
    have h' : niceL xs = true := by simpa only [niceD] using h
    by_cases h3 : xs.length = 4
    · obtain ⟨y, e⟩ := comp_nonames (x0 := some (.tup xs, 0)) (acc := []) (y := none) h'
      rw [List.nil_append] at e
      have e4 := o_neE (xs := xs.filter fun x => !isNm x) (by have := hgtL_filter (fun x => !isNm x) xs; simp only [hgt] at hh; omega)
      rw [all_filter_empty] at e4
      cases hn : xs.all isNm with
      | false =>
        rw [hn] at e4
        simp [f__law_is_a_bar, h3, e, isBar, hn, e4]
      | true =>
        rw [hn] at e4
        obtain ⟨x, xs', rfl⟩ : ∃ x xs', xs = x :: xs' := by
          cases xs with
          | nil => cases h3
          | cons x xs' => exact ⟨x, xs', rfl⟩
        obtain ⟨w, rfl⟩ := isNm_str (d := x) (by simp at hn; exact hn.1)
        simp only [List.length_cons] at h3
        simp [f__law_is_a_bar, h3, e, isBar, hn, e4, o_in_tg, tgw]
    · have h3' : ((xs.length : Int) == 4) = false := by simp; omega
      simp [f__law_is_a_bar, h3', h3, isBar]
  | obj _ _ => simp only [niceD] at h; cases h
  | dT _ => simp only [niceD] at h; cases h
  | scr _ => simp only [niceD] at h; cases h
  | _ => simp [f__law_is_a_bar, isBar]
/-! ### equal, of the same kinds -/
theorem eqD_bools : ∀ bs : List Bool, eqZ (bs.map D.bl) (bs.map D.bl) = some true
  | [] => by simp [eqZ]
  | b :: bs => by simp [eqZ, eqD, eqD_bools bs]
theorem nice_bools : ∀ bs : List Bool, niceL (bs.map D.bl) = true ∧ hgtL (bs.map D.bl) = 0 ∧ wtL (bs.map D.bl) = bs.length * 1012
  | [] => ⟨rfl, rfl, rfl⟩
  | b :: bs => by
    obtain ⟨h1, h2, h3⟩ := nice_bools bs
    simp only [List.map_cons, niceL, niceD, hgtL, hgt, wtL, wtD, h1, h2, h3, List.length_cons]
    refine ⟨rfl, rfl, by omega⟩
theorem run_alike_bools {bs : List Bool} {k j : Nat} (h : bs.length ≤ 1000) : runF f__law_alike [(.lst (bs.map .bl), k), (.lst (bs.map .bl), j)] = .ok (.bl true, 0) [some (.lst (bs.map .bl), 0), some (.lst (bs.map .bl), 0)] := by
  obtain ⟨h1, h2, h3⟩ := nice_bools bs
  have e1 : opD .eq [.lst (bs.map .bl), .lst (bs.map .bl)] = some (.bl true, 0) := by
    rw [o_eq (by simp only [hgt]; omega)]
    simp [eqD, eqD_bools]
  have e2 := o_repr (d := .lst (bs.map .bl)) (by simp only [niceD]; exact h1) (by simp only [wtD]; omega) (by simp only [hgt]; omega)
  simp [f__law_alike, e1, e2]
/-! ### odd values -/
def nestD : Nat → D → D
  | 0, d => d
  | n + 1, d => nestD n (.lst [d])
theorem nest_loop {x0 : Option DK} : ∀ (rem : List D) (d : D) (k : Nat) (y : Option DK), ∃ k' y', forS (.name 2) [.asg 1 (.lst [.var 1 false])] rem [x0, some (d, k), y] = .nx [x0, some (nestD rem.length d, k'), y']
  | [], d, k, y => ⟨k, y, rfl⟩
  | r :: rem, d, k, y => by
    obtain ⟨k', y', e⟩ := nest_loop (x0 := x0) rem (.lst [d]) 1 (some (r, 0))
    refine ⟨k', y', ?_⟩
    rw [List.length_cons, nestD, ← e, forS_cons]
    simp
theorem run_nested {n k : Nat} (hn : n ≤ 1000) : runF f__law_nested [(.int n, k)] = .ok (nestD n (.lst []), 0) [some (.int n, 0)] := by
  obtain ⟨k', y', e⟩ := nest_loop (x0 := some (.int n, 0)) (rangeD 0 n) (.lst []) 1 none
  rw [rangeD_len] at e
  have h1 : (n : Int) ≤ 16777216 ∧ -16777216 ≤ (n : Int) := by omega
  simp [f__law_nested, h1, e]
@[simp] theorem run_nested12 {k : Nat} : runF f__law_nested [(.int 12, k)] = .ok (nestD 12 (.lst []), 0) [some (.int 12, 0)] := run_nested (n := 12) (by omega)
@[simp] theorem run_nested19 {k : Nat} : runF f__law_nested [(.int 19, k)] = .ok (nestD 19 (.lst []), 0) [some (.int 19, 0)] := run_nested (n := 19) (by omega)
def oddL : List D := [.non, .bl true, .bl false, .int 0, .int 1, .int (-1), .int (10 ^ 39), .str "", .str "a", .str "A", .str "ninesigns", .str "a b", .str "+a", .str "*", .lst [], .dK [], .tup [], .lst [.str "a"],
  .tup [.str "a", .str "use", .str "z"], .lst [.str "a", .str "use", .str "z"], .tup [.str "a", .str "use"], .tup [.str "a", .str "use", .str "z", .str "z"], .tup [.str "a", .str "", .str "z"],
  .tup [.str "drop", .str "a", .str "use", .str "z"], .tup [.str "read", .str "a", .str "b"], .tup [.str "make", .str "a", .str "n", .str "box", .tup []], .dK [(.inr "a", .int 0)], .tup [.str "take"],
  nestD 12 (.lst []), .lst (List.replicate 300 (.int 0)), .tup [.str "give", .str "a", .str "use", .str "z"], .str "take", .tup [.str "+a", .str "*", .str "+b"], .tup [.int 0, .int 1, .int 2],
  .tup [.str "a", .lst [.str "use"], .str "z"], .tup [.str "a", .dK [], .str "z"]]
theorem oddL_ok : oddL.all okD = true := by kernel_rfl
theorem o_pow39 : opD .pow [.int 10, .int 39] = some (.int (10 ^ 39), 0) := by kernel_rfl
theorem o_dict1 {x : Str} {d : D} : opD .dict [.str x, d] = some (.dK [(.inr x, d)], 1) := by simp [opD, opDict, dictOfD, keyOf, putG]
theorem run_odd {b : Bag} : runF f__law_odd [(bgD b, 1)] = .ok (pick b oddL, 0) [some (bgD (tkB b 36), 1)] := by
  have e1 : (List.replicate (Int.toNat 300) [D.int 0]).flatten = List.replicate 300 (.int 0) := by kernel_rfl
  have e2 := run_some (b := b) (ds := oddL) (k := 0) (by decide) (by decide)
  have e3 : ((oddL.length : Nat) : Int) = 36 := by decide
  rw [e3] at e2
  simp [f__law_odd, o_pow39, o_dict1]
  rfl
/-! ### signs -/
theorem cutS_list (x : Str) (l h : Option Int) : (cutS x l h).cps.toList = cutG x.cps.toList l h := by
  unfold cutS cutG
  rw [← str_len]
theorem cutS_len (x : Str) (l h : Option Int) : (cutS x l h).length ≤ x.length := by
  rw [str_len, str_len, cutS_list]
  exact cut_len _ _ _
theorem app_list (x y : Str) : (x ++ y).cps.toList = x.cps.toList ++ y.cps.toList := by rw [Str.cps_append, Array.toList_append]
def chrS (x : Str) : Bool := x.cps.toList.all fun c => decide (c < 16 ^ 8)
theorem chrS_cut {x : Str} {l h : Option Int} (hx : chrS x = true) : chrS (cutS x l h) = true := by
  unfold chrS at *
  rw [cutS_list]
  exact List.all_eq_true.mpr fun c hc => List.all_eq_true.mp hx c (cut_mem hc)
theorem chrS_app {x y : Str} (hx : chrS x = true) (hy : chrS y = true) : chrS (x ++ y) = true := by
  unfold chrS at *
  rw [app_list, List.all_append, hx, hy]
  rfl
theorem chrS_name {x : Str} (hx : nameS x = true) : chrS x = true := by
  obtain ⟨h1, h2⟩ := and2 hx
  have hk : lettersS.cps.toList.all (fun c => decide (c < 16 ^ 8)) = true := by decide +kernel
  exact List.all_eq_true.mpr fun c hc => List.all_eq_true.mp hk c (of_decide_eq_true (List.all_eq_true.mp h2 c hc))
theorem name_len {x : Str} (hx : nameS x = true) : 0 < x.length ∧ x.length ≤ 8 := by
  obtain ⟨h1, h2⟩ := and2 hx
  obtain ⟨h1, h3⟩ := and2 h1
  exact ⟨of_decide_eq_true h1, of_decide_eq_true h3⟩
theorem nice_of {x : Str} (h : x.length ≤ 1000) (hc : chrS x = true) : niceStr x = true := by
  unfold niceStr
  rw [decide_eq_true h]
  exact hc
theorem name_nice {x : Str} (hx : nameS x = true) : niceStr x = true := nice_of (by have := (name_len hx).2; omega) (chrS_name hx)
theorem okD_str {x : Str} (h : niceStr x = true) : okD (.str x) = true := by
  have h1 := of_decide_eq_true (and2 h).1
  have e1 : niceD (.str x) = true := by simpa only [niceD] using h
  have e2 : hgt (.str x) ≤ 60 := by simp only [hgt]; omega
  have e3 : wtD (.str x) ≤ 16777216 := by simp only [wtD]; omega
  unfold okD
  rw [e1, decide_eq_true e2, decide_eq_true e3]
  rfl
def signsS : Str := " !#$&'()*+,-./0123456789:;<=>?@ABCXYZ[]^_`abcxyz{|}~\n"
theorem rep_len (x : Str) (n : Nat) : (⟨((List.replicate n x.cps.toList).flatten).toArray⟩ : Str).length = n * x.length := by
  rw [str_len, str_len]
  simp
theorem rep_chr {x : Str} (n : Nat) (h : chrS x = true) : chrS ⟨((List.replicate n x.cps.toList).flatten).toArray⟩ = true := by
  unfold chrS at *
  refine List.all_eq_true.mpr fun c hc => ?_
  simp only [List.mem_flatten, List.mem_replicate] at hc
  obtain ⟨l, ⟨_, rfl⟩, hc⟩ := hc
  exact List.all_eq_true.mp h c hc
theorem run_signs (b : Bag) {w : Str} (hw : nameS w = true) : ∃ (u : Str) (b' : Bag), niceStr u = true ∧ u.length ≤ 17 ∧ ∀ k, runF f__law_signs [(bgD b, 1), (.str w, k)] = .ok (.str u, 0) [some (bgD b', 1), some (.str w, 0)] := by
  obtain ⟨l1, l2⟩ := name_len hw
  have lc := chrS_name hw
  have a0 : w.length ≤ 16777216 := by omega
  have a1 : (0 : Int) < w.length + 1 := by omega
  have a2 : (w.length : Int) + 1 < 1073741824 := by omega
  have t0 := tkM_lo b a1 a2
  have t1 := tkM_hi b a1 a2
  have es : (" !#$&'()*+,-./0123456789:;<=>?@ABCXYZ[]^_`abcxyz{|}~" : Str) ++ ("\n" : Str) = signsS := by kernel_rfl
  have el : ("\n" : Str).length = 1 := rfl
  have el2 : (" !#$&'()*+,-./0123456789:;<=>?@ABCXYZ[]^_`abcxyz{|}~" : Str).length = 52 := by decide
  have el3 : signsS.length = 53 := by decide
  generalize hb1 : tkB b (w.length + 1) = b1
  generalize hm : tkM b (w.length + 1) = m at t0 t1
  have pm := pickC_mem b1 (x := signsS) (by decide) (by decide)
  have pc : chrS ⟨#[pickC b1 signsS]⟩ = true := by
    have hk : chrS signsS = true := by decide +kernel
    have := List.all_eq_true.mp hk _ pm
    unfold chrS
    simpa using this
  have l9 : (⟨#[pickC b1 signsS]⟩ : Str).length = 1 := rfl
  have c1 := cutS_len w none (some m)
  have c2 := cutS_len w (some m) none
  have c3 := cutS_len w (some (m + 1)) none
  have m9 : w.length * 9 ≤ 16777216 := by omega
  have m8 : w.length * 8 ≤ 16777216 := by omega
  generalize hA : cutS w none (some m) = A at c1
  generalize hB : cutS w (some m) none = B at c2
  generalize hC : cutS w (some (m + 1)) none = C at c3
  have cA : chrS A = true := hA ▸ chrS_cut lc
  have cB : chrS B = true := hB ▸ chrS_cut lc
  have cC : chrS C = true := hC ▸ chrS_cut lc
  have q1 : A.length + (⟨#[pickC b1 signsS]⟩ : Str).length ≤ 16777216 := by omega
  have q2 : (A ++ (⟨#[pickC b1 signsS]⟩ : Str)).length + B.length ≤ 16777216 := by rw [strLen_app]; omega
  have q3 : (A ++ (⟨#[pickC b1 signsS]⟩ : Str)).length + C.length ≤ 16777216 := by rw [strLen_app]; omega
  have q4 := rep_len w 9
  have q5 := rep_len w 8
  have q6 : (⟨((List.replicate 9 w.cps.toList).flatten).toArray⟩ : Str).length ≤ 16777216 := by omega
  have q7 : (⟨((List.replicate 8 w.cps.toList).flatten).toArray⟩ : Str).length ≤ 16777216 := by omega
  have q8 := rep_chr 9 lc
  have q9 := rep_chr 8 lc
  have o9 : opD .mul [.str w, .int 9] = some (.str ⟨((List.replicate 9 w.cps.toList).flatten).toArray⟩, 0) := by
    rw [o_mulS, if_pos ⟨by show w.length * 9 ≤ 16777216; omega, by decide, by decide⟩]
    rfl
  have o8 : opD .mul [.str w, .int 8] = some (.str ⟨((List.replicate 8 w.cps.toList).flatten).toArray⟩, 0) := by
    rw [o_mulS, if_pos ⟨by show w.length * 8 ≤ 16777216; omega, by decide, by decide⟩]
    rfl
  generalize (⟨((List.replicate 9 w.cps.toList).flatten).toArray⟩ : Str) = R9 at *
  generalize (⟨((List.replicate 8 w.cps.toList).flatten).toArray⟩ : Str) = R8 at *
  have r9 : (cutS R9 none (some 9)).length ≤ 9 := by
    rw [str_len, cutS_list, show (9 : Int) = ((9 : Nat) : Int) from rfl, cut_pre, List.length_take]
    omega
  have r8 : (cutS R8 none (some 8)).length ≤ 8 := by
    rw [str_len, cutS_list, show (8 : Int) = ((8 : Nat) : Int) from rfl, cut_pre, List.length_take]
    omega
  let four : List D := [.str (A ++ (⟨#[pickC b1 signsS]⟩ : Str) ++ B), .str (A ++ (⟨#[pickC b1 signsS]⟩ : Str) ++ C), .str (cutS R9 none (some 9)), .str (cutS R8 none (some 8))]
  have hmem : ∀ d ∈ four, ∃ u, d = .str u ∧ niceStr u = true ∧ u.length ≤ 17 := by
    intro d hd
    simp only [four, List.mem_cons, List.not_mem_nil, or_false] at hd
    rcases hd with rfl | rfl | rfl | rfl
    · exact ⟨_, rfl, nice_of (by rw [strLen_app, strLen_app]; omega) (chrS_app (chrS_app cA pc) cB), by rw [strLen_app, strLen_app]; omega⟩
    · exact ⟨_, rfl, nice_of (by rw [strLen_app, strLen_app]; omega) (chrS_app (chrS_app cA pc) cC), by rw [strLen_app, strLen_app]; omega⟩
    · exact ⟨_, rfl, nice_of (by omega) (chrS_cut q8), by omega⟩
    · exact ⟨_, rfl, nice_of (by omega) (chrS_cut q9), by omega⟩
  obtain ⟨u, hu, hn, hul⟩ := hmem _ (pick_mem (tkB b1 53) (ds := four) (by simp [four]) (by simp [four]))
  have e4 := run_some (b := tkB b1 53) (ds := four) (k := 0) (by simp [four]) (by simp [four])
  rw [hu] at e4
  refine ⟨u, tkB (tkB b1 53) 4, hn, hul, fun k => ?_⟩
  simp [f__law_signs, a0, a1, a2, el, el2, el3, es, hb1, hm, m9, m8, hA, hB, hC, q1, q2, q3, q6, q7, o9, o8]
  exact hu
end DL
set_option maxHeartbeats 0
namespace DL
open PySem PySem.Spec PyProof.Rows L2
/-! ### small data -/
def smD (d : D) : Bool := niceD d && decide (hgt d ≤ 20) && decide (wtD d ≤ 400000)
theorem smD_mk {d : D} (h1 : niceD d = true) (h2 : hgt d ≤ 20) (h3 : wtD d ≤ 400000) : smD d = true := by
  unfold smD
  rw [h1, decide_eq_true h2, decide_eq_true h3]
  rfl
theorem okD_mk {d : D} (h1 : niceD d = true) (h2 : hgt d ≤ 60) (h3 : wtD d ≤ 16777216) : okD d = true := by
  unfold okD
  rw [h1, decide_eq_true h2, decide_eq_true h3]
  rfl
theorem smD_nice {d : D} (h : smD d = true) : niceD d = true := (and2 (and2 h).1).1
theorem smD_hgt {d : D} (h : smD d = true) : hgt d ≤ 20 := of_decide_eq_true (and2 (and2 h).1).2
theorem smD_wt {d : D} (h : smD d = true) : wtD d ≤ 400000 := of_decide_eq_true (and2 h).2
theorem sm_ok {d : D} (h : smD d = true) : okD d = true := okD_mk (smD_nice h) (by have := smD_hgt h; omega) (by have := smD_wt h; omega)
theorem sm_list : ∀ {xs : List D}, (∀ x ∈ xs, smD x = true) → niceL xs = true ∧ hgtL xs ≤ 20 ∧ wtL xs ≤ xs.length * 400002
  | [], _ => ⟨rfl, Nat.zero_le _, Nat.zero_le _⟩
  | x :: xs, h => by
    obtain ⟨h1, h2, h3⟩ := sm_list fun y hy => h y (List.mem_cons_of_mem _ hy)
    have hx := h x List.mem_cons_self
    have a := smD_hgt hx
    have b := smD_wt hx
    simp only [niceL, hgtL, wtL, smD_nice hx, h1, List.length_cons]
    refine ⟨rfl, by omega, by omega⟩
theorem okD_tup {xs : List D} (h : ∀ x ∈ xs, smD x = true) (hl : xs.length ≤ 30) : okD (.tup xs) = true := by
  obtain ⟨h1, h2, h3⟩ := sm_list h
  exact okD_mk (by simp only [niceD]; exact h1) (by simp only [hgt]; omega) (by simp only [wtD]; omega)
theorem okD_lst {xs : List D} (h : ∀ x ∈ xs, smD x = true) (hl : xs.length ≤ 30) : okD (.lst xs) = true := by
  obtain ⟨h1, h2, h3⟩ := sm_list h
  exact okD_mk (by simp only [niceD]; exact h1) (by simp only [hgt]; omega) (by simp only [wtD]; omega)
theorem sm_str {x : Str} (h : niceStr x = true) : smD (.str x) = true := by
  have h1 := of_decide_eq_true (and2 h).1
  exact smD_mk (by simpa only [niceD] using h) (by simp only [hgt]; omega) (by simp only [wtD]; omega)
theorem sm_name {x : Str} (h : nameS x = true) : smD (.str x) = true := sm_str (name_nice h)
theorem oddL_sm : oddL.all smD = true := by kernel_rfl
theorem sm_odd (b : Bag) : smD (pick b oddL) = true := List.all_eq_true.mp oddL_sm _ (pick_mem b (by decide) (by decide))
/-- a list of names -/
def Names (ws : List Str) : Prop := ∀ w ∈ ws, nameS w = true
theorem run_bent (b : Bag) {ws ns : List Str} (hw : Names ws) (hn : Names ns) (l1 : 0 < ws.length) (l2 : ws.length ≤ 10) (m1 : 0 < ns.length) (m2 : ns.length ≤ 10) : ∃ (d : D) (k' : Nat) (b' : Bag), okD d = true ∧
    ∀ k j, ∃ x y, runF f__law_bent [(bgD b, 1), (.tup (ws.map .str), k), (.lst (ns.map .str), j)] = .ok (d, k') [some (bgD b', 1), x, y] := by
  have a1 : (0 : Int) < ws.length := by omega
  have a2 : (ws.length : Int) < 1073741824 := by omega
  have t0 := tkM_lo b a1 a2
  have t1 := tkM_hi b a1 a2
  have u0 := tkM_lo (tkB b ws.length) (n := 7) (by omega) (by omega)
  have u1 := tkM_hi (tkB b ws.length) (n := 7) (by omega) (by omega)
  obtain ⟨d0, hd0, e0⟩ := atI_in (xs := ws.map D.str) t0 (by rw [List.length_map]; exact t1)
  obtain ⟨w0, hw0, rfl⟩ := List.mem_map.mp hd0
  have hw0n := hw w0 hw0
  generalize hm : tkM b ws.length = m at t0 t1 e0
  generalize hb1 : tkB (tkB b ws.length) 7 = b1
  generalize hz : tkM (tkB b ws.length) 7 = z at u0 u1
  have hX : ∀ x ∈ ws.map D.str, smD x = true := fun x hx => by
    obtain ⟨w, hw', rfl⟩ := List.mem_map.mp hx
    exact sm_name (hw w hw')
  generalize hXe : ws.map D.str = X at *
  have hXl : X.length = ws.length := by rw [← hXe, List.length_map]
  have c1 := cut_len X none (some m)
  have c2 := cut_len X (some m) none
  have c3 := cut_len X (some (m + 1)) none
  have M1 : ∀ x ∈ cutG X none (some m), smD x = true := fun x hx => hX x (cut_mem hx)
  have M2 : ∀ x ∈ cutG X (some m) none, smD x = true := fun x hx => hX x (cut_mem hx)
  have M3 : ∀ x ∈ cutG X (some (m + 1)) none, smD x = true := fun x hx => hX x (cut_mem hx)
  generalize hA : cutG X none (some m) = A at *
  generalize hB : cutG X (some m) none = B at *
  generalize hC : cutG X (some (m + 1)) none = C at *
  have q1 : A.length + C.length ≤ 16777216 := by omega
  have q2 : A.length + 1 ≤ 16777216 := by omega
  have q3 : A.length + (B.length + 1) ≤ 16777216 := by omega
  have q3' : A.length + 1 + B.length ≤ 16777216 := by omega
  have q4 : A.length + 1 + C.length ≤ 16777216 := by omega
  have qx : X.length ≤ 16777216 := by omega
  have hall : z = 0 ∨ z = 1 ∨ z = 2 ∨ z = 3 ∨ z = 4 ∨ z = 5 ∨ z = 6 := by omega
  have fin : ∀ x, smD x = true → okD (.tup (A ++ x :: C)) = true := fun x hx => okD_tup (by
    intro y hy
    rcases List.mem_append.mp hy with hy | hy
    · exact M1 y hy
    · rcases List.mem_cons.mp hy with rfl | hy
      · exact hx
      · exact M3 y hy) (by simp only [List.length_append, List.length_cons]; omega)
  obtain ⟨u, b2, hu1, hu2, eu⟩ := run_signs (tkB b1 36) hw0n
  have en := run_some (b := b2) (ds := ns.map D.str) (k := 0) (by rw [List.length_map]; exact m1) (by rw [List.length_map]; omega)
  have hpn : smD (pick b2 (ns.map D.str)) = true := by
    obtain ⟨w, hw', e⟩ := List.mem_map.mp (pick_mem b2 (ds := ns.map D.str) (by rw [List.length_map]; exact m1) (by rw [List.length_map]; omega))
    rw [← e]
    exact sm_name (hn w hw')
  have ho := sm_odd b1
  generalize pick b2 (ns.map D.str) = pn at *
  generalize hpo : pick b1 oddL = po at *
  rcases hall with rfl | rfl | rfl | rfl | rfl | rfl | rfl
  · refine ⟨.tup (A ++ C), 0, b1, okD_tup ?_ (by simp only [List.length_append]; omega), fun k j => ?_⟩
    · intro y hy
      rcases List.mem_append.mp hy with hy | hy
      · exact M1 y hy
      · exact M3 y hy
    · refine ⟨some (.tup X, 0), some (.lst (ns.map .str), j), ?_⟩
      simp [f__law_bent, a1, a2, l1, hXl, hm, hb1, hz, hA, hB, hC, q1]
  · refine ⟨.tup (A ++ .str w0 :: B), 0, b1, okD_tup ?_ (by simp only [List.length_append, List.length_cons]; omega), fun k j => ?_⟩
    · intro y hy
      rcases List.mem_append.mp hy with hy | hy
      · exact M1 y hy
      · rcases List.mem_cons.mp hy with rfl | hy
        · exact sm_name hw0n
        · exact M2 y hy
    · refine ⟨some (.tup X, 0), some (.lst (ns.map .str), j), ?_⟩
      simp [f__law_bent, a1, a2, l1, hXl, hm, hb1, hz, hA, hB, hC, q2, q3', e0]
  · refine ⟨.lst X, 1, b1, okD_lst hX (by omega), fun k j => ?_⟩
    refine ⟨some (.tup X, 0), some (.lst (ns.map .str), j), ?_⟩
    simp [f__law_bent, a1, a2, l1, hXl, hm, hb1, hz]
  · refine ⟨.tup (A ++ po :: C), 0, tkB b2 ns.length, fin po ho, fun k j => ?_⟩
    refine ⟨some (.tup X, 0), some (.lst (ns.map .str), 0), ?_⟩
    simp [f__law_bent, a1, a2, l1, hXl, hm, hb1, hz, hA, hB, hC, run_odd, eu, en, e0, q2, q4, hpo]
  · refine ⟨.tup (A ++ .str u :: C), 0, tkB b2 ns.length, fin (.str u) (sm_str hu1), fun k j => ?_⟩
    refine ⟨some (.tup X, 0), some (.lst (ns.map .str), 0), ?_⟩
    simp [f__law_bent, a1, a2, l1, hXl, hm, hb1, hz, hA, hB, hC, run_odd, eu, en, e0, q2, q4, hpo]
  · refine ⟨.tup (A ++ pn :: C), 0, tkB b2 ns.length, fin pn hpn, fun k j => ?_⟩
    refine ⟨some (.tup X, 0), some (.lst (ns.map .str), 0), ?_⟩
    simp [f__law_bent, a1, a2, l1, hXl, hm, hb1, hz, hA, hB, hC, run_odd, eu, en, e0, q2, q4, hpo]
  · refine ⟨.tup (A ++ .str w0 :: C), 0, tkB b2 ns.length, fin (.str w0) (sm_name hw0n), fun k j => ?_⟩
    refine ⟨some (.tup X, 0), some (.lst (ns.map .str), 0), ?_⟩
    simp [f__law_bent, a1, a2, l1, hXl, hm, hb1, hz, hA, hB, hC, run_odd, eu, en, e0, q2, q4, hpo]
theorem run_bag {ns : List Int} (h : ns.length ≤ 63) : ∃ b : Bag, ∀ k, runF f__law_bag [(.scr ns, k)] = .ok (bgD b, 1) [some (.scr ns, 0)] := by
  have hc := cut_len ns none (some 63)
  obtain ⟨Γ', ⟨y, rfl⟩, e⟩ := compS_pure (own := [1]) (tg := .name 1) (ifs := []) (elt := .op .abs [.var 1 false]) (fun Γ => ∃ y, Γ = [some (.scr ns, 0), y]) (fun d => match d with
    | .int i => some (.int (if i < 0 then -i else i))
    | _ => none) ((cutG ns none (some 63)).map .int) [] [some (.scr ns, 0), none] (by
      rintro d hd Γ ⟨y, rfl⟩
      obtain ⟨i, _, rfl⟩ := List.mem_map.mp hd
      exact ⟨_, ⟨_, rfl⟩, by intros; simp; rfl⟩) ⟨none, rfl⟩
  have e3 : (List.filterMap (fun d => match d with
    | D.int i => some (D.int (if i < 0 then -i else i))
    | _ => none) ((cutG ns none (some 63)).map .int)) = ((cutG ns none (some 63)).map fun i => if i < 0 then -i else i).map D.int := by
    generalize cutG ns none (some 63) = l
    induction l with
    | nil => rfl
    | cons i l ih => simp only [List.map_cons, List.filterMap_cons, ih]
  rw [e3, List.nil_append] at e
  refine ⟨⟨0, 1234567891, 0, (cutG ns none (some 63)).map fun i => if i < 0 then -i else i, by rw [List.length_map]; omega⟩, fun k => ?_⟩
  have hc2 : (cutG ns none (some 63)).length ≤ 16777216 := by omega
  simp [f__law_bag, hc2, e, bgD]
end DL
set_option maxHeartbeats 0
namespace DL
open PySem PySem.Spec PyProof.Rows L2
/-! ### comprehensions over one name -/
theorem wipeA_set : ∀ (Γ : Gm) (i j : Nat) (y : Option DK), j ≤ i → wipeA [i] j (Γ.set (i - j) y) = Γ.set (i - j) none
  | [], i, j, y, h => by simp
  | x :: Γ, i, j, y, h => by
    rcases Nat.lt_or_ge j i with h' | h'
    · have e : i - j = (i - (j + 1)) + 1 := by omega
      have h2 : [i].contains j = false := by simp; omega
      rw [e, List.set_cons_succ, List.set_cons_succ]
      simp only [wipeA, h2]
      rw [wipeA_set Γ i (j + 1) y (by omega)]
      rfl
    · have e : i = j := by omega
      subst e
      have h2 : [i].contains i = true := by simp
      rw [Nat.sub_self, List.set_cons_zero, List.set_cons_zero]
      simp only [wipeA, h2]
      congr 1
      have key : ∀ (Γ : Gm) (j : Nat), i < j → wipeA [i] j Γ = Γ := by
        intro Γ
        induction Γ with
        | nil => intro j _; rfl
        | cons x Γ ih =>
          intro j hj
          have h3 : [i].contains j = false := by simp; omega
          simp only [wipeA, h3]
          rw [ih (j + 1) (by omega)]
          rfl
      exact key Γ (i + 1) (by omega)
theorem wipe_set (Γ : Gm) (i : Nat) (y : Option DK) : wipeG (Γ.set i y) [i] = Γ.set i none := wipeA_set Γ i 0 y (Nat.zero_le _)
theorem comp_map {i : Nat} {elt : IE} {ds : List D} (Γ : Gm) (g : D → D) (h : ∀ d ∈ ds, ∃ k y, evX elt false (Γ.set i (some (d, 0))) = .ok (g d, k) (Γ.set i y)) :
    ∀ x acc, ∃ y', compS [i] (.name i) [] elt ds (Γ.set i x) acc = .ok (.lst (acc ++ ds.map g), 1) (Γ.set i y') := by
  intro x acc
  obtain ⟨Γ', ⟨y', rfl⟩, e⟩ := compS_pure (own := [i]) (tg := .name i) (ifs := []) (elt := elt) (fun Γ' => ∃ y, Γ' = Γ.set i y) (fun d => some (g d)) ds acc (Γ.set i x) (by
    rintro d hd Γ' ⟨y, rfl⟩
    obtain ⟨k, y2, e⟩ := h d hd
    refine ⟨Γ.set i y2, ⟨y2, rfl⟩, fun ds' acc' => ?_⟩
    rw [wipe_set]
    simp only [sT_name, List.set_set, cm2_some, evIfsX_nil, cm3_ok, cm4_true, e, cm5_ok, Option.toList]) ⟨x, rfl⟩
  exact ⟨y', by rw [e]; simp⟩
theorem comp_filter {i : Nat} {elt t : IE} {ds : List D} (Γ : Gm) (p : D → Bool) (g : D → D) (ht : ∀ d ∈ ds, ∃ k y, evX t true (Γ.set i (some (d, 0))) = .ok (.bl (p d), k) (Γ.set i y) ∧ (p d = true → ∃ k y', evX elt false (Γ.set i y) = .ok (g d, k) (Γ.set i y'))) :
    ∀ x acc, ∃ y', compS [i] (.name i) [t] elt ds (Γ.set i x) acc = .ok (.lst (acc ++ (ds.filter p).map g), 1) (Γ.set i y') := by
  intro x acc
  obtain ⟨Γ', ⟨y', rfl⟩, e⟩ := compS_pure (own := [i]) (tg := .name i) (ifs := [t]) (elt := elt) (fun Γ' => ∃ y, Γ' = Γ.set i y) (fun d => if p d = true then some (g d) else none) ds acc (Γ.set i x) (by
    rintro d hd Γ' ⟨y, rfl⟩
    obtain ⟨k, y2, e, h2⟩ := ht d hd
    cases hp : p d with
    | true =>
      obtain ⟨k3, y3, e3⟩ := h2 hp
      refine ⟨Γ.set i y3, ⟨y3, rfl⟩, fun ds' acc' => ?_⟩
      rw [wipe_set]
      simp only [sT_name, List.set_set, cm2_some, evIfsX_cons, e, ifsK_ok, ifs1_v, hp, ifs2_true, evIfsX_nil, cm3_ok, cm4_true, e3, cm5_ok, if_true, Option.toList]
    | false =>
      refine ⟨Γ.set i y2, ⟨y2, rfl⟩, fun ds' acc' => ?_⟩
      rw [wipe_set]
      simp [e, hp]) ⟨x, rfl⟩
  refine ⟨y', ?_⟩
  rw [e]
  congr 4
  clear e ht
  induction ds with
  | nil => rfl
  | cons d ds ih =>
    rw [List.filterMap_cons, List.filter_cons, ih]
    cases p d <;> simp
@[simp] theorem o_allB {xs : List D} : opD .all [.lst xs] = (boolsD xs).map fun bs => (.bl (bs.all id), 0) := rfl
@[simp] theorem o_anyB {xs : List D} : opD .any [.lst xs] = (boolsD xs).map fun bs => (.bl (bs.any id), 0) := rfl
@[simp] theorem bD_nil : boolsD [] = some [] := rfl
@[simp] theorem bD_cons {b : Bool} {xs : List D} : boolsD (.bl b :: xs) = (boolsD xs).map (b :: ·) := rfl
@[simp] theorem bD_map {α : Type} {p : α → Bool} {l : List α} : boolsD (l.map fun c => .bl (p c)) = some (l.map p) := boolsD_map p l
@[simp] theorem o_idxK {kvs : List (Key × D)} {x : Str} : opD .idx [.dK kvs, .str x] = (lookG kvs (.inr x)).map fun d => (d, 0) := rfl
/-! ### texts beside data -/
def isS (y : Str) : D → Bool
  | .str w => decide (w = y)
  | _ => false
theorem eqD_sl {y : Str} {d : D} (h : niceD d = true) : eqD (.str y) d = some (isS y d) := by
  cases d with
  | str w =>
    simp only [eqD, isS]
    congr 1
    by_cases e : w = y
    · subst e; simp
    · rw [decide_eq_false e]; exact beq_eq_false_iff_ne.mpr (Ne.symm e)
  | obj _ _ => simp only [niceD] at h; cases h
  | scr _ => simp only [niceD] at h; cases h
  | _ => simp only [eqD, isS]
theorem eqD_sr {y : Str} {d : D} (h : niceD d = true) : eqD d (.str y) = some (isS y d) := by
  cases d with
  | str w =>
    simp only [eqD, isS]
    congr 1
  | obj _ _ => simp only [niceD] at h; cases h
  | scr _ => simp only [niceD] at h; cases h
  | _ => simp only [eqD, isS]
theorem o_eqs {y : Str} {d : D} (h : niceD d = true) (hh : hgt d ≤ 60) : opD .eq [d, .str y] = some (.bl (isS y d), 0) := by
  rw [o_eq (by omega), eqD_sr h]; rfl
theorem o_nes {y : Str} {d : D} (h : niceD d = true) (hh : hgt d ≤ 60) : opD .ne [d, .str y] = some (.bl (!isS y d), 0) := by
  rw [o_ne (by omega), eqD_sr h]; rfl
theorem anyD_strs {d : D} (h : niceD d = true) : ∀ ys : List Str, anyD d (ys.map .str) = some (ys.any fun y => isS y d)
  | [] => by simp [anyD]
  | y :: ys => by simp only [List.map_cons, anyD, eqD_sl h, anyD_strs h ys, List.any_cons]
theorem o_inns {d : D} (h : niceD d = true) (ys : List Str) : opD .inn [d, .tup (ys.map .str)] = some (.bl (ys.any fun y => isS y d), 0) := by
  show opInn [d, D.tup (ys.map D.str)] = _
  simp only [opInn]
  rw [if_pos (by rw [hgtL_strs]; omega), anyD_strs h]
  rfl
theorem o_notinns {d : D} (h : niceD d = true) (ys : List Str) : opD .notin [d, .tup (ys.map .str)] = some (.bl (!(ys.any fun y => isS y d)), 0) := by
  show opNotin [d, D.tup (ys.map D.str)] = _
  simp only [opNotin]
  rw [if_pos (by rw [hgtL_strs]; omega), anyD_strs h]
  rfl
theorem cut_1 {α : Type} {x : α} {l : List α} : cutG (x :: l) (some 1) none = l := by
  unfold cutG
  have e1 : HT.sIx (x :: l).length 0 (some 1) = 1 := by
    have := HT.sIx_nat (x :: l).length 0 1
    rw [show ((1 : Nat) : Int) = 1 from rfl] at this
    rw [this, List.length_cons]
    omega
  have e2 : HT.sIx (x :: l).length (x :: l).length none = (x :: l).length := rfl
  rw [e1, e2]
  simp
/-! ### what is a deed -/
/-- by its form -/
def isDeed : D → Bool
  | .tup (w :: xs) =>
    if isS "take" w || isS "give" w then decide (xs.length = 4) && xs.all isNm
    else if isS "make" w then (match xs with
      | [a, b, c, .tup rs] => isNm a && (isNm b && ((isS "person" c || isS "thing" c) && rs.all isNm))
      | _ => false)
    else if isS "drop" w then decide (xs.length = 3) && xs.all isNm
    else (isS "read" w || isS "write" w) && (decide (xs.length = 2) && xs.all isNm)
  | _ => false
end DL
set_option maxHeartbeats 0
namespace DL
open PySem PySem.Spec PyProof.Rows L2
theorem niceL_cons {x : D} {xs : List D} (h : niceL (x :: xs) = true) : niceD x = true ∧ niceL xs = true := by
  simp only [niceL] at h
  exact and2 h
theorem hgtL_cons {x : D} {xs : List D} {n : Nat} (h : hgtL (x :: xs) ≤ n) : hgt x ≤ n ∧ hgtL xs ≤ n := by
  simp only [hgtL] at h
  omega
theorem names_comp {d : D} {xs : List D} (hn : niceL xs = true) (hl : xs.length ≤ 1000) : ∃ y', compS [1] (.name 1) [] (.call f_is_name [.var 1 false]) xs [some (d, 0), none] [] = .ok (.lst (xs.map fun x => .bl (isNm x)), 1) [some (d, 0), y'] := by
  obtain ⟨y, e⟩ := comp_names (x0 := some (d, 0)) (acc := []) (y := none) hn
  exact ⟨y, by rw [e]; simp⟩
theorem wtL_len : ∀ xs : List D, 2 * xs.length ≤ wtL xs
  | [] => Nat.zero_le _
  | x :: xs => by
    have := wtL_len xs
    simp only [wtL, List.length_cons]
    omega
/-- a make's parts -/
def makeQ (a b c : D) : D → Bool
  | .tup rs => isNm a && (isNm b && ((isS "person" c || isS "thing" c) && rs.all isNm))
  | _ => false
theorem run_has_make_form {w a b c e : D} {k : Nat} (h : niceL [w, a, b, c, e] = true) (hw : wtL [w, a, b, c, e] ≤ 16777216) : runF f_has_make_form [(.tup [w, a, b, c, e], k)] = .ok (.bl (makeQ a b c e), 0) [some (.tup [w, a, b, c, e], 0)] := by
  obtain ⟨n0, h⟩ := niceL_cons h
  obtain ⟨n1, h⟩ := niceL_cons h
  obtain ⟨n2, h⟩ := niceL_cons h
  obtain ⟨n3, h⟩ := niceL_cons h
  obtain ⟨n4, h⟩ := niceL_cons h
  have ek := o_notinns n3 ["person", "thing"]
  simp only [List.map_cons, List.map_nil, List.any_cons, List.any_nil, Bool.or_false] at ek
  cases ha : isNm a with
  | false => cases e <;> simp [f_has_make_form, makeQ, run_is_name n1, ha]
  | true =>
    cases hb : isNm b with
    | false => cases e <;> simp [f_has_make_form, makeQ, run_is_name n1, run_is_name n2, ha, hb]
    | true =>
      cases hc : (isS "person" c || isS "thing" c) with
      | false => rw [hc] at ek; cases e <;> simp [f_has_make_form, makeQ, run_is_name n1, run_is_name n2, ha, hb, hc, ek]
      | true =>
        rw [hc] at ek
        cases e with
        | tup rs =>
          have h4 : niceL rs = true := by simpa only [niceD] using n4
          obtain ⟨y, e⟩ := comp_names (x0 := some (.tup [w, a, b, c, .tup rs], 0)) (acc := []) (y := none) h4
          rw [List.nil_append] at e
          have hl : rs.length ≤ 16777216 := by
            have := wtL_len rs
            simp only [wtL, wtD] at hw
            omega
          simp [f_has_make_form, makeQ, run_is_name n1, run_is_name n2, ha, hb, hc, ek, e, hl]
        | obj _ _ => simp only [niceD] at n4; cases n4
        | dT _ => simp only [niceD] at n4; cases n4
        | scr _ => simp only [niceD] at n4; cases n4
        | _ => simp [f_has_make_form, makeQ, run_is_name n1, run_is_name n2, ha, hb, hc, ek]
theorem run_is_deed {d : D} {k : Nat} (h : okD d = true) : runF f_is_deed [(d, k)] = .ok (.bl (isDeed d), 0) [some (d, 0)] := by
  have hn := okD_nice h
  have hh := okD_hgt h
  have hw := okD_wt h
  cases d with
  | tup xs =>
    have h' : niceL xs = true := by simpa only [niceD] using hn
    simp only [hgt] at hh
    simp only [wtD] at hw
    match xs, h', hh, hw with
    | [], _, _, _ => simp [f_is_deed, isDeed]
    | [w], _, _, _ => simp [f_is_deed, isDeed]
    | [w, a], _, _, _ => simp [f_is_deed, isDeed]
    | w :: a :: b :: r, h', hh, hw =>
      obtain ⟨n0, n1⟩ := niceL_cons h'
      obtain ⟨g0, g1⟩ := hgtL_cons (n := 59) (show hgtL (w :: a :: b :: r) ≤ 59 by omega)
      have e1 := o_inns n0 ["take", "give"]
      have e2 := o_eqs (y := "make") n0 (by omega)
      have e3 := o_eqs (y := "drop") n0 (by omega)
      have e4 := o_inns n0 ["read", "write"]
      simp only [List.map_cons, List.map_nil, List.any_cons, List.any_nil, Bool.or_false] at e1 e4
      obtain ⟨y, ec⟩ := comp_names (x0 := some (.tup (w :: a :: b :: r), 0)) (acc := []) (y := none) n1
      rw [List.nil_append] at ec
      have hlt : ¬ ((r.length : Int) + 1 + 1 + 1 < 3) := by omega
      cases t1 : (isS "take" w || isS "give" w) with
      | true =>
        rw [t1] at e1
        by_cases hl : r.length = 2
        · simp [f_is_deed, isDeed, hlt, e1, hl, cut_1, ec, t1]
        · have hl' : ((r.length : Int) + 1 + 1 + 1 == 5) = false := beq_eq_false_iff_ne.mpr (by omega)
          simp [f_is_deed, isDeed, hlt, e1, hl, hl', t1]
      | false =>
        rw [t1] at e1
        cases t2 : isS "make" w with
        | true =>
          rw [t2] at e2
          by_cases hl : r.length = 2
          · obtain ⟨c, e, rfl⟩ : ∃ c e, r = [c, e] := by
              match r, hl with
              | [c, e], _ => exact ⟨c, e, rfl⟩
            have em := fun k => run_has_make_form (k := k) h' (by omega)
            simp [f_is_deed, isDeed, hlt, e1, e2, em, t1, t2]
            cases e <;> simp [makeQ]
          · have hl' : ((r.length : Int) + 1 + 1 + 1 == 5) = false := beq_eq_false_iff_ne.mpr (by omega)
            simp [f_is_deed, isDeed, hlt, e1, e2, hl, hl', t1, t2]
            split
            · rename_i he
              cases he
              exact absurd rfl hl
            · rfl
        | false =>
          rw [t2] at e2
          cases t3 : isS "drop" w with
          | true =>
            rw [t3] at e3
            by_cases hl : r.length = 1
            · simp [f_is_deed, isDeed, hlt, e1, e2, e3, hl, cut_1, ec, t1, t2, t3]
            · have hl' : ((r.length : Int) + 1 + 1 + 1 == 4) = false := beq_eq_false_iff_ne.mpr (by omega)
              simp [f_is_deed, isDeed, hlt, e1, e2, e3, hl, hl', t1, t2, t3]
          | false =>
            rw [t3] at e3
            cases t4 : (isS "read" w || isS "write" w) with
            | true =>
              rw [t4] at e4
              by_cases hl : r.length = 0
              · simp [f_is_deed, isDeed, hlt, e1, e2, e3, e4, hl, cut_1, ec, t1, t2, t3, t4]
              · have hl' : ((r.length : Int) + 1 + 1 + 1 == 3) = false := beq_eq_false_iff_ne.mpr (by omega)
                simp [f_is_deed, isDeed, hlt, e1, e2, e3, e4, hl, hl', t1, t2, t3, t4]
            | false =>
              rw [t4] at e4
              simp [f_is_deed, isDeed, hlt, e1, e2, e3, e4, t1, t2, t3, t4]
  | obj _ _ => simp only [niceD] at hn; cases hn
  | dT _ => simp only [niceD] at hn; cases hn
  | scr _ => simp only [niceD] at hn; cases hn
  | _ => simp [f_is_deed, isDeed]
def kv5 : List (Key × D) := [(.inr ("take" : Str), .int 5), (.inr ("give" : Str), .int 5), (.inr ("drop" : Str), .int 4), (.inr ("read" : Str), .int 3), (.inr ("write" : Str), .int 3)]
theorem run_law_is_deed {d : D} {k : Nat} (h : okD d = true) : runF f__law_is_deed [(d, k)] = .ok (.bl (isDeed d), 0) [some (d, 0)] := by
  have hn := okD_nice h
  have hh := okD_hgt h
  have hw := okD_wt h
  cases d with
  | tup xs =>
    have h' : niceL xs = true := by simpa only [niceD] using hn
    simp only [hgt] at hh
    simp only [wtD] at hw
    match xs, h', hh, hw with
    | [], _, _, _ => simp [f__law_is_deed, isDeed]
    | [w], _, _, _ => simp [f__law_is_deed, isDeed]
    | [w, a], _, _, _ => simp [f__law_is_deed, isDeed]
    | w :: a :: b :: r, h', hh, hw =>
      obtain ⟨n0, n1⟩ := niceL_cons h'
      obtain ⟨g0, g1⟩ := hgtL_cons (n := 59) (show hgtL (w :: a :: b :: r) ≤ 59 by omega)
      have hlt : ¬ ((r.length : Int) + 1 + 1 + 1 < 3) := by omega
      have cf : ∀ (xs : List D), niceL xs = true → hgtL xs ≤ 59 → ∀ (x1 : Option DK), ∃ y', compS [2] (.name 2) [.not (.call f__law_is_name [.var 2 false])] (.var 2 false) xs [some (.tup (w :: a :: b :: r), 0), x1, none] [] = .ok (.lst (xs.filter fun x => !isNm x), 1) [some (.tup (w :: a :: b :: r), 0), x1, y'] ∧ opD .eq [.lst (xs.filter fun x => !isNm x), .lst []] = some (.bl (xs.all isNm), 0) ∧ opD .ne [.lst (xs.filter fun x => !isNm x), .lst []] = some (.bl (!xs.all isNm), 0) := by
        intro xs hx hg x1
        obtain ⟨y', e⟩ := comp_filter (i := 2) (t := .not (.call f__law_is_name [.var 2 false])) (elt := .var 2 false) (ds := xs) [some (.tup (w :: a :: b :: r), 0), x1, none] (fun x => !isNm x) id (fun d hd => ⟨0, some (d, 0), by simp [run_law_is_name (niceL_mem hx d hd)], fun _ => ⟨0, some (d, 0), by simp⟩⟩) none []
        have hgf := hgtL_filter (fun x => !isNm x) xs
        have q1 := o_eqE (xs := xs.filter fun x => !isNm x) (by omega)
        have q2 := o_neE (xs := xs.filter fun x => !isNm x) (by omega)
        rw [all_filter_empty] at q1 q2
        exact ⟨y', by simpa using e, q1, q2⟩
      obtain ⟨y, ec, eq1, _⟩ := cf (a :: b :: r) n1 g1 (some (.int 5, 0))
      obtain ⟨y2, ec2, _, _⟩ := cf (a :: b :: r) n1 g1 (some (.int 4, 0))
      obtain ⟨y3, ec3, _, _⟩ := cf (a :: b :: r) n1 g1 (some (.int 3, 0))
      cases w with
      | str ws =>
        have e1 := o_inns n0 ["take", "give", "drop", "read", "write"]
        simp only [List.map_cons, List.map_nil, List.any_cons, List.any_nil, Bool.or_false] at e1
        have e2 := o_nes (y := "make") n0 (by omega)
        have e3 : opD .dict [.str "take", .int 5, .str "give", .int 5, .str "drop", .int 4, .str "read", .int 3, .str "write", .int 3] = some (.dK kv5, 1) := by kernel_rfl
        have k1 : lookG kv5 (.inr ("take" : Str)) = some (.int 5) := by kernel_rfl
        have k2 : lookG kv5 (.inr ("give" : Str)) = some (.int 5) := by kernel_rfl
        have k3 : lookG kv5 (.inr ("drop" : Str)) = some (.int 4) := by kernel_rfl
        have k4 : lookG kv5 (.inr ("read" : Str)) = some (.int 3) := by kernel_rfl
        have k5 : lookG kv5 (.inr ("write" : Str)) = some (.int 3) := by kernel_rfl
        have b5 : ((r.length : Int) + 1 + 1 + 1 == 5) = decide (r.length = 2) := by
          by_cases q : r.length = 2
          · simp [q]
          · rw [decide_eq_false q]; exact beq_eq_false_iff_ne.mpr (by omega)
        have b4 : ((r.length : Int) + 1 + 1 + 1 == 4) = decide (r.length = 1) := by
          by_cases q : r.length = 1
          · simp [q]
          · rw [decide_eq_false q]; exact beq_eq_false_iff_ne.mpr (by omega)
        have b3 : ((r.length : Int) + 1 + 1 + 1 == 3) = decide (r.length = 0) := by
          by_cases q : r.length = 0
          · simp [q]
          · rw [decide_eq_false q]; exact beq_eq_false_iff_ne.mpr (by omega)
        have kn : ∀ u v : Str, (u == v) = false → u ≠ v := fun u v h e => by rw [e] at h; simp at h
        by_cases w0 : ws = "take"
        · subst w0
          have i_take : isS "take" (.str "take") = true := by kernel_rfl
          have i_give : isS "give" (.str "take") = false := by kernel_rfl
          have i_make : isS "make" (.str "take") = false := by kernel_rfl
          have i_drop : isS "drop" (.str "take") = false := by kernel_rfl
          have i_read : isS "read" (.str "take") = false := by kernel_rfl
          have i_write : isS "write" (.str "take") = false := by kernel_rfl
          simp [i_take, i_give, i_drop, i_read, i_write] at e1
          by_cases hl : r.length = 2
          · simp [f__law_is_deed, isDeed, hlt, cut_1, e1, e3, k1, b5, hl, ec, eq1, i_take, i_give, i_make, i_drop, i_read, i_write]
          · simp [f__law_is_deed, isDeed, hlt, cut_1, e1, e3, k1, b5, hl, i_take, i_give, i_make, i_drop, i_read, i_write]
        by_cases w1 : ws = "give"
        · subst w1
          have i_take : isS "take" (.str "give") = false := by kernel_rfl
          have i_give : isS "give" (.str "give") = true := by kernel_rfl
          have i_make : isS "make" (.str "give") = false := by kernel_rfl
          have i_drop : isS "drop" (.str "give") = false := by kernel_rfl
          have i_read : isS "read" (.str "give") = false := by kernel_rfl
          have i_write : isS "write" (.str "give") = false := by kernel_rfl
          simp [i_take, i_give, i_drop, i_read, i_write] at e1
          by_cases hl : r.length = 2
          · simp [f__law_is_deed, isDeed, hlt, cut_1, e1, e3, k2, b5, hl, ec, eq1, i_take, i_give, i_make, i_drop, i_read, i_write]
          · simp [f__law_is_deed, isDeed, hlt, cut_1, e1, e3, k2, b5, hl, i_take, i_give, i_make, i_drop, i_read, i_write]
        by_cases w2 : ws = "drop"
        · subst w2
          have i_take : isS "take" (.str "drop") = false := by kernel_rfl
          have i_give : isS "give" (.str "drop") = false := by kernel_rfl
          have i_make : isS "make" (.str "drop") = false := by kernel_rfl
          have i_drop : isS "drop" (.str "drop") = true := by kernel_rfl
          have i_read : isS "read" (.str "drop") = false := by kernel_rfl
          have i_write : isS "write" (.str "drop") = false := by kernel_rfl
          simp [i_take, i_give, i_drop, i_read, i_write] at e1
          by_cases hl : r.length = 1
          · simp [f__law_is_deed, isDeed, hlt, cut_1, e1, e3, k3, b4, hl, ec2, eq1, i_take, i_give, i_make, i_drop, i_read, i_write]
          · simp [f__law_is_deed, isDeed, hlt, cut_1, e1, e3, k3, b4, hl, i_take, i_give, i_make, i_drop, i_read, i_write]
        by_cases w3 : ws = "read"
        · subst w3
          have i_take : isS "take" (.str "read") = false := by kernel_rfl
          have i_give : isS "give" (.str "read") = false := by kernel_rfl
          have i_make : isS "make" (.str "read") = false := by kernel_rfl
          have i_drop : isS "drop" (.str "read") = false := by kernel_rfl
          have i_read : isS "read" (.str "read") = true := by kernel_rfl
          have i_write : isS "write" (.str "read") = false := by kernel_rfl
          simp [i_take, i_give, i_drop, i_read, i_write] at e1
          by_cases hl : r.length = 0
          · simp [f__law_is_deed, isDeed, hlt, cut_1, e1, e3, k4, b3, hl, ec3, eq1, i_take, i_give, i_make, i_drop, i_read, i_write]
          · simp [f__law_is_deed, isDeed, hlt, cut_1, e1, e3, k4, b3, hl, i_take, i_give, i_make, i_drop, i_read, i_write]
        by_cases w4 : ws = "write"
        · subst w4
          have i_take : isS "take" (.str "write") = false := by kernel_rfl
          have i_give : isS "give" (.str "write") = false := by kernel_rfl
          have i_make : isS "make" (.str "write") = false := by kernel_rfl
          have i_drop : isS "drop" (.str "write") = false := by kernel_rfl
          have i_read : isS "read" (.str "write") = false := by kernel_rfl
          have i_write : isS "write" (.str "write") = true := by kernel_rfl
          simp [i_take, i_give, i_drop, i_read, i_write] at e1
          by_cases hl : r.length = 0
          · simp [f__law_is_deed, isDeed, hlt, cut_1, e1, e3, k5, b3, hl, ec3, eq1, i_take, i_give, i_make, i_drop, i_read, i_write]
          · simp [f__law_is_deed, isDeed, hlt, cut_1, e1, e3, k5, b3, hl, i_take, i_give, i_make, i_drop, i_read, i_write]
        have j1 : isS "take" (.str ws) = false := decide_eq_false w0
        have j2 : isS "give" (.str ws) = false := decide_eq_false w1
        have j3 : isS "drop" (.str ws) = false := decide_eq_false w2
        have j4 : isS "read" (.str ws) = false := decide_eq_false w3
        have j5 : isS "write" (.str ws) = false := decide_eq_false w4
        simp [j1, j2, j3, j4, j5] at e1
        by_cases w5 : ws = "make"
        · have j6 : isS "make" (.str ws) = true := decide_eq_true w5
          rw [j6] at e2
          by_cases hl : r.length = 2
          · obtain ⟨c, e, rfl⟩ : ∃ c e, r = [c, e] := by
              match r, hl with
              | [c, e], _ => exact ⟨c, e, rfl⟩
            obtain ⟨na, n2⟩ := niceL_cons n1
            obtain ⟨nb, n3⟩ := niceL_cons n2
            obtain ⟨nc, n4⟩ := niceL_cons n3
            obtain ⟨ne, _⟩ := niceL_cons n4
            obtain ⟨ga, g2⟩ := hgtL_cons g1
            obtain ⟨gb, g3⟩ := hgtL_cons g2
            obtain ⟨gc, g4⟩ := hgtL_cons g3
            obtain ⟨ge, _⟩ := hgtL_cons g4
            have nab : niceL [a, b] = true := by simp [niceL, na, nb]
            have gab : hgtL [a, b] ≤ 59 := by simp only [hgtL]; omega
            obtain ⟨y4, ec4, _, nq4⟩ := cf [a, b] nab gab none
            have c13 : cutG [D.str ws, a, b, c, e] (some 1) (some 3) = [a, b] := rfl
            have ek := o_notinns nc ["person", "thing"]
            simp only [List.map_cons, List.map_nil, List.any_cons, List.any_nil, Bool.or_false] at ek
            simp only [List.all_cons, List.all_nil, Bool.and_true] at nq4
            cases hab : (isNm a && isNm b) with
            | false =>
              rw [hab] at nq4
              have hq : ∀ e, makeQ a b c e = false := fun e => by
                cases e <;> simp only [makeQ]
                rw [← Bool.and_assoc, hab]
                rfl
              simp [f__law_is_deed, isDeed, hlt, e1, e2, j1, j2, j3, j4, j5, j6, c13, ec4, nq4]
              cases e <;> first | rfl | exact (hq (.tup _)).symm | exact hq (.tup _)
            | true =>
              rw [hab] at nq4
              obtain ⟨ha, hb⟩ := and2 hab
              have z0 : opD .ne [.lst [], .lst []] = some (.bl false, 0) := o_neE (xs := []) (by decide)
              cases hc : (isS "person" c || isS "thing" c) with
              | false =>
                rw [hc] at ek
                cases c with
                | obj _ _ => simp only [niceD] at nc; cases nc
                | dT _ => simp only [niceD] at nc; cases nc
                | scr _ => simp only [niceD] at nc; cases nc
                | _ => cases e <;> simp [f__law_is_deed, isDeed, hlt, e1, e2, j1, j2, j3, j4, j5, j6, c13, ec4, nq4, ek, hc, ha, hb, z0]
              | true =>
                rw [hc] at ek
                obtain ⟨cs, rfl⟩ : ∃ cs, c = .str cs := by
                  cases c <;> first | exact ⟨_, rfl⟩ | (simp [isS] at hc)
                cases e with
                | tup rs =>
                  have hrs : niceL rs = true := by simpa only [niceD] using ne
                  have grs : hgtL rs ≤ 59 := by simp only [hgt] at ge; omega
                  have hl3 : rs.length ≤ 16777216 := by
                    have := wtL_len rs
                    simp only [wtL, wtD] at hw
                    omega
                  obtain ⟨y5, ec5, eq5, _⟩ := cf rs hrs grs none
                  simp [f__law_is_deed, isDeed, hlt, e1, e2, j1, j2, j3, j4, j5, j6, c13, ec4, nq4, ek, hc, ha, hb, hl3, z0, ec5, eq5]
                | obj _ _ => simp only [niceD] at ne; cases ne
                | dT _ => simp only [niceD] at ne; cases ne
                | scr _ => simp only [niceD] at ne; cases ne
                | _ => simp [f__law_is_deed, isDeed, hlt, e1, e2, j1, j2, j3, j4, j5, j6, c13, ec4, nq4, ek, hc, ha, hb, z0]
          · simp [f__law_is_deed, isDeed, hlt, e1, e2, b5, hl, j1, j2, j3, j4, j5, j6]
            split
            · rename_i he
              cases he
              exact absurd rfl hl
            · rfl
        · have j6 : isS "make" (.str ws) = false := decide_eq_false w5
          rw [j6] at e2
          simp [f__law_is_deed, isDeed, hlt, e1, e2, j1, j2, j3, j4, j5, j6]
      | obj _ _ => simp only [niceD] at n0; cases n0
      | dT _ => simp only [niceD] at n0; cases n0
      | scr _ => simp only [niceD] at n0; cases n0
      | _ => simp [f__law_is_deed, isDeed, hlt, isS]
  | obj _ _ => simp only [niceD] at hn; cases hn
  | dT _ => simp only [niceD] at hn; cases hn
  | scr _ => simp only [niceD] at hn; cases hn
  | _ => simp [f__law_is_deed, isDeed]
end DL
set_option maxHeartbeats 0
namespace DL
open PySem PySem.Spec PyProof.Rows L2
@[simp] theorem run_words1 {b : Bag} {k : Nat} : runF f__law_words [(bgD b, 1), (.int 1, k)] = .ok (.lst ((wdL b 1).map .str), 1) [some (bgD (wdB b 1), 1), some (.int 1, 0)] := run_words (n := 1) (by omega) (by omega)
@[simp] theorem run_words4 {b : Bag} {k : Nat} : runF f__law_words [(bgD b, 1), (.int 4, k)] = .ok (.lst ((wdL b 4).map .str), 1) [some (bgD (wdB b 4), 1), some (.int 4, 0)] := run_words (n := 4) (by omega) (by omega)
/-- rights to draw from -/
def rightsL (w : Str) : List Str := ["take", "take", "take", "give", "give", "give", "read", "write", "use", w]
theorem run_rights (b : Bag) : ∃ (w : Str) (b' : Bag), nameS w = true ∧ runF f__law_rights [(bgD b, 1)] = .ok (.lst ((rightsL w).map .str), 1) [some (bgD b', 1)] := by
  have hl := wdL_len b (n := 1) (by omega) (by omega)
  have hn := wdL_name b (n := 1) (by omega) (by omega)
  obtain ⟨w, hw⟩ : ∃ w, wdL b 1 = [w] := by
    match wdL b 1, hl with
    | [w], _ => exact ⟨w, rfl⟩
  refine ⟨w, wdB b 1, hn w (by rw [hw]; simp), ?_⟩
  simp [f__law_rights, hw, rightsL]
theorem rights_names {w : Str} (h : nameS w = true) : ∀ d ∈ (rightsL w).map D.str, ∃ u, d = .str u ∧ nameS u = true := by
  intro d hd
  obtain ⟨u, hu, rfl⟩ := List.mem_map.mp hd
  refine ⟨u, rfl, ?_⟩
  simp only [rightsL, List.mem_cons, List.not_mem_nil, or_false] at hu
  rcases hu with rfl | rfl | rfl | rfl | rfl | rfl | rfl | rfl | rfl | rfl <;> first | exact h | decide +kernel
theorem names_pick (b : Bag) {ns : List Str} (hn : Names ns) (h0 : 0 < ns.length) (h1 : ns.length ≤ 1000) : ∃ u, pick b (ns.map D.str) = .str u ∧ nameS u = true := by
  obtain ⟨u, hu, e⟩ := List.mem_map.mp (pick_mem b (ds := ns.map D.str) (by rw [List.length_map]; exact h0) (by rw [List.length_map]; omega))
  exact ⟨u, e.symm, hn u hu⟩
/-- drawn rights -/
theorem rights_loop {x1 x2 x4 x5 x6 : Option DK} : ∀ (rem : List D) (b : Bag) (rs : List Str) (y : Option DK), Names rs → ∃ (b' : Bag) (rs' : List Str) (y' : Option DK), Names rs' ∧ rs'.length = rs.length + rem.length ∧
    compS [3] (.name 3) [] (.call f__law_some [.loan 0, .call f__law_rights [.loan 0]]) rem [some (bgD b, 1), x1, x2, y, x4, x5, x6] (rs.map .str) = .ok (.lst (rs'.map .str), 1) [some (bgD b', 1), x1, x2, y', x4, x5, x6]
  | [], b, rs, y, h => ⟨b, rs, y, h, by simp, by simp⟩
  | d :: rem, b, rs, y, h => by
    obtain ⟨w, b1, hw, er⟩ := run_rights b
    obtain ⟨u, hu, e⟩ : ∃ u, pick b1 ((rightsL w).map D.str) = .str u ∧ nameS u = true := rights_names hw _ (pick_mem b1 (by simp [rightsL]) (by simp [rightsL]))
    have es := run_some (b := b1) (ds := (rightsL w).map D.str) (k := 1) (by simp [rightsL]) (by simp [rightsL])
    rw [hu] at es
    generalize tkB b1 ((rightsL w).map D.str).length = b2 at es
    generalize (rightsL w).map D.str = R at er es
    obtain ⟨b', rs', y', a1, a2, a3⟩ := rights_loop (x1 := x1) (x2 := x2) (x4 := x4) (x5 := x5) (x6 := x6) rem b2 (rs ++ [u]) (some (d, 0)) (by
      intro z hz
      rcases List.mem_append.mp hz with hz | hz
      · exact h z hz
      · rw [List.mem_singleton.mp hz]; exact e)
    refine ⟨b', rs', y', a1, by rw [a2]; simp; omega, ?_⟩
    rw [compS_cons, ← a3]
    simp [er, es]
/-- names and small parts: up to a length and a weight -/
def partB (n : Nat) (x : D) : Prop := niceD x = true ∧ hgt x ≤ 20 ∧ wtD x ≤ n
def bnt (n m : Nat) (d : D) : Prop := okD d = true ∧ ∀ xs, d = .tup xs → xs.length ≤ m ∧ ∀ x ∈ xs, partB n x
theorem partB_name {n : Nat} (hn : 1000 ≤ n) {w : Str} (h : nameS w = true) : partB n (.str w) := by
  have := (name_len h).2
  exact ⟨by simp only [niceD]; exact name_nice h, by simp only [hgt]; omega, by simp only [wtD]; omega⟩
theorem part_list {n : Nat} : ∀ {xs : List D}, (∀ x ∈ xs, partB n x) → niceL xs = true ∧ hgtL xs ≤ 20 ∧ wtL xs ≤ xs.length * (n + 2)
  | [], _ => ⟨rfl, Nat.zero_le _, Nat.zero_le _⟩
  | x :: xs, h => by
    obtain ⟨h1, h2, h3⟩ := part_list fun y hy => h y (List.mem_cons_of_mem _ hy)
    obtain ⟨a, b, c⟩ := h x List.mem_cons_self
    simp only [niceL, hgtL, wtL, a, h1, List.length_cons]
    refine ⟨rfl, by omega, ?_⟩
    rw [Nat.succ_mul]
    omega
theorem bnt_tup {n m : Nat} {xs : List D} (hl : xs.length ≤ m) (h : ∀ x ∈ xs, partB n x) (hn : n ≤ 400000) (hm : m ≤ 30) : bnt n m (.tup xs) := by
  obtain ⟨a, b, c⟩ := part_list h
  have : xs.length * (n + 2) ≤ 30 * 400002 := Nat.mul_le_mul (by omega) (by omega)
  exact ⟨okD_mk (by simp only [niceD]; exact a) (by simp only [hgt]; omega) (by simp only [wtD]; omega), fun ys e => by cases e; exact ⟨hl, h⟩⟩
theorem bnt_lst {n m : Nat} {xs : List D} (hl : xs.length ≤ m) (h : ∀ x ∈ xs, partB n x) (hn : n ≤ 400000) (hm : m ≤ 30) : bnt n m (.lst xs) := by
  obtain ⟨a, b, c⟩ := part_list h
  have : xs.length * (n + 2) ≤ 30 * 400002 := Nat.mul_le_mul (by omega) (by omega)
  exact ⟨okD_mk (by simp only [niceD]; exact a) (by simp only [hgt]; omega) (by simp only [wtD]; omega), fun ys e => by cases e⟩
theorem run_drawn (b : Bag) {ns : List Str} (hn : Names ns) (h0 : 0 < ns.length) (h1 : ns.length ≤ 1000) : ∃ (d : D) (b' : Bag), isDeed d = true ∧ bnt 2000 5 d ∧
    ∀ k, ∃ x, runF f__law_drawn [(bgD b, 1), (.lst (ns.map .str), k)] = .ok (d, 0) [some (bgD b', 1), x] := by
  have hl : 0 < (ns.map D.str).length := by rw [List.length_map]; exact h0
  have hl2 : (ns.map D.str).length < 1073741824 := by rw [List.length_map]; omega
  have e4 : rangeD 0 4 = [.int 0, .int 1, .int 2, .int 3] := rfl
  obtain ⟨p0, q0, n0⟩ := names_pick b hn h0 h1
  generalize hb1 : tkB b ns.length = b1
  obtain ⟨p1, q1, n1⟩ := names_pick b1 hn h0 h1
  generalize hb2 : tkB b1 ns.length = b2
  obtain ⟨p2, q2, n2⟩ := names_pick b2 hn h0 h1
  generalize hb3 : tkB b2 ns.length = b3
  obtain ⟨p3, q3, n3⟩ := names_pick b3 hn h0 h1
  generalize hb4 : tkB b3 ns.length = b4
  let six : List D := [.str "take", .str "give", .str "make", .str "drop", .str "read", .str "write"]
  have ew := run_some (b := b4) (ds := six) (k := 1) (by simp [six]) (by simp [six])
  have hw := pick_mem b4 (ds := six) (by simp [six]) (by simp [six])
  generalize pick b4 six = w at ew hw
  rw [show ((six.length : Nat) : Int) = 6 from rfl] at ew
  generalize tkB b4 6 = b5 at ew
  obtain ⟨rw1, b6, hrw, er⟩ := run_rights b5
  obtain ⟨u, hu, hun⟩ : ∃ u, pick b6 ((rightsL rw1).map D.str) = .str u ∧ nameS u = true := rights_names hrw _ (pick_mem b6 (by simp [rightsL]) (by simp [rightsL]))
  have es := run_some (b := b6) (ds := (rightsL rw1).map D.str) (k := 1) (by simp [rightsL]) (by simp [rightsL])
  rw [hu] at es
  generalize tkB b6 ((rightsL rw1).map D.str).length = b7 at es
  generalize (rightsL rw1).map D.str = R at er es
  have P : ∀ {z : Str}, nameS z = true → partB 2000 (.str z) := fun h => partB_name (by omega) h
  have hns : ns.length < 1073741824 := by omega
  simp only [six, List.mem_cons, List.not_mem_nil, or_false] at hw
  simp only [six] at ew
  have nt : isNm (.str "take") = true := by kernel_rfl
  have wn : ∀ z : Str, nameS z = true → isNm (.str z) = true := fun z h => h
  rcases hw with rfl | rfl | rfl | rfl | rfl | rfl
  · have f1 : opD .inn [.str "take", .tup [.str "take", .str "give"]] = some (.bl true, 0) := by kernel_rfl
    have f2 : opD .eq [.str "take", .str "make"] = some (.bl false, 0) := by kernel_rfl
    have f3 : opD .eq [.str "take", .str "drop"] = some (.bl false, 0) := by kernel_rfl
    have i_take : isS "take" (.str "take") = true := by kernel_rfl
    have i_give : isS "give" (.str "take") = false := by kernel_rfl
    have i_make : isS "make" (.str "take") = false := by kernel_rfl
    have i_drop : isS "drop" (.str "take") = false := by kernel_rfl
    have i_read : isS "read" (.str "take") = false := by kernel_rfl
    have i_write : isS "write" (.str "take") = false := by kernel_rfl
    refine ⟨.tup [.str "take", .str p0, .str p1, .str u, .str p2], b7, ?_, ?_, fun k => ⟨some (.lst (ns.map .str), 0), ?_⟩⟩
    · simp [isDeed, i_take, i_give, i_make, i_drop, i_read, i_write, wn, n0, n1, n2, hun]
    · refine bnt_tup (by simp) ?_ (by omega) (by omega)
      intro x hx
      simp only [List.mem_cons, List.not_mem_nil, or_false] at hx
      rcases hx with rfl | rfl | rfl | rfl | rfl <;> apply P <;> first | assumption | decide +kernel
    · simp [f__law_drawn, e4, compS_cons, h0, hns, q0, hb1, q1, hb2, q2, hb3, q3, hb4, ew, er, es, f1, f2, f3]
  · have f1 : opD .inn [.str "give", .tup [.str "take", .str "give"]] = some (.bl true, 0) := by kernel_rfl
    have f2 : opD .eq [.str "give", .str "make"] = some (.bl false, 0) := by kernel_rfl
    have f3 : opD .eq [.str "give", .str "drop"] = some (.bl false, 0) := by kernel_rfl
    have i_take : isS "take" (.str "give") = false := by kernel_rfl
    have i_give : isS "give" (.str "give") = true := by kernel_rfl
    have i_make : isS "make" (.str "give") = false := by kernel_rfl
    have i_drop : isS "drop" (.str "give") = false := by kernel_rfl
    have i_read : isS "read" (.str "give") = false := by kernel_rfl
    have i_write : isS "write" (.str "give") = false := by kernel_rfl
    refine ⟨.tup [.str "give", .str p0, .str p1, .str u, .str p2], b7, ?_, ?_, fun k => ⟨some (.lst (ns.map .str), 0), ?_⟩⟩
    · simp [isDeed, i_take, i_give, i_make, i_drop, i_read, i_write, wn, n0, n1, n2, hun]
    · refine bnt_tup (by simp) ?_ (by omega) (by omega)
      intro x hx
      simp only [List.mem_cons, List.not_mem_nil, or_false] at hx
      rcases hx with rfl | rfl | rfl | rfl | rfl <;> apply P <;> first | assumption | decide +kernel
    · simp [f__law_drawn, e4, compS_cons, h0, hns, q0, hb1, q1, hb2, q2, hb3, q3, hb4, ew, er, es, f1, f2, f3]
  · have f1 : opD .inn [.str "make", .tup [.str "take", .str "give"]] = some (.bl false, 0) := by kernel_rfl
    have f2 : opD .eq [.str "make", .str "make"] = some (.bl true, 0) := by kernel_rfl
    have f3 : opD .eq [.str "make", .str "drop"] = some (.bl false, 0) := by kernel_rfl
    have i_take : isS "take" (.str "make") = false := by kernel_rfl
    have i_give : isS "give" (.str "make") = false := by kernel_rfl
    have i_make : isS "make" (.str "make") = true := by kernel_rfl
    have i_drop : isS "drop" (.str "make") = false := by kernel_rfl
    have i_read : isS "read" (.str "make") = false := by kernel_rfl
    have i_write : isS "write" (.str "make") = false := by kernel_rfl
    have t0 := tkM_lo b7 (n := 4) (by omega) (by omega)
    have t1 := tkM_hi b7 (n := 4) (by omega) (by omega)
    obtain ⟨m, hm⟩ := Int.eq_ofNat_of_zero_le t0
    rw [hm] at t1
    have hml : (m : Int) ≤ 16777216 ∧ -16777216 ≤ (m : Int) := by omega
    have hmn : m ≤ 16777216 := by omega
    obtain ⟨b9, rs, y9, hrs, hrl, e9⟩ := rights_loop (x1 := some (.lst (ns.map .str), 0)) (x2 := some (.lst [.str p0, .str p1, .str p2, .str p3], 1)) (x4 := some (.str "make", 0)) (x5 := some (.str u, 0)) (x6 := none) (rangeD 0 m) (tkB b7 4) [] none (fun _ h => by cases h)
    simp only [List.map_nil] at e9
    rw [rangeD_len, List.length_nil, Nat.zero_add] at hrl
    obtain ⟨kd, hk, hkd⟩ : ∃ z : Str, pick b9 [.str "person", .str "thing"] = .str z ∧ (z = "person" ∨ z = "thing") := by
      have := pick_mem b9 (ds := [.str "person", .str "thing"]) (by simp) (by simp)
      simp only [List.mem_cons, List.not_mem_nil, or_false] at this
      rcases this with h | h
      · exact ⟨_, h, .inl rfl⟩
      · exact ⟨_, h, .inr rfl⟩
    have hkn : nameS kd = true := by rcases hkd with rfl | rfl <;> decide +kernel
    have hki : (isS "person" (.str kd) || isS "thing" (.str kd)) = true := by rcases hkd with rfl | rfl <;> kernel_rfl
    have erl : rs.length ≤ 16777216 := by omega
    have hall : rs.all (fun z => isNm (.str z)) = true := List.all_eq_true.mpr fun z hz => hrs z hz
    refine ⟨.tup [.str "make", .str p0, .str p1, .str kd, .tup (rs.map .str)], tkB b9 2, ?_, ?_, fun k => ⟨some (.lst (ns.map .str), 0), ?_⟩⟩
    · have hall2 : (rs.map D.str).all isNm = true := by rw [List.all_map]; exact hall
      simp only [isDeed, i_take, i_give, i_make, i_drop, i_read, i_write, wn _ n0, wn _ n1, hki, hall2]
      rfl
    · refine bnt_tup (by simp) ?_ (by omega) (by omega)
      intro x hx
      simp only [List.mem_cons, List.not_mem_nil, or_false] at hx
      rcases hx with rfl | rfl | rfl | rfl | rfl
      · exact P (by decide +kernel)
      · exact P n0
      · exact P n1
      · exact P hkn
      · obtain ⟨c1, c2, c3⟩ := part_list (n := 90) (xs := rs.map D.str) fun x hx => by
          obtain ⟨z, hz, rfl⟩ := List.mem_map.mp hx
          have := (name_len (hrs z hz)).2
          exact ⟨by simp only [niceD]; exact name_nice (hrs z hz), by simp only [hgt]; omega, by simp only [wtD]; omega⟩
        have g0 : hgtL (rs.map D.str) = 0 := hgtL_strs rs
        rw [List.length_map] at c3
        exact ⟨by simp only [niceD]; exact c1, by simp only [hgt]; omega, by simp only [wtD]; omega⟩
    · simp [f__law_drawn, e4, compS_cons, h0, hns, q0, hb1, q1, hb2, q2, hb3, q3, hb4, ew, er, es, f1, f2, f3, hm, hml, hmn, rangeD_len, e9, hk, erl]
  · have f1 : opD .inn [.str "drop", .tup [.str "take", .str "give"]] = some (.bl false, 0) := by kernel_rfl
    have f2 : opD .eq [.str "drop", .str "make"] = some (.bl false, 0) := by kernel_rfl
    have f3 : opD .eq [.str "drop", .str "drop"] = some (.bl true, 0) := by kernel_rfl
    have i_take : isS "take" (.str "drop") = false := by kernel_rfl
    have i_give : isS "give" (.str "drop") = false := by kernel_rfl
    have i_make : isS "make" (.str "drop") = false := by kernel_rfl
    have i_drop : isS "drop" (.str "drop") = true := by kernel_rfl
    have i_read : isS "read" (.str "drop") = false := by kernel_rfl
    have i_write : isS "write" (.str "drop") = false := by kernel_rfl
    refine ⟨.tup [.str "drop", .str p0, .str u, .str p1], b7, ?_, ?_, fun k => ⟨some (.lst (ns.map .str), 0), ?_⟩⟩
    · simp [isDeed, i_take, i_give, i_make, i_drop, i_read, i_write, wn, n0, n1, n2, hun]
    · refine bnt_tup (by simp) ?_ (by omega) (by omega)
      intro x hx
      simp only [List.mem_cons, List.not_mem_nil, or_false] at hx
      rcases hx with rfl | rfl | rfl | rfl <;> apply P <;> first | assumption | decide +kernel
    · simp [f__law_drawn, e4, compS_cons, h0, hns, q0, hb1, q1, hb2, q2, hb3, q3, hb4, ew, er, es, f1, f2, f3]
  · have f1 : opD .inn [.str "read", .tup [.str "take", .str "give"]] = some (.bl false, 0) := by kernel_rfl
    have f2 : opD .eq [.str "read", .str "make"] = some (.bl false, 0) := by kernel_rfl
    have f3 : opD .eq [.str "read", .str "drop"] = some (.bl false, 0) := by kernel_rfl
    have i_take : isS "take" (.str "read") = false := by kernel_rfl
    have i_give : isS "give" (.str "read") = false := by kernel_rfl
    have i_make : isS "make" (.str "read") = false := by kernel_rfl
    have i_drop : isS "drop" (.str "read") = false := by kernel_rfl
    have i_read : isS "read" (.str "read") = true := by kernel_rfl
    have i_write : isS "write" (.str "read") = false := by kernel_rfl
    refine ⟨.tup [.str "read", .str p0, .str p1], b7, ?_, ?_, fun k => ⟨some (.lst (ns.map .str), 0), ?_⟩⟩
    · simp [isDeed, i_take, i_give, i_make, i_drop, i_read, i_write, wn, n0, n1, n2, hun]
    · refine bnt_tup (by simp) ?_ (by omega) (by omega)
      intro x hx
      simp only [List.mem_cons, List.not_mem_nil, or_false] at hx
      rcases hx with rfl | rfl | rfl <;> apply P <;> first | assumption | decide +kernel
    · simp [f__law_drawn, e4, compS_cons, h0, hns, q0, hb1, q1, hb2, q2, hb3, q3, hb4, ew, er, es, f1, f2, f3]
  · have f1 : opD .inn [.str "write", .tup [.str "take", .str "give"]] = some (.bl false, 0) := by kernel_rfl
    have f2 : opD .eq [.str "write", .str "make"] = some (.bl false, 0) := by kernel_rfl
    have f3 : opD .eq [.str "write", .str "drop"] = some (.bl false, 0) := by kernel_rfl
    have i_take : isS "take" (.str "write") = false := by kernel_rfl
    have i_give : isS "give" (.str "write") = false := by kernel_rfl
    have i_make : isS "make" (.str "write") = false := by kernel_rfl
    have i_drop : isS "drop" (.str "write") = false := by kernel_rfl
    have i_read : isS "read" (.str "write") = false := by kernel_rfl
    have i_write : isS "write" (.str "write") = true := by kernel_rfl
    refine ⟨.tup [.str "write", .str p0, .str p1], b7, ?_, ?_, fun k => ⟨some (.lst (ns.map .str), 0), ?_⟩⟩
    · simp [isDeed, i_take, i_give, i_make, i_drop, i_read, i_write, wn, n0, n1, n2, hun]
    · refine bnt_tup (by simp) ?_ (by omega) (by omega)
      intro x hx
      simp only [List.mem_cons, List.not_mem_nil, or_false] at hx
      rcases hx with rfl | rfl | rfl <;> apply P <;> first | assumption | decide +kernel
    · simp [f__law_drawn, e4, compS_cons, h0, hns, q0, hb1, q1, hb2, q2, hb3, q3, hb4, ew, er, es, f1, f2, f3]
end DL
set_option maxHeartbeats 0
namespace DL
open PySem PySem.Spec PyProof.Rows L2
theorem part_mono {n n' : Nat} {x : D} (h : partB n x) (hn : n ≤ n') : partB n' x := ⟨h.1, h.2.1, by have := h.2.2; omega⟩
theorem o_eqT {xs : List D} (h : hgtL xs ≤ 60) : opD .eq [.tup xs, .tup []] = some (.bl xs.isEmpty, 0) := by
  show opEq [D.tup xs, D.tup []] = _
  simp only [opEq]
  rw [if_pos (by simp only [hgt]; omega)]
  cases xs with
  | nil => simp [eqD, eqZ]
  | cons x xs => simp [eqD, eqZ]
theorem wt_mem : ∀ {xs : List D} {x : D}, x ∈ xs → wtD x ≤ wtL xs
  | y :: ys, x, h => by
    simp only [wtL]
    rcases List.mem_cons.mp h with rfl | h
    · omega
    · have := wt_mem h
      omega
theorem odd_part (b : Bag) : partB 310000 (pick b oddL) := by
  have hk : oddL.all (fun d => niceD d && decide (hgt d ≤ 20) && decide (wtD d ≤ 310000)) = true := by kernel_rfl
  have h := List.all_eq_true.mp hk _ (pick_mem b (ds := oddL) (by decide) (by decide))
  obtain ⟨h, h3⟩ := and2 h
  obtain ⟨h1, h2⟩ := and2 h
  exact ⟨h1, of_decide_eq_true h2, of_decide_eq_true h3⟩
theorem wtL_app : ∀ (xs ys : List D), wtL (xs ++ ys) = wtL xs + wtL ys
  | [], ys => by simp [wtL]
  | x :: xs, ys => by simp only [List.cons_append, wtL, wtL_app xs ys]; omega
theorem hgtL_app : ∀ (xs ys : List D), hgtL (xs ++ ys) = max (hgtL xs) (hgtL ys)
  | [], ys => by simp [hgtL]
  | x :: xs, ys => by simp only [List.cons_append, hgtL, hgtL_app xs ys]; omega
theorem niceL_app : ∀ (xs ys : List D), niceL (xs ++ ys) = (niceL xs && niceL ys)
  | [], ys => by simp [niceL]
  | x :: xs, ys => by simp only [List.cons_append, niceL, niceL_app xs ys, Bool.and_assoc]
theorem cut_suf {α : Type} (xs : List α) (n : Nat) : cutG xs (some (n : Int)) none = xs.drop n := by
  unfold cutG
  rw [HT.sIx_nat]
  have e2 : HT.sIx xs.length xs.length none = xs.length := rfl
  rw [e2]
  by_cases h : n ≤ xs.length
  · rw [Nat.min_eq_left h, List.take_of_length_le (by rw [List.length_drop]; omega)]
  · rw [Nat.min_eq_right (by omega), List.drop_of_length_le (by omega), List.drop_of_length_le (by omega)]
    simp
theorem cut_lens {α : Type} {xs : List α} {p : Int} (h0 : 0 ≤ p) (h1 : p < xs.length) : (cutG xs none (some p)).length + (cutG xs (some (p + 1)) none).length + 1 = xs.length ∧ (cutG xs none (some p)).length + (cutG xs (some p) none).length = xs.length := by
  obtain ⟨k, rfl⟩ := Int.eq_ofNat_of_zero_le h0
  rw [cut_pre, cut_suf, show ((k : Int) + 1) = ((k + 1 : Nat) : Int) from rfl, cut_suf, List.length_take, List.length_drop, List.length_drop]
  omega
theorem run_bent2 (b : Bag) {n m : Nat} {d : D} {ns : List Str} (hd : bnt n m d) (hn1 : 310000 ≤ n) (hn2 : n ≤ 350000) (hm : m ≤ 20) (hN : Names ns) (m1 : 0 < ns.length) (m2 : ns.length ≤ 10) : ∃ (d' : D) (k' : Nat) (b' : Bag), bnt (n + 2000) (m + 1) d' ∧
    ∀ k j, ∃ x y, runF f__law_bent_v2 [(bgD b, 1), (d, k), (.lst (ns.map .str), j)] = .ok (d', k') [some (bgD b', 1), x, y] := by
  have hok := hd.1
  have hnd := okD_nice hok
  have mono : bnt (n + 2000) (m + 1) d := ⟨hok, fun xs e => by
    obtain ⟨h1, h2⟩ := hd.2 xs e
    exact ⟨by omega, fun x hx => part_mono (h2 x hx) (by omega)⟩⟩
  by_cases ht : ∃ xs, d = .tup xs ∧ xs ≠ []
  · obtain ⟨X, rfl, hne⟩ := ht
    obtain ⟨hl, hX⟩ := hd.2 X rfl
    have hlen : 0 < X.length := List.length_pos_iff.mpr hne
    have hee : X.isEmpty = false := by cases X with
      | nil => exact absurd rfl hne
      | cons => rfl
    have hgX : hgtL X ≤ 60 := by have := (part_list hX).2.1; omega
    have eT := o_eqT hgX
    rw [hee] at eT
    have a1 : (0 : Int) < X.length := by omega
    have a2 : (X.length : Int) < 1073741824 := by omega
    have t0 := tkM_lo b a1 a2
    have t1 := tkM_hi b a1 a2
    have u0 := tkM_lo (tkB b X.length) (n := 8) (by omega) (by omega)
    have u1 := tkM_hi (tkB b X.length) (n := 8) (by omega) (by omega)
    obtain ⟨w0, hw0, e0⟩ := atI_in (xs := X) t0 t1
    have hw0n := hX w0 hw0
    generalize hm' : tkM b X.length = p at t0 t1 e0
    generalize hb1 : tkB (tkB b X.length) 8 = b1
    generalize hz : tkM (tkB b X.length) 8 = z at u0 u1
    have c1 := cut_len X none (some p)
    have c2 := cut_len X (some p) none
    have c3 := cut_len X (some (p + 1)) none
    have M1 : ∀ x ∈ cutG X none (some p), partB n x := fun x hx => hX x (cut_mem hx)
    have M2 : ∀ x ∈ cutG X (some p) none, partB n x := fun x hx => hX x (cut_mem hx)
    have M3 : ∀ x ∈ cutG X (some (p + 1)) none, partB n x := fun x hx => hX x (cut_mem hx)
    have L13 : (cutG X none (some p)).length + (cutG X (some (p + 1)) none).length + 1 ≤ m := by
      have := (cut_lens t0 t1).1
      omega
    have L12 : (cutG X none (some p)).length + (cutG X (some p) none).length ≤ m := by
      have := (cut_lens t0 t1).2
      omega
    generalize hA : cutG X none (some p) = A at *
    generalize hB : cutG X (some p) none = B at *
    generalize hC : cutG X (some (p + 1)) none = C at *
    have q1 : A.length + C.length ≤ 16777216 := by omega
    have q2 : A.length + 1 ≤ 16777216 := by omega
    have q3 : A.length + 1 + B.length ≤ 16777216 := by omega
    have q4 : A.length + 1 + C.length ≤ 16777216 := by omega
    have fin : ∀ x, partB (n + 2000) x → bnt (n + 2000) (m + 1) (.tup (A ++ x :: C)) := fun x hx => bnt_tup (by simp only [List.length_append, List.length_cons]; omega) (by
      intro y hy
      rcases List.mem_append.mp hy with hy | hy
      · exact part_mono (M1 y hy) (by omega)
      · rcases List.mem_cons.mp hy with rfl | hy
        · exact hx
        · exact part_mono (M3 y hy) (by omega)) (by omega) (by omega)
    have eo := @run_odd b1
    have ho := odd_part b1
    generalize hpo : pick b1 oddL = po at *
    let el : List D := [po, .str "take", .str "make", .str "read", .str "person", .str "box", .str "A", .str "ninesigns", .tup [], .str "a1", .str "a\n"]
    have e11 := run_some (b := tkB b1 36) (ds := el) (k := 1) (by simp [el]) (by simp [el])
    have h11 := pick_mem (tkB b1 36) (ds := el) (by simp [el]) (by simp [el])
    rw [show ((el.length : Nat) : Int) = 11 from rfl] at e11
    have hpa : partB 310000 (pick (tkB b1 36) el) := by
      have hk : ([.str "take", .str "make", .str "read", .str "person", .str "box", .str "A", .str "ninesigns", .tup [], .str "a1", .str "a\n"] : List D).all (fun d => niceD d && decide (hgt d ≤ 20) && decide (wtD d ≤ 310000)) = true := by kernel_rfl
      rcases List.mem_cons.mp h11 with h | h
      · rw [h]; exact ho
      · have h := List.all_eq_true.mp hk _ h
        obtain ⟨h, h3⟩ := and2 h
        obtain ⟨h1, h2⟩ := and2 h
        exact ⟨h1, of_decide_eq_true h2, of_decide_eq_true h3⟩
    generalize pick (tkB b1 36) el = pa at *
    simp only [el] at e11
    generalize tkB (tkB b1 36) 11 = b2 at e11
    have hall : z = 0 ∨ z = 1 ∨ z = 2 ∨ z = 3 ∨ z = 4 ∨ z = 5 ∨ z = 6 ∨ z = 7 := by omega
    have hlen' : 0 < X.length := hlen
    rcases hall with rfl | rfl | rfl | rfl | rfl | rfl | rfl | rfl
    · refine ⟨.tup (A ++ C), 0, b1, bnt_tup (by simp only [List.length_append]; omega) ?_ (by omega) (by omega), fun k j => ⟨some (.tup X, 0), some (.lst (ns.map .str), j), ?_⟩⟩
      · intro y hy
        rcases List.mem_append.mp hy with hy | hy
        · exact part_mono (M1 y hy) (by omega)
        · exact part_mono (M3 y hy) (by omega)
      · simp [f__law_bent_v2, eT, a1, a2, hlen, hm', hb1, hz, hA, hB, hC, q1]
    · refine ⟨.tup (A ++ w0 :: B), 0, b1, bnt_tup (by simp only [List.length_append, List.length_cons]; omega) ?_ (by omega) (by omega), fun k j => ⟨some (.tup X, 0), some (.lst (ns.map .str), j), ?_⟩⟩
      · intro y hy
        rcases List.mem_append.mp hy with hy | hy
        · exact part_mono (M1 y hy) (by omega)
        · rcases List.mem_cons.mp hy with rfl | hy
          · exact part_mono hw0n (by omega)
          · exact part_mono (M2 y hy) (by omega)
      · simp [f__law_bent_v2, eT, a1, a2, hlen, hm', hb1, hz, hA, hB, hC, q2, q3, e0]
    · refine ⟨.lst X, 1, b1, bnt_lst (by omega) (fun y hy => part_mono (hX y hy) (by omega)) (by omega) (by omega), fun k j => ⟨some (.tup X, 0), some (.lst (ns.map .str), j), ?_⟩⟩
      simp [f__law_bent_v2, eT, a1, a2, hlen, hm', hb1, hz]
    · cases w0 with
      | tup ys =>
        obtain ⟨yn, yh, yw⟩ := hw0n
        simp only [niceD] at yn
        simp only [hgt] at yh
        simp only [wtD] at yw
        have hyl := wtL_len ys
        have hy1 : ys.length + 1 ≤ 16777216 := by omega
        let sx : List D := [.lst ys, .tup (ys ++ [.str "A"]), .tup (ys ++ [.int 5]), .tup (ys ++ [.str "a"]), .dK [], .str "use"]
        have e6 := run_some (b := b2) (ds := sx) (k := 1) (by simp [sx]) (by simp [sx])
        have h6 := pick_mem b2 (ds := sx) (by simp [sx]) (by simp [sx])
        rw [show ((sx.length : Nat) : Int) = 6 from rfl] at e6
        have pb : partB (n + 2000) (pick b2 sx) := by
          simp only [sx, List.mem_cons, List.not_mem_nil, or_false] at h6
          have app : ∀ z, niceD z = true → hgt z = 0 → wtD z ≤ 1500 → partB (n + 2000) (.tup (ys ++ [z])) := fun z z1 z2 z3 => by
            refine ⟨?_, ?_, ?_⟩
            · simp only [niceD, niceL_app, niceL, yn, z1]; rfl
            · simp only [hgt, hgtL_app, hgtL, z2]; omega
            · simp only [wtD, wtL_app, wtL]; omega
          rcases h6 with h | h | h | h | h | h
          · rw [h]; exact ⟨by simp only [niceD]; exact yn, by simp only [hgt]; omega, by simp only [wtD]; omega⟩
          · rw [h]; exact app _ (by kernel_rfl) rfl (by decide +kernel)
          · rw [h]; exact app _ (by kernel_rfl) rfl (by decide +kernel)
          · rw [h]; exact app _ (by kernel_rfl) rfl (by decide +kernel)
          · rw [h]; exact ⟨rfl, by decide, by simp only [wtD, wtK]; omega⟩
          · rw [h]; exact partB_name (by omega) (by decide +kernel)
        simp only [sx] at e6
        generalize pick b2 [.lst ys, .tup (ys ++ [.str "A"]), .tup (ys ++ [.int 5]), .tup (ys ++ [.str "a"]), .dK [], .str "use"] = p6 at *
        refine ⟨.tup (A ++ p6 :: C), 0, tkB b2 6, fin p6 pb, fun k j => ⟨some (.tup X, 0), some (.lst (ns.map .str), j), ?_⟩⟩
        simp [f__law_bent_v2, eT, a1, a2, hlen, hm', hb1, hz, hA, hB, hC, eo, hpo, e11, q2, q4, e0, hy1, e6]
      | obj _ _ => have := hw0n.1; simp only [niceD] at this; cases this
      | dT _ => have := hw0n.1; simp only [niceD] at this; cases this
      | scr _ => have := hw0n.1; simp only [niceD] at this; cases this
      | _ =>
        refine ⟨.tup (A ++ pa :: C), 0, b2, fin pa (part_mono hpa (by omega)), fun k j => ⟨some (.tup X, 0), some (.lst (ns.map .str), j), ?_⟩⟩
        simp [f__law_bent_v2, eT, a1, a2, hlen, hm', hb1, hz, hA, hB, hC, eo, hpo, e11, q2, q4, e0]
    · obtain ⟨un, hun, hunn⟩ := names_pick b2 hN m1 (by omega)
      have ens := run_some (b := b2) (ds := ns.map D.str) (k := 0) (by rw [List.length_map]; exact m1) (by rw [List.length_map]; omega)
      rw [hun] at ens
      refine ⟨.tup (A ++ .str un :: C), 0, tkB b2 ns.length, fin _ (partB_name (by omega) hunn), fun k j => ⟨some (.tup X, 0), some (.lst (ns.map .str), 0), ?_⟩⟩
      simp [f__law_bent_v2, eT, a1, a2, hlen, hm', hb1, hz, hA, hB, hC, eo, hpo, e11, ens, e0, q2, q4]
    · refine ⟨.tup (A ++ pa :: C), 0, b2, fin pa (part_mono hpa (by omega)), fun k j => ⟨some (.tup X, 0), some (.lst (ns.map .str), j), ?_⟩⟩
      simp [f__law_bent_v2, eT, a1, a2, hlen, hm', hb1, hz, hA, hB, hC, eo, hpo, e11, q2, q4]
    · refine ⟨.tup X, 0, b2, mono, fun k j => ⟨some (.tup X, 0), some (.lst (ns.map .str), j), ?_⟩⟩
      simp [f__law_bent_v2, eT, a1, a2, hlen, hm', hb1, hz, hA, hB, hC, eo, hpo, e11, q2, q4]
    · refine ⟨.tup X, 0, b2, mono, fun k j => ⟨some (.tup X, 0), some (.lst (ns.map .str), j), ?_⟩⟩
      simp [f__law_bent_v2, eT, a1, a2, hlen, hm', hb1, hz, hA, hB, hC, eo, hpo, e11, q2, q4]
  · refine ⟨d, 0, b, mono, fun k j => ⟨some (d, 0), some (.lst (ns.map .str), j), ?_⟩⟩
    cases d with
    | tup xs =>
      have : xs = [] := by
        by_cases h : xs = []
        · exact h
        · exact absurd ⟨xs, rfl, h⟩ ht
      subst this
      have eT := o_eqT (xs := []) (by decide)
      simp [f__law_bent_v2, eT]
    | obj _ _ => simp only [niceD] at hnd; cases hnd
    | dT _ => simp only [niceD] at hnd; cases hnd
    | scr _ => simp only [niceD] at hnd; cases hnd
    | _ => simp [f__law_bent_v2]
end DL
set_option maxHeartbeats 0
namespace DL
open PySem PySem.Spec PyProof.Rows L2
theorem k20_turn {d : D} (h : okD d = true) {x0 x1 x2 x3 x4 x5 y7 y8 : Option DK} : ∃ z7 z8, xssX [.asgs [7, 8] [.call f__law_is_deed [.var 6 false], .op .repr [.var 6 false]], .ite (.or [.not (.call f__law_alike [.lst [.call f_is_deed [.var 6 false], .call f_is_deed [.var 6 false]], .lst [.var 7 false, .var 7 false]]), .op .ne [.op .repr [.var 6 false], .var 8 false]]) [.ret (.cst (.bl false))] []]
    [x0, x1, x2, x3, x4, x5, some (d, 0), y7, y8] = .nx [x0, x1, x2, x3, x4, x5, some (d, 0), z7, z8] := by
  have e1 := o_repr (okD_nice h) (okD_wt h) (by have := okD_hgt h; omega)
  have e3 := fun k j => run_alike_bools (bs := [isDeed d, isDeed d]) (k := k) (j := j) (by simp)
  simp only [List.map_cons, List.map_nil] at e3
  simp [run_law_is_deed h, run_is_deed h, e1, e3]
def k20b : List IS := match f_law_v2.body with
  | _ :: .loop _ _ _ b :: _ => b
  | _ => []
theorem k20_body {b : Bag} {x0 y2 y3 y4 y5 y6 y7 y8 : Option DK} : ∃ (b' : Bag) (z3 z4 z5 z6 z7 z8 : Option DK), xssX k20b [x0, some (bgD b, 1), y2, y3, y4, y5, y6, y7, y8] = .nx [x0, some (bgD b', 1), y2, z3, z4, z5, z6, z7, z8] := by
  have wl := wdL_len b (n := 4) (by omega) (by omega)
  have hN : Names (wdL b 4) := wdL_name b (n := 4) (by omega) (by omega)
  obtain ⟨d, b1, hd, hdb, ed⟩ := run_drawn (wdB b 4) hN (by omega) (by omega)
  obtain ⟨x1, ed⟩ := ed 0
  have hdb' : bnt 310000 5 d := ⟨hdb.1, fun xs e => ⟨(hdb.2 xs e).1, fun x hx => part_mono ((hdb.2 xs e).2 x hx) (by omega)⟩⟩
  obtain ⟨d1, k1, b2, h1, e1⟩ := run_bent2 b1 hdb' (by omega) (by omega) (by omega) hN (by omega) (by omega)
  obtain ⟨p1, p2, e1⟩ := e1 0 0
  obtain ⟨d2, k2, b3, h2, e2⟩ := run_bent2 b2 h1 (by omega) (by omega) (by omega) hN (by omega) (by omega)
  obtain ⟨p3, p4, e2⟩ := e2 0 0
  have eo := @run_odd b3
  have ho := sm_odd b3
  generalize pick b3 oddL = po at eo ho
  generalize tkB b3 36 = b4 at eo
  have w4 : ∀ k, runF f__law_words [(bgD b, 1), (.int 4, k)] = .ok (.lst ((wdL b 4).map .str), 1) [some (bgD (wdB b 4), 1), some (.int 4, 0)] := fun k => run_words4
  generalize wdL b 4 = ws at *
  generalize wdB b 4 = b0 at *
  have hall : ∀ d' ∈ [d, d1, d2, po], okD d' = true := by
    intro d' hd'
    simp only [List.mem_cons, List.not_mem_nil, or_false] at hd'
    rcases hd' with rfl | rfl | rfl | rfl
    · exact hdb.1
    · exact h1.1
    · exact h2.1
    · exact sm_ok ho
  obtain ⟨Γ', ⟨z6, z7, z8, rfl⟩, e⟩ := forS_nx (tg := .name 6) (body := [.asgs [7, 8] [.call f__law_is_deed [.var 6 false], .op .repr [.var 6 false]], .ite (.or [.not (.call f__law_alike [.lst [.call f_is_deed [.var 6 false], .call f_is_deed [.var 6 false]], .lst [.var 7 false, .var 7 false]]), .op .ne [.op .repr [.var 6 false], .var 8 false]]) [.ret (.cst (.bl false))] []])
    (fun Γ => ∃ z6 z7 z8, Γ = [x0, some (bgD b4, 1), y2, some (.lst (ws.map .str), 0), some (d, 0), some (d1, 0), z6, z7, z8]) (ds := [d, d1, d2, po])
    (Γ := [x0, some (bgD b4, 1), y2, some (.lst (ws.map .str), 0), some (d, 0), some (d1, 0), y6, y7, y8]) (by
      rintro d' hd' Γ ⟨z6, z7, z8, rfl⟩
      obtain ⟨q7, q8, e⟩ := k20_turn (hall d' hd') (x0 := x0) (x1 := some (bgD b4, 1)) (x2 := y2) (x3 := some (.lst (ws.map .str), 0)) (x4 := some (d, 0)) (x5 := some (d1, 0)) (y7 := z7) (y8 := z8)
      exact ⟨_, _, rfl, e, _, _, _, rfl⟩) ⟨_, _, _, rfl⟩
  refine ⟨b4, some (.lst (ws.map .str), 0), some (d, 0), some (d1, 0), z6, z7, z8, ?_⟩
  simp [k20b, f_law_v2, FunIR.body, -run_words4, w4, ed, e1, e2, eo]
  rw [e]
  simp [run_law_is_deed hdb.1, hd]
theorem law_run (ns : List Int) (h : ns.length ≤ 63) : ∃ fs, runF f_law_v2 [(.scr ns, 0)] = .ok (.bl true, 0) fs := by
  obtain ⟨b, eb⟩ := run_bag h
  obtain ⟨Γ', ⟨b', z2, z3, z4, z5, z6, z7, z8, rfl⟩, e⟩ := forS_nx (tg := .name 2) (body := k20b) (fun Γ => ∃ (b : Bag) (z2 z3 z4 z5 z6 z7 z8 : Option DK), Γ = [some (.scr ns, 0), some (bgD b, 1), z2, z3, z4, z5, z6, z7, z8]) (ds := rangeD 0 16) (Γ := [some (.scr ns, 0), some (bgD b, 1), none, none, none, none, none, none, none]) (by
    rintro d hd Γ ⟨b, z2, z3, z4, z5, z6, z7, z8, rfl⟩
    obtain ⟨b', q3, q4, q5, q6, q7, q8, e⟩ := k20_body (b := b) (x0 := some (.scr ns, 0)) (y2 := some (d, 0)) (y3 := z3) (y4 := z4) (y5 := z5) (y6 := z6) (y7 := z7) (y8 := z8)
    exact ⟨_, _, rfl, e, _, _, _, _, _, _, _, _, rfl⟩) ⟨_, _, _, _, _, _, _, _, rfl⟩
  have e2 : (List.replicate 2900 [D.int 0]).flatten = List.replicate 2900 (.int 0) := by kernel_rfl
  have e4 : okD (.lst (List.replicate 2900 (.int 0))) = true := by kernel_rfl
  have e5 : okD (nestD 19 (.lst [])) = true := by kernel_rfl
  have e6 : okD (.tup []) = true := by kernel_rfl
  have em : opD .mul [.lst [.int 0], .int 2900] = some (.lst (List.replicate 2900 (.int 0)), 1) := by
    rw [o_mulL, if_pos ⟨by decide, by decide, by decide⟩]
    rw [show Int.toNat 2900 = 2900 from rfl, e2]
  have r1 := fun k => run_is_deed (k := k) e4
  have r2 := fun k => run_is_deed (k := k) e5
  have r3 := fun k => run_is_deed (k := k) e6
  generalize hL : (.lst (List.replicate 2900 (.int 0)) : D) = L at *
  have n1 : isDeed L = false := by rw [← hL]; rfl
  have n2 : isDeed (nestD 19 (.lst [])) = false := rfl
  have n3 : isDeed (.tup []) = false := rfl
  rw [n1] at r1
  rw [n2] at r2
  rw [n3] at r3
  have er := fun k j => run_alike_bools (bs := [false, false, false]) (k := k) (j := j) (by simp)
  simp only [List.map_cons, List.map_nil] at er
  simp only [k20b, f_law_v2, FunIR.body] at e
  simp [f_law_v2, eb, e, em, r1, r2, r3, er]
theorem law_sem (ns : List Int) (h : ns.length ≤ 63) : semF f_law_v2 [(.scr ns, 0)] (fun r _ => r.1 = .bl true) (fun _ _ => False) := by
  obtain ⟨fs, e⟩ := law_run ns h
  refine runF_ok _ _ _ _ ?_
  rw [e]
  rfl
end DL
set_option maxHeartbeats 0
namespace DL
open PySem PySem.Spec PyProof.Rows L2
def AllF (p : FunIR → Prop) : List FunIR → Prop
  | [] => True
  | g :: r => p g ∧ AllF p r
theorem AllF.all {p : FunIR → Prop} : ∀ {l : List FunIR}, AllF p l → ∀ g ∈ l, p g
  | [], _, g, h => by cases h
  | f :: l, h, g, hg => by
    rcases List.mem_cons.mp hg with rfl | hg
    · exact h.1
    · exact h.2.all g hg
def d_is_name : He.DefD := ⟨("is_name", none), "is_name", "is_name", defArgs (top 3), defBody (top 3), defScope (top 3), [], []⟩
def d_has_make_form : He.DefD := ⟨("has_make_form", none), "has_make_form", "has_make_form", defArgs (top 6), defBody (top 6), defScope (top 6), [], []⟩
def d_is_deed : He.DefD := ⟨("is_deed", none), "is_deed", "is_deed", defArgs (top 7), defBody (top 7), defScope (top 7), [], []⟩
def d__law_bag : He.DefD := ⟨("_law_bag", none), "_law_bag", "_law_bag", defArgs (top 9), defBody (top 9), defScope (top 9), [], []⟩
def d__law_take : He.DefD := ⟨("_law_take", none), "_law_take", "_law_take", defArgs (top 10), defBody (top 10), defScope (top 10), [], []⟩
def d__law_alike : He.DefD := ⟨("_law_alike", none), "_law_alike", "_law_alike", defArgs (top 11), defBody (top 11), defScope (top 11), [], []⟩
def d__law_some : He.DefD := ⟨("_law_some", none), "_law_some", "_law_some", defArgs (top 12), defBody (top 12), defScope (top 12), [], []⟩
def d__law_mixed : He.DefD := ⟨("_law_mixed", none), "_law_mixed", "_law_mixed", defArgs (top 13), defBody (top 13), defScope (top 13), [], []⟩
def d__law_words : He.DefD := ⟨("_law_words", none), "_law_words", "_law_words", defArgs (top 14), defBody (top 14), defScope (top 14), [], []⟩
def d__law_rights : He.DefD := ⟨("_law_rights", none), "_law_rights", "_law_rights", defArgs (top 15), defBody (top 15), defScope (top 15), [], []⟩
def d__law_is_name : He.DefD := ⟨("_law_is_name", none), "_law_is_name", "_law_is_name", defArgs (top 16), defBody (top 16), defScope (top 16), [], []⟩
def d__law_nested : He.DefD := ⟨("_law_nested", none), "_law_nested", "_law_nested", defArgs (top 17), defBody (top 17), defScope (top 17), [], []⟩
def d__law_odd : He.DefD := ⟨("_law_odd", none), "_law_odd", "_law_odd", defArgs (top 18), defBody (top 18), defScope (top 18), [], []⟩
def d__law_is_deed : He.DefD := ⟨("_law_is_deed", none), "_law_is_deed", "_law_is_deed", defArgs (top 19), defBody (top 19), defScope (top 19), [], []⟩
def d__law_drawn : He.DefD := ⟨("_law_drawn", none), "_law_drawn", "_law_drawn", defArgs (top 20), defBody (top 20), defScope (top 20), [], []⟩
def d__law_bent : He.DefD := ⟨("_law_bent", none), "_law_bent", "_law_bent", defArgs (top 21), defBody (top 21), defScope (top 21), [], []⟩
def d_law : He.DefD := ⟨("law", none), "law", "law", defArgs (top 22), defBody (top 22), defScope (top 22), [], []⟩
def fns : List He.DefD := [d_is_name, d_has_make_form, d_is_deed, d__law_bag, d__law_take, d__law_alike, d__law_some, d__law_mixed, d__law_words, d__law_rights, d__law_is_name, d__law_nested, d__law_odd, d__law_is_deed, d__law_drawn, d__law_bent, d_law]
def fas : List He.Fa := [.glo "is_name", .glo "has_make_form", .glo "is_deed", .glo "_law_bag", .glo "_law_take", .glo "_law_alike", .glo "_law_some", .glo "_law_mixed", .glo "_law_words", .glo "_law_rights", .glo "_law_is_name", .glo "_law_nested", .glo "_law_odd", .glo "_law_is_deed", .glo "_law_drawn", .glo "_law_bent", .glo "law", .free "len", .free "abs", .free "int", .free "list", .free "tuple", .free "repr", .free "all", .free "any", .free "isinstance", .free "range", .free "str", .free "bool", .free "dict", .free "set", .free "sorted", .free "zip", .free "enumerate", .free "reversed", .free "sum", .free "min", .free "max", .str "LETTERS" "abcdefghijklmnopqrstuvwxyz", .int "LONGEST" 8]
def tps : List (Str × List Str) := [("KINDS", ["person", "thing"])]
abbrev R : PySem.W.OpenRow := PySem.W.OpenLaw.row PySem.Challenge.rw_takeandhand_k20_deeds_known
abbrev hk : PySem.W.Hook := hookS 4 fas fns tps
def ob (s : PySem.W.SharedT) : He.AlD × (Bool × Bool) := (He.obsDG 4 fas fns (HandSHeadRun.getT s), (isDictO (HandSHeadRun.getT s sysModules), tps.all (tupIn (He.frG (HandSHeadRun.getT s) (He.asD (HandSHeadRun.getT s) 4)))))
theorem ob_eq (s : PySem.W.SharedT) : ob s = hk.obs s.abs := by
  have e : HandSHeadRun.getT s = s.abs.heap.get? := funext fun a => HandSHeadRun.getT_eq s a
  show (He.obsDG 4 fas fns (HandSHeadRun.getT s), (isDictO (HandSHeadRun.getT s sysModules), tps.all (tupIn (He.frG (HandSHeadRun.getT s) (He.asD (HandSHeadRun.getT s) 4))))) = (He.obsDG 4 fas fns s.abs.heap.get?, (isDictO (s.abs.heap.get? sysModules), tps.all (tupIn (He.frG s.abs.heap.get? (He.asD s.abs.heap.get? 4)))))
  rw [e]
theorem run (w : World) : HandSHeadRun.RunEq R (PySem.W.view R.prog [22]) hk ob 8000 ["LETTERS", "LONGEST", "KINDS", "is_name", "has_make_form", "is_deed", "_law_bag", "_law_take", "_law_alike", "_law_some", "_law_mixed", "_law_words", "_law_rights", "_law_is_name", "_law_nested", "_law_odd", "_law_is_deed", "_law_drawn", "_law_bent"] w := by
  intro os
  kernel_rfl
theorem facts {P : Program} {w : World} {K : PySem.W.Frag} {h : Heap} {mg : Str → Option Value} {f : Addr} (X : K.In h) (N : h.Ns mainGlobals mg) (hfa : mg ("law" : Str) = some (.ref f)) (c : He.SaysD fas fns K) (ct : tps.all (tupIn K) = true) :
    ∃ fd : FuncData, (∀ (s : Shared) (v : Value), BindsTo s fd ⟨[v], []⟩ [("_law_script", v)]) ∧ ∀ base : Heap, K.In base → base.Ns mainGlobals mg → (∃ o, base.get? sysModules = some o) → FnG P w K mg base (L2.CX P w) 6 f fd ["_law_script"] (spOf ⟨K, fun _ _ => False⟩ f_law_v2) := by
  obtain ⟨fd0, F0⟩ := c.def_ 0 (d := d_is_name) rfl
  obtain ⟨fd1, F1⟩ := c.def_ 1 (d := d_has_make_form) rfl
  obtain ⟨fd2, F2⟩ := c.def_ 2 (d := d_is_deed) rfl
  obtain ⟨fd3, F3⟩ := c.def_ 3 (d := d__law_bag) rfl
  obtain ⟨fd4, F4⟩ := c.def_ 4 (d := d__law_take) rfl
  obtain ⟨fd5, F5⟩ := c.def_ 5 (d := d__law_alike) rfl
  obtain ⟨fd6, F6⟩ := c.def_ 6 (d := d__law_some) rfl
  obtain ⟨fd7, F7⟩ := c.def_ 7 (d := d__law_mixed) rfl
  obtain ⟨fd8, F8⟩ := c.def_ 8 (d := d__law_words) rfl
  obtain ⟨fd9, F9⟩ := c.def_ 9 (d := d__law_rights) rfl
  obtain ⟨fd10, F10⟩ := c.def_ 10 (d := d__law_is_name) rfl
  obtain ⟨fd11, F11⟩ := c.def_ 11 (d := d__law_nested) rfl
  obtain ⟨fd12, F12⟩ := c.def_ 12 (d := d__law_odd) rfl
  obtain ⟨fd13, F13⟩ := c.def_ 13 (d := d__law_is_deed) rfl
  obtain ⟨fd14, F14⟩ := c.def_ 14 (d := d__law_drawn) rfl
  obtain ⟨fd15, F15⟩ := c.def_ 15 (d := d__law_bent) rfl
  obtain ⟨fd16, F16⟩ := c.def_ 16 (d := d_law) rfl
  have e := hfa.symm.trans (He.glo_ok X N (c.fact 16 (f := .glo "law") rfl))
  cases e
  have b := FunD.bindsA (ps := ["_law_script"]) F16 fun _ _ _ _ _ _ us hl => match us, hl with | [_], _ => rfl
  refine ⟨fd16, fun s v => b s [v] rfl, fun base _ _ hsy => ?_⟩
  have B : Base ⟨K, fun _ _ => False⟩ K mg base gls := ⟨rfl, hsy, fun x hx => by
    simp only [bltNames, List.mem_cons, List.not_mem_nil, or_false] at hx
    rcases hx with rfl | rfl | rfl | rfl | rfl | rfl | rfl | rfl | rfl | rfl | rfl | rfl | rfl | rfl | rfl | rfl | rfl | rfl | rfl | rfl | rfl
    · exact He.free_ok X N (c.fact 17 (f := .free "len") rfl)
    · exact He.free_ok X N (c.fact 18 (f := .free "abs") rfl)
    · exact He.free_ok X N (c.fact 19 (f := .free "int") rfl)
    · exact He.free_ok X N (c.fact 20 (f := .free "list") rfl)
    · exact He.free_ok X N (c.fact 21 (f := .free "tuple") rfl)
    · exact He.free_ok X N (c.fact 22 (f := .free "repr") rfl)
    · exact He.free_ok X N (c.fact 23 (f := .free "all") rfl)
    · exact He.free_ok X N (c.fact 24 (f := .free "any") rfl)
    · exact He.free_ok X N (c.fact 25 (f := .free "isinstance") rfl)
    · exact He.free_ok X N (c.fact 26 (f := .free "range") rfl)
    · exact He.free_ok X N (c.fact 27 (f := .free "str") rfl)
    · exact He.free_ok X N (c.fact 28 (f := .free "bool") rfl)
    · exact He.free_ok X N (c.fact 29 (f := .free "dict") rfl)
    · exact He.free_ok X N (c.fact 30 (f := .free "set") rfl)
    · exact He.free_ok X N (c.fact 31 (f := .free "sorted") rfl)
    · exact He.free_ok X N (c.fact 32 (f := .free "zip") rfl)
    · exact He.free_ok X N (c.fact 33 (f := .free "enumerate") rfl)
    · exact He.free_ok X N (c.fact 34 (f := .free "reversed") rfl)
    · exact He.free_ok X N (c.fact 35 (f := .free "sum") rfl)
    · exact He.free_ok X N (c.fact 36 (f := .free "min") rfl)
    · exact He.free_ok X N (c.fact 37 (f := .free "max") rfl)
    , fun x c0 hx => by
    simp only [gls, List.lookup_cons, List.lookup_nil] at hx
    split at hx
    · rename_i hh
      cases hx
      have hh := eq_of_beq hh
      subst hh
      obtain ⟨t, ht⟩ := He.str_ok X N (c.fact 38 (f := .str "LETTERS" "abcdefghijklmnopqrstuvwxyz") rfl)
      exact ⟨cV (.str "abcdefghijklmnopqrstuvwxyz"), _, ht, ⟨t, rfl⟩, fun S => by simp only [Cst.d, cV, Rep]⟩
    split at hx
    · rename_i hh
      cases hx
      have hh := eq_of_beq hh
      subst hh
      obtain ⟨t, ht⟩ := He.int_ok X N (c.fact 39 (f := .int "LONGEST" 8) rfl)
      exact ⟨cV (.int 8), _, ht, ⟨t, rfl⟩, fun S => by simp only [Cst.d, cV, Rep]⟩
    split at hx
    · rename_i hh
      cases hx
      have hh := eq_of_beq hh
      subst hh
      exact tupIn_ok X N (List.all_eq_true.mp ct _ (List.mem_of_getElem? (i := 0) rfl)) rfl
    cases hx⟩
  have G_is_name := fnG_ok (P := P) (w := w) (k := 0) (f := f_is_name) B F0 s_is_name m_is_name (AllF.all (show AllF (At P w K mg base ⟨K, fun _ _ => False⟩ 0) (callsSs f_is_name.body) from trivial))
  have A_is_name : At P w K mg base ⟨K, fun _ _ => False⟩ 1 f_is_name := ⟨_, fd0, G_is_name, He.glo_ok X N (c.fact 0 (f := .glo "is_name") rfl), F0.kp, F0.bindsN fun _ _ _ _ _ _ us hl => match us, hl with | [_], _ => rfl⟩
  have G_has_make_form := fnG_ok (P := P) (w := w) (k := 1) (f := f_has_make_form) B F1 s_has_make_form m_has_make_form (AllF.all (show AllF (At P w K mg base ⟨K, fun _ _ => False⟩ 1) (callsSs f_has_make_form.body) from ⟨A_is_name.mono (by decide), A_is_name.mono (by decide), A_is_name.mono (by decide), trivial⟩))
  have A_has_make_form : At P w K mg base ⟨K, fun _ _ => False⟩ 2 f_has_make_form := ⟨_, fd1, G_has_make_form, He.glo_ok X N (c.fact 1 (f := .glo "has_make_form") rfl), F1.kp, F1.bindsN fun _ _ _ _ _ _ us hl => match us, hl with | [_], _ => rfl⟩
  have G_is_deed := fnG_ok (P := P) (w := w) (k := 2) (f := f_is_deed) B F2 s_is_deed m_is_deed (AllF.all (show AllF (At P w K mg base ⟨K, fun _ _ => False⟩ 2) (callsSs f_is_deed.body) from ⟨A_is_name.mono (by decide), A_has_make_form.mono (by decide), A_is_name.mono (by decide), A_is_name.mono (by decide), trivial⟩))
  have A_is_deed : At P w K mg base ⟨K, fun _ _ => False⟩ 3 f_is_deed := ⟨_, fd2, G_is_deed, He.glo_ok X N (c.fact 2 (f := .glo "is_deed") rfl), F2.kp, F2.bindsN fun _ _ _ _ _ _ us hl => match us, hl with | [_], _ => rfl⟩
  have G__law_bag := fnG_ok (P := P) (w := w) (k := 0) (f := f__law_bag) B F3 s__law_bag m__law_bag (AllF.all (show AllF (At P w K mg base ⟨K, fun _ _ => False⟩ 0) (callsSs f__law_bag.body) from trivial))
  have A__law_bag : At P w K mg base ⟨K, fun _ _ => False⟩ 1 f__law_bag := ⟨_, fd3, G__law_bag, He.glo_ok X N (c.fact 3 (f := .glo "_law_bag") rfl), F3.kp, F3.bindsN fun _ _ _ _ _ _ us hl => match us, hl with | [_], _ => rfl⟩
  have G__law_take := fnG_ok (P := P) (w := w) (k := 0) (f := f__law_take) B F4 s__law_take m__law_take (AllF.all (show AllF (At P w K mg base ⟨K, fun _ _ => False⟩ 0) (callsSs f__law_take.body) from trivial))
  have A__law_take : At P w K mg base ⟨K, fun _ _ => False⟩ 1 f__law_take := ⟨_, fd4, G__law_take, He.glo_ok X N (c.fact 4 (f := .glo "_law_take") rfl), F4.kp, F4.bindsN fun _ _ _ _ _ _ us hl => match us, hl with | [_, _], _ => rfl⟩
  have G__law_alike := fnG_ok (P := P) (w := w) (k := 0) (f := f__law_alike) B F5 s__law_alike m__law_alike (AllF.all (show AllF (At P w K mg base ⟨K, fun _ _ => False⟩ 0) (callsSs f__law_alike.body) from trivial))
  have A__law_alike : At P w K mg base ⟨K, fun _ _ => False⟩ 1 f__law_alike := ⟨_, fd5, G__law_alike, He.glo_ok X N (c.fact 5 (f := .glo "_law_alike") rfl), F5.kp, F5.bindsN fun _ _ _ _ _ _ us hl => match us, hl with | [_, _], _ => rfl⟩
  have G__law_some := fnG_ok (P := P) (w := w) (k := 1) (f := f__law_some) B F6 s__law_some m__law_some (AllF.all (show AllF (At P w K mg base ⟨K, fun _ _ => False⟩ 1) (callsSs f__law_some.body) from ⟨A__law_take.mono (by decide), trivial⟩))
  have A__law_some : At P w K mg base ⟨K, fun _ _ => False⟩ 2 f__law_some := ⟨_, fd6, G__law_some, He.glo_ok X N (c.fact 6 (f := .glo "_law_some") rfl), F6.kp, F6.bindsN fun _ _ _ _ _ _ us hl => match us, hl with | [_, _], _ => rfl⟩
  have G__law_mixed := fnG_ok (P := P) (w := w) (k := 1) (f := f__law_mixed) B F7 s__law_mixed m__law_mixed (AllF.all (show AllF (At P w K mg base ⟨K, fun _ _ => False⟩ 1) (callsSs f__law_mixed.body) from ⟨A__law_take.mono (by decide), trivial⟩))
  have A__law_mixed : At P w K mg base ⟨K, fun _ _ => False⟩ 2 f__law_mixed := ⟨_, fd7, G__law_mixed, He.glo_ok X N (c.fact 7 (f := .glo "_law_mixed") rfl), F7.kp, F7.bindsN fun _ _ _ _ _ _ us hl => match us, hl with | [_, _], _ => rfl⟩
  have G__law_words := fnG_ok (P := P) (w := w) (k := 2) (f := f__law_words) B F8 s__law_words m__law_words (AllF.all (show AllF (At P w K mg base ⟨K, fun _ _ => False⟩ 2) (callsSs f__law_words.body) from ⟨A__law_take.mono (by decide), A__law_take.mono (by decide), A__law_take.mono (by decide), A__law_take.mono (by decide), A__law_take.mono (by decide), A__law_mixed.mono (by decide), trivial⟩))
  have A__law_words : At P w K mg base ⟨K, fun _ _ => False⟩ 3 f__law_words := ⟨_, fd8, G__law_words, He.glo_ok X N (c.fact 8 (f := .glo "_law_words") rfl), F8.kp, F8.bindsN fun _ _ _ _ _ _ us hl => match us, hl with | [_, _], _ => rfl⟩
  have G__law_rights := fnG_ok (P := P) (w := w) (k := 3) (f := f__law_rights) B F9 s__law_rights m__law_rights (AllF.all (show AllF (At P w K mg base ⟨K, fun _ _ => False⟩ 3) (callsSs f__law_rights.body) from ⟨A__law_words.mono (by decide), trivial⟩))
  have A__law_rights : At P w K mg base ⟨K, fun _ _ => False⟩ 4 f__law_rights := ⟨_, fd9, G__law_rights, He.glo_ok X N (c.fact 9 (f := .glo "_law_rights") rfl), F9.kp, F9.bindsN fun _ _ _ _ _ _ us hl => match us, hl with | [_], _ => rfl⟩
  have G__law_is_name := fnG_ok (P := P) (w := w) (k := 0) (f := f__law_is_name) B F10 s__law_is_name m__law_is_name (AllF.all (show AllF (At P w K mg base ⟨K, fun _ _ => False⟩ 0) (callsSs f__law_is_name.body) from trivial))
  have A__law_is_name : At P w K mg base ⟨K, fun _ _ => False⟩ 1 f__law_is_name := ⟨_, fd10, G__law_is_name, He.glo_ok X N (c.fact 10 (f := .glo "_law_is_name") rfl), F10.kp, F10.bindsN fun _ _ _ _ _ _ us hl => match us, hl with | [_], _ => rfl⟩
  have G__law_nested := fnG_ok (P := P) (w := w) (k := 0) (f := f__law_nested) B F11 s__law_nested m__law_nested (AllF.all (show AllF (At P w K mg base ⟨K, fun _ _ => False⟩ 0) (callsSs f__law_nested.body) from trivial))
  have A__law_nested : At P w K mg base ⟨K, fun _ _ => False⟩ 1 f__law_nested := ⟨_, fd11, G__law_nested, He.glo_ok X N (c.fact 11 (f := .glo "_law_nested") rfl), F11.kp, F11.bindsN fun _ _ _ _ _ _ us hl => match us, hl with | [_], _ => rfl⟩
  have G__law_odd := fnG_ok (P := P) (w := w) (k := 2) (f := f__law_odd) B F12 s__law_odd m__law_odd (AllF.all (show AllF (At P w K mg base ⟨K, fun _ _ => False⟩ 2) (callsSs f__law_odd.body) from ⟨A__law_nested.mono (by decide), A__law_some.mono (by decide), trivial⟩))
  have A__law_odd : At P w K mg base ⟨K, fun _ _ => False⟩ 3 f__law_odd := ⟨_, fd12, G__law_odd, He.glo_ok X N (c.fact 12 (f := .glo "_law_odd") rfl), F12.kp, F12.bindsN fun _ _ _ _ _ _ us hl => match us, hl with | [_], _ => rfl⟩
  have G__law_is_deed := fnG_ok (P := P) (w := w) (k := 1) (f := f__law_is_deed) B F13 s__law_is_deed m__law_is_deed (AllF.all (show AllF (At P w K mg base ⟨K, fun _ _ => False⟩ 1) (callsSs f__law_is_deed.body) from ⟨A__law_is_name.mono (by decide), A__law_is_name.mono (by decide), A__law_is_name.mono (by decide), trivial⟩))
  have A__law_is_deed : At P w K mg base ⟨K, fun _ _ => False⟩ 2 f__law_is_deed := ⟨_, fd13, G__law_is_deed, He.glo_ok X N (c.fact 13 (f := .glo "_law_is_deed") rfl), F13.kp, F13.bindsN fun _ _ _ _ _ _ us hl => match us, hl with | [_], _ => rfl⟩
  have G__law_drawn := fnG_ok (P := P) (w := w) (k := 4) (f := f__law_drawn) B F14 s__law_drawn m__law_drawn (AllF.all (show AllF (At P w K mg base ⟨K, fun _ _ => False⟩ 4) (callsSs f__law_drawn.body) from ⟨A__law_some.mono (by decide), A__law_some.mono (by decide), A__law_some.mono (by decide), A__law_rights.mono (by decide), A__law_take.mono (by decide), A__law_some.mono (by decide), A__law_rights.mono (by decide), A__law_some.mono (by decide), trivial⟩))
  have A__law_drawn : At P w K mg base ⟨K, fun _ _ => False⟩ 5 f__law_drawn := ⟨_, fd14, G__law_drawn, He.glo_ok X N (c.fact 14 (f := .glo "_law_drawn") rfl), F14.kp, F14.bindsN fun _ _ _ _ _ _ us hl => match us, hl with | [_, _], _ => rfl⟩
  have G__law_bent := fnG_ok (P := P) (w := w) (k := 3) (f := f__law_bent_v2) B F15 s__law_bent m__law_bent (AllF.all (show AllF (At P w K mg base ⟨K, fun _ _ => False⟩ 3) (callsSs f__law_bent_v2.body) from ⟨A__law_take.mono (by decide), A__law_take.mono (by decide), A__law_some.mono (by decide), A__law_odd.mono (by decide), A__law_some.mono (by decide), A__law_some.mono (by decide), trivial⟩))
  have A__law_bent : At P w K mg base ⟨K, fun _ _ => False⟩ 4 f__law_bent_v2 := ⟨_, fd15, G__law_bent, He.glo_ok X N (c.fact 15 (f := .glo "_law_bent") rfl), F15.kp, F15.bindsN fun _ _ _ _ _ _ us hl => match us, hl with | [_, _, _], _ => rfl⟩
  have G_law := fnG_ok (P := P) (w := w) (k := 5) (f := f_law_v2) B F16 s_law m_law (AllF.all (show AllF (At P w K mg base ⟨K, fun _ _ => False⟩ 5) (callsSs f_law_v2.body) from ⟨A__law_bag.mono (by decide), A__law_words.mono (by decide), A__law_drawn.mono (by decide), A__law_bent.mono (by decide), A__law_bent.mono (by decide), A__law_odd.mono (by decide), A__law_is_deed.mono (by decide), A__law_alike.mono (by decide), A_is_deed.mono (by decide), A_is_deed.mono (by decide), A__law_is_deed.mono (by decide), A__law_alike.mono (by decide), A_is_deed.mono (by decide), A_is_deed.mono (by decide), A__law_nested.mono (by decide), A_is_deed.mono (by decide), trivial⟩))
  exact G_law
end DL
open PySem PySem.W PySem.Calls PyProof.Rows
theorem PySem.Challenge.cw_takeandhand_k20_deeds_known_holds : PySem.Challenge.rw_takeandhand_k20_deeds_known.Holds := by
  w_on; o_law
  refine HandSHeadRun.head_any (r := OpenLaw.row PySem.Challenge.rw_takeandhand_k20_deeds_known) (q := view (OpenLaw.row PySem.Challenge.rw_takeandhand_k20_deeds_known).prog [22]) (H := DL.hk) (ob := DL.ob) (M := 8000) (loose := ["LETTERS", "LONGEST", "KINDS", "is_name", "has_make_form", "is_deed", "_law_bag", "_law_take", "_law_alike", "_law_some", "_law_mixed", "_law_words", "_law_rights", "_law_is_name", "_law_nested", "_law_odd", "_law_is_deed", "_law_drawn", "_law_bent"]) (d := HandSHeadRun.topDef (OpenLaw.row PySem.Challenge.rw_takeandhand_k20_deeds_known).prog 22) (kwd := []) DL.ob_eq
    (by kernel_rfl) (fun s => by kernel_rfl) DL.run (by kernel_rfl) (by kernel_rfl) (by kernel_rfl) (by rfl) (by first | assumption | decide +kernel) (by decide +kernel) ⟨rfl, rfl, rfl, rfl, rfl, by decide +kernel⟩ ?hw ?hc
  case hw => w_witness2
  case hc =>
    refine DL.walk_G (l := PySem.Challenge.rw_takeandhand_k20_deeds_known) (n := 63) (k := 6) (x := "_law_script") (CX := L2.CX PySem.Challenge.rw_takeandhand_k20_deeds_known.prog) rfl (by decide) (by kernel_rfl) ⟨rfl, by decide, by decide⟩ ?F ?X
    case X => exact fun _ _ _ _ _ ⟨_, _, _, _, _, _, _, _, _, _, _, _, z⟩ => z
    intro w mg fa h Y G hmg0
    obtain ⟨⟨K, KX, c, ct⟩, hsy⟩ := Y
    have hmg : mg ("law" : PySem.Str) = some (.ref fa) := by
      have e : (HandSHeadRun.topDef (OpenLaw.row PySem.Challenge.rw_takeandhand_k20_deeds_known).prog 22).name = ("law" : PySem.Str) := by kernel_rfl
      rw [← e]
      exact hmg0
    obtain ⟨fd, hb, hF⟩ := DL.facts (P := (PySem.Challenge.rw_takeandhand_k20_deeds_known).prog) (w := w) KX G hmg c ct
    exact ⟨K, fd, _, KX, hsy, hb, fun H a ns hl hO hS => DL.sp_law (G := ⟨K, fun _ _ => False⟩) rfl hO hS (DL.law_sem ns hl), hF⟩
